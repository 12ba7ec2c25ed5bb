import PyProof.Rows.All
import Wide.All
import OpenK.AllK
import Wide.FinOn
import HandS.ForMost
import HandS.Exc
import HandS.CallSlots
import HandS.WordsExc
import HandS.Flow
import HandS.Style
import HandS.Zip
import HandS.TupAny
import HandS.TupMul
import HandS.IsInst
import HandS.Gcd
import HandS.Wide
import HandS.Defaults
import HandS.ExcOwn
import PySem.Str
import PyProof.Fits
import HandS.List
import KE.GoesMore
import HandS.Head2
import HandS.HeadHook1
import HandS.HeadHook2
import HandS.Head0
import HandS.Head1
import HandS.HeadEnd
import KE.KStateDown
import HandS.Ends
import HandS.Words
import HandS.Head3
import PySem.Challenge.RW_highrooms_k04_determinants_and_inverses
section
set_option linter.all false
set_option autoImplicit false
/-! Sm1: a small language for the defs of the text, by values: its syntax and what it computes. -/
namespace Sm
open PySem
/-- a datum -/
inductive D where
  | non | bl (b : Bool) | int (i : Int) | str (s : Str) | tup (ds : List D) | lst (ds : List D) | obj (c : Str) (ds : List D)
  deriving Inhabited
/-- what a slot of a frame holds: nothing; a datum; a list of its own (io: its caller's, lk, lki: while it is walked); something borrowed -/
inductive Sl where
  | un | dat (d : D) | own (ds : List D) | io (ds : List D) | lk (ds : List D) | lki (ds : List D) | bor (d : D) | scr (ds : List D)
  deriving Inhabited
abbrev En := List Sl
inductive Res (α : Type) where
  | ok (a : α) (ρ : En) | exc (c : Str) (x : D) (ρ : En) | bad
inductive FRes where
  | ok (d : D) (ios : List (List D)) | exc (c : Str) (x : D) | bad
def Res.bind {α β : Type} (r : Res α) (f : α → En → Res β) : Res β := match r with
  | .ok a ρ => f a ρ
  | .exc c x ρ => .exc c x ρ
  | .bad => .bad
/-- an operand: a datum, or what the slot i holds when it is looked at -/
inductive Hd where
  | d (x : D) | b (i : Nat) | o (i : Nat) | s (i : Nat)
/-- an argument: a datum, something borrowed (from slot i), a list handed over to be changed (slot i) -/
inductive Ar where
  | d (x : D) | b (i : Nat) (x : D) | o (i : Nat) (ds : List D) | s (ds : List D)
inductive Bop where | add | sub | mul | fdiv | mod | pow
  deriving DecidableEq
inductive Cop where | eq | ne | lt | le | gt | ge | is_ | isnot | in_ | notin
  deriving DecidableEq
inductive Bi where | len | int_ | abs | tuple | list | gcd | lcm | sum | min2 | max2 | sorted | any_ | all_
  deriving DecidableEq
inductive Ty where | int | bool | str | list | tuple | cls (c : Str)
  deriving DecidableEq
inductive Tg where
  | nm (i : Nat) | tp (a : Tg) (r : Tg) | nl
mutual
inductive Ex where
  | var (i : Nat) | bor (i : Nat) | io (i : Nat) | scr (i : Nat)
  | non | bl (b : Bool) | int (n : Int) | str (s : Str)
  | tup (es : Exs) | lst (es : Exs)
  | bin (o : Bop) (a b : Ex) | neg (a : Ex) | not_ (a : Ex)
  | cmp (o : Cop) (a b : Ex)
  | and_ (a b : Ex) | or_ (a b : Ex) | ife (c a b : Ex)
  | idx (a i : Ex) | slc (a lo hi : Ex) | slcS (i : Nat) (lo hi : Ex)
  | call (f : Nat) (es : Exs) | cal (b : Bi) (es : Exs)
  | isi (a : Ex) (ts : List Ty)
  | lc (tg : Tg) (own : List Nat) (src : It) (cond : Ex) (elt : Ex)
inductive Exs where
  | nil | cons (e : Ex) (es : Exs)
inductive It where
  | seq (e : Ex) | rng1 (a : Ex) | rng2 (a b : Ex) | rng3 (a b c : Ex) | zip (a b : Ex) | enum (a : Ex) | rev (a : Ex)
end
inductive STg where
  | nm (i : Nat) | sub (i : Nat) (k : Ex)
mutual
inductive St where
  | set (i : Nat) (e : Ex) | setO (i : Nat) (e : Ex)
  | unp (t : Tg) (e : Ex)
  | par (is : List (Nat × Bool)) (es : Exs)
  | asgs (ts : List STg) (es : Exs)
  | sto (i : Nat) (k e : Ex) | app (i : Nat) (e : Ex) | ext (i : Nat) (e : Ex) | ins (i : Nat) (k e : Ex)
  | aug (i : Nat) (o : Bop) (e : Ex)
  | ex (e : Ex)
  | ite (c : Ex) (a b : Sts)
  | for_ (t : Tg) (it : It) (b : Sts)
  | whl (c : Ex) (b : Sts)
  | ret (e : Ex) | retO (e : Ex) | retN
  | brk | cnt | pass
  | frz (i : Nat)
  | rais (c : Str) (e : Ex)
  | never
inductive Sts where
  | nil | cons (s : St) (r : Sts)
end
inductive Mo where | d | b | o | s
  deriving DecidableEq
structure Fn where
  name : Str
  names : List Str
  mos : List Mo
  own : Bool := false
  body : Sts
inductive Fl where
  | nx | rt (d : D) | bk | ct

/-! ### operations by values -/
def opt {α : Type} (o : Option α) (ρ : En) : Res α := match o with
  | some a => .ok a ρ
  | none => .bad
def mulB (a b : Int) : Bool := !(decide (Builtin.Int.intBits a > shortFactorBits) && decide (Builtin.Int.intBits b > shortFactorBits) && Builtin.Int.intTooBig (Builtin.Int.intBits a + Builtin.Int.intBits b))
def D.add : D → D → Option D
  | .int a, .int b => some (.int (a + b))
  | .tup a, .tup b => if a.length + b.length ≤ sizeLine then some (.tup (a ++ b)) else none
  | .lst a, .lst b => if a.length + b.length ≤ sizeLine then some (.lst (a ++ b)) else none
  | _, _ => none
def D.sub : D → D → Option D
  | .int a, .int b => some (.int (a - b))
  | _, _ => none
def D.mul : D → D → Option D
  | .int a, .int b => if mulB a b = true then some (.int (a * b)) else none
  | .lst a, .int k => if k.natAbs < 2 ^ 63 ∧ a.length * k.toNat ≤ sizeLine then some (.lst (List.replicate k.toNat a).flatten) else none
  | .tup a, .int k => if a ≠ [] ∧ 2 ≤ k ∧ k ≤ 1000 ∧ a.length ≤ 1000 then some (.tup (List.replicate k.toNat a).flatten) else none
  | _, _ => none
def D.fdiv : D → D → Option D
  | .int a, .int b => if b ≠ 0 ∧ Builtin.divisionGoesByPylong a b = false then some (.int (a.fdiv b)) else none
  | _, _ => none
def D.mod : D → D → Option D
  | .int a, .int b => if b ≠ 0 then some (.int (a.fmod b)) else none
  | _, _ => none
def D.pow : D → D → Option D
  | .int a, .int b => if 0 ≤ b ∧ b.natAbs ≤ 1000000 ∧ a.natAbs < 2 ^ 64 then some (.int (a ^ b.toNat)) else none
  | _, _ => none
def Bop.ev : Bop → D → D → Option D
  | .add => D.add | .sub => D.sub | .mul => D.mul | .fdiv => D.fdiv | .mod => D.mod | .pow => D.pow
def D.neg : D → Option D
  | .int a => some (.int (-a))
  | _ => none
def D.truth : D → Option Bool
  | .non => some false | .bl b => some b | .int i => some (i != 0) | .str s => if s.length ≤ sizeLine then some (s.length != 0) else none
  | .tup ds => some (!ds.isEmpty) | .lst ds => some (!ds.isEmpty) | .obj _ _ => none
mutual
/-- == -/
def D.eqb : D → D → Bool
  | .non, .non => true
  | .bl a, .bl b => a == b
  | .int a, .int b => a == b
  | .bl a, .int b => (if a then 1 else 0 : Int) == b
  | .int a, .bl b => a == (if b then 1 else 0 : Int)
  | .str a, .str b => a == b
  | .tup a, .tup b => D.eqbL a b
  | .lst a, .lst b => D.eqbL a b
  | _, _ => false
def D.eqbL : List D → List D → Bool
  | [], [] => true
  | x :: xs, y :: ys => D.eqb x y && D.eqbL xs ys
  | _, _ => false
end
mutual
/-- plain data, not too deep -/
def D.shp : Nat → D → Bool
  | _, .non => true
  | _, .bl _ => true
  | _, .int _ => true
  | _, .str s => PyData.strOk s
  | n + 1, .tup ds => D.shpL n ds
  | n + 1, .lst ds => D.shpL n ds
  | 0, .tup _ => false
  | 0, .lst _ => false
  | _, .obj _ _ => false
def D.shpL : Nat → List D → Bool
  | _, [] => true
  | n, d :: ds => D.shp n d && D.shpL n ds
end
def D.eqv (a b : D) : Option Bool := if D.shp 60 a = true ∧ D.shp 60 b = true then some (D.eqb a b) else none
def D.flat : D → Bool
  | .non => true | .bl _ => true | .int _ => true | .str _ => true | _ => false
def D.isN : D → Bool
  | .non => true
  | _ => false
def D.items : D → Option (List D)
  | .tup ds => some ds
  | .lst ds => some ds
  | _ => none
def D.isin (x y : D) : Option Bool := match y.items with
  | some ds => if x.flat && ds.all D.flat then some (ds.any fun d => D.eqb d x) else none
  | none => none
def D.ltI (p : Int → Int → Bool) : D → D → Option D
  | .int a, .int b => some (.bl (p a b))
  | _, _ => none
def Cop.ev : Cop → D → D → Option D
  | .eq, a, b => (D.eqv a b).map .bl
  | .ne, a, b => (D.eqv a b).map fun c => .bl (!c)
  | .lt, a, b => D.ltI (fun i j => decide (i < j)) a b
  | .le, a, b => D.ltI (fun i j => decide (i ≤ j)) a b
  | .gt, a, b => D.ltI (fun i j => decide (j < i)) a b
  | .ge, a, b => D.ltI (fun i j => decide (j ≤ i)) a b
  | .is_, a, .non => some (.bl a.isN)
  | .isnot, a, .non => some (.bl (!a.isN))
  | .is_, _, _ => none
  | .isnot, _, _ => none
  | .in_, a, b => (D.isin a b).map .bl
  | .notin, a, b => (D.isin a b).map fun c => .bl (!c)
def D.idx : D → D → Option D
  | .tup ds, .int i => L2.atI ds i
  | .lst ds, .int i => L2.atI ds i
  | _, _ => none
def cutD (xs : List D) (lo hi : Option Int) : List D := (xs.drop (HT.sIx xs.length 0 lo)).take (HT.sIx xs.length xs.length hi - HT.sIx xs.length 0 lo)
def D.slc (a : D) (l h : Option Int) : Option D := match a with
  | .tup ds => some (.tup (cutD ds l h))
  | .lst ds => some (.lst (cutD ds l h))
  | _ => none
def D.ints : List D → Option (List Int)
  | [] => some []
  | .int i :: r => (D.ints r).map (i :: ·)
  | _ :: _ => none
def Bi.ev : Bi → List D → Option D
  | .len, [.tup ds] => some (.int ds.length)
  | .len, [.lst ds] => some (.int ds.length)
  | .len, [.str s] => if s.length ≤ sizeLine then some (.int s.length) else none
  | .int_, [.int i] => some (.int i)
  | .int_, [.bl b] => some (.int (if b then 1 else 0))
  | .abs, [.int i] => some (.int (if i < 0 then -i else i))
  | .tuple, [.lst ds] => some (.tup ds)
  | .tuple, [.tup ds] => some (.tup ds)
  | .list, [.lst ds] => some (.lst ds)
  | .list, [.tup ds] => some (.lst ds)
  | .gcd, [.int a, .int b] => some (.int (Nat.gcd a.natAbs b.natAbs : Nat))
  | .lcm, [.int a, .int b] => if a.natAbs < 2 ^ 64 ∧ b.natAbs < 2 ^ 64 then some (.int (Nat.lcm a.natAbs b.natAbs : Nat)) else none
  | .sum, [.lst ds] => (D.ints ds).map fun l => .int l.sum
  | .min2, [.int a, .int b] => some (.int (if b < a then b else a))
  | .max2, [.int a, .int b] => some (.int (if b > a then b else a))
  | _, _ => none
def Ty.has : Ty → D → Bool
  | .int, .int _ => true | .int, .bl _ => true | .bool, .bl _ => true | .str, .str _ => true
  | .list, .lst _ => true | .tuple, .tup _ => true | .cls c, .obj c' _ => c == c'
  | _, _ => false

/-! ### slots -/
def rdE (i : Nat) : En → Res D := fun ρ => match ρ[i]? with
  | some (.dat d) => .ok d ρ
  | _ => .bad
def Sl.see : Sl → Option D
  | .un => none | .dat d => some d | .own ds => some (.lst ds) | .io ds => some (.lst ds) | .lk ds => some (.lst ds) | .lki ds => some (.lst ds) | .bor d => some d | .scr _ => none
def rdB (i : Nat) : En → Res D := fun ρ => match ρ[i]? with
  | some s => opt s.see ρ
  | none => .bad
def rdO (i : Nat) : En → Res (List D) := fun ρ => match ρ[i]? with
  | some (.own ds) => .ok ds ρ
  | some (.io ds) => .ok ds ρ
  | _ => .bad
/-- the script -/
def rdS (i : Nat) : En → Res (List D) := fun ρ => match ρ[i]? with
  | some (.scr ds) => .ok ds ρ
  | _ => .bad
def Hd.look : Hd → En → Res D
  | .d x, ρ => .ok x ρ
  | .b i, ρ => rdB i ρ
  | .o _, _ => .bad
  | .s _, _ => .bad
def fillA : List Hd → En → Res (List Ar)
  | [], ρ => .ok [] ρ
  | .d x :: r, ρ => (fillA r ρ).bind fun as ρ => .ok (.d x :: as) ρ
  | .b i :: r, ρ => (rdB i ρ).bind fun x ρ => (fillA r ρ).bind fun as ρ => .ok (.b i x :: as) ρ
  | .o i :: r, ρ => (rdO i ρ).bind fun l ρ => (fillA r ρ).bind fun as ρ => .ok (.o i l :: as) ρ
  | .s i :: r, ρ => (rdS i ρ).bind fun l ρ => (fillA r ρ).bind fun as ρ => .ok (.s l :: as) ρ
/-- no exception comes out of it -/
def Res.nox {α : Type} : Res α → Res α
  | .exc _ _ _ => .bad
  | r => r
/-- the slot i is stored -/
def put (i : Nat) (s : Sl) : En → Res Unit := fun ρ => match ρ[i]? with
  | some .un => .ok () (ρ.set i s)
  | some (.dat _) => .ok () (ρ.set i s)
  | some (.own _) => .ok () (ρ.set i s)
  | some (.bor _) => .ok () (ρ.set i s)
  | _ => .bad
/-- the list of the slot i has changed -/
def chg (i : Nat) (ds : List D) : En → Res Unit := fun ρ => match ρ[i]? with
  | some (.own _) => .ok () (ρ.set i (.own ds))
  | some (.io _) => .ok () (ρ.set i (.io ds))
  | _ => .bad
def Tg.put : Tg → D → En → Res Unit
  | .nm i, d, ρ => Sm.put i (.dat d) ρ
  | .nl, .tup [], ρ => .ok () ρ
  | .tp a r, .tup (d :: ds), ρ => (a.put d ρ).bind fun _ ρ => r.put (.tup ds) ρ
  | _, _, _ => .bad
def wipeE (ρ : En) : List Nat → En
  | [] => ρ
  | v :: vs => (wipeE ρ vs).set v .un
def backE (ρ ρ0 : En) : List Nat → En
  | [] => ρ
  | v :: vs => (backE ρ ρ0 vs).set v (ρ0.getD v .un)
def ownFree (ρ : En) (vs : List Nat) : Bool := vs.all fun v => match ρ[v]? with
  | some .un => true
  | some (.dat _) => true
  | some (.bor _) => true
  | _ => false
/-- the slots that a source walks -/
def Ex.lock : Ex → List Nat
  | .bor i => [i]
  | _ => []
def It.locks : It → List Nat
  | .seq e => e.lock | .zip a b => a.lock ++ b.lock | .enum a => a.lock | .rev a => a.lock
  | _ => []
def Sl.lock : Sl → Sl
  | .own ds => .lk ds
  | .io ds => .lki ds
  | s => s
def lockE (ρ : En) : List Nat → En
  | [] => ρ
  | v :: vs => (lockE ρ vs).set v (((lockE ρ vs).getD v .un).lock)
def Sl.unlock : Sl → Sl → Sl
  | .own _, .lk ds => .own ds
  | .io _, .lki ds => .io ds
  | _, s => s
/-- behind the walk: free as it was ahead of it -/
def unlockE (ρ ρ0 : En) : List Nat → En
  | [] => ρ
  | v :: vs => (unlockE ρ ρ0 vs).set v (((ρ0.getD v .un)).unlock ((unlockE ρ ρ0 vs).getD v .un))
def rangeD (lo : Int) (c : Int) (n : Nat) : List D := (List.range n).map fun (k : Nat) => .int (lo + (k : Int) * c)
def smallI (i : Int) : Bool := Nat.blt i.natAbs (2 ^ 62)
def enumD (k : Nat) : List D → List D
  | [] => []
  | d :: r => .tup [.int k, d] :: enumD (k + 1) r
def zipD : List D → List D → List D
  | a :: r, b :: t => .tup [a, b] :: zipD r t
  | _, _ => []
def asListO : D → Option (List D)
  | .lst ds => some ds
  | _ => none
def zipO : D → D → Option (List D)
  | .lst xs, .lst ys => some (zipD xs ys)
  | .tup xs, .tup ys => some (zipD xs ys)
  | _, _ => none
def rng1D : D → Option (List D)
  | .int j => if smallI j = true then some (rangeD 0 1 j.toNat) else none
  | _ => none
def rng2D : D → D → Option (List D)
  | .int i, .int j => if smallI i = true ∧ smallI j = true then some (rangeD i 1 (j - i).toNat) else none
  | _, _ => none
def rng3D : D → D → D → Option (List D)
  | .int i, .int j, .int c => if smallI i = true ∧ smallI j = true ∧ c = -1 then some (rangeD i (-1) (i - j).toNat) else none
  | _, _, _ => none
/-- the loop of a list comprehension -/
def lcLoop (tg : Tg) (own : List Nat) (cond : En → Res Bool) (elt : En → Res D) : List D → List D → En → Res (List D)
  | [], acc, ρ => .ok acc ρ
  | d :: r, acc, ρ => (tg.put d ρ).bind fun _ ρ => (cond ρ).bind fun b ρ => match b with
    | true => (elt ρ).bind fun x ρ => if acc.length < sizeLine then lcLoop tg own cond elt r (acc ++ [x]) (wipeE ρ own) else .bad
    | false => lcLoop tg own cond elt r acc (wipeE ρ own)
def ioBack : List Ar → List (List D) → En → Res Unit
  | [], [], ρ => .ok () ρ
  | .o i _ :: r, ds :: l, ρ => (chg i ds ρ).bind fun _ ρ => ioBack r l ρ
  | .d _ :: r, l, ρ => ioBack r l ρ
  | .b _ _ :: r, l, ρ => ioBack r l ρ
  | .s _ :: r, l, ρ => ioBack r l ρ
  | _, _, _ => .bad
def Ar.oSlot : Ar → Option Nat
  | .o i _ => some i
  | _ => none
def Ar.bSlot : Ar → Option Nat
  | .b i _ => some i
  | _ => none
/-- no list is handed over twice -/
def oSlots (as : List Ar) : List Nat := as.filterMap Ar.oSlot
def Ar.isS : Ar → Bool
  | .s _ => true
  | _ => false
def apart (as : List Ar) : Bool := decide (oSlots as).Nodup && ((oSlots as).all (fun i => decide (i ∉ as.filterMap Ar.bSlot)) && (!as.any Ar.isS || (oSlots as).isEmpty))
def intP (d : D) (ρ : En) : Res (Option Int) := match d with
  | .int i => .ok (some i) ρ
  | _ => .bad
def truthM (d : D) (ρ : En) : Res Bool := opt d.truth ρ
def callM (F : Nat → List Ar → FRes) (f : Nat) (as : List Ar) (ρ : En) : Res D := if apart as = true then (match F f as with
    | .ok d ios => (ioBack as ios ρ).bind fun _ ρ => .ok d ρ
    | .exc c x => if (oSlots as).isEmpty = true then .exc c x ρ else .bad
    | .bad => .bad) else .bad
/-- an operand that may be borrowed -/
def evHof (e : Ex) (m : En → Res D) (ρ : En) : Res Hd := match e with
  | .bor i => (rdB i ρ).bind fun _ ρ => .ok (.b i) ρ
  | _ => (m ρ).bind fun x ρ => .ok (.d x) ρ
/-- a slice's part -/
def evPof (e : Ex) (m : En → Res D) (ρ : En) : Res (Option Int) := match e with
  | .non => .ok none ρ
  | _ => (m ρ).bind fun d ρ => intP d ρ
mutual
def evE (F : Nat → List Ar → FRes) : Ex → En → Res D
  | .var i, ρ => rdE i ρ
  | .bor i, ρ => rdB i ρ
  | .io _, _ => .bad
  | .scr _, _ => .bad
  | .non, ρ => .ok .non ρ
  | .bl b, ρ => .ok (.bl b) ρ
  | .int n, ρ => .ok (.int n) ρ
  | .str s, ρ => .ok (.str s) ρ
  | .tup es, ρ => (evEs F es ρ).bind fun ds ρ => if ds.length ≤ sizeLine then .ok (.tup ds) ρ else .bad
  | .lst es, ρ => (evEs F es ρ).bind fun ds ρ => if ds.length ≤ sizeLine then .ok (.lst ds) ρ else .bad
  | .bin o a b, ρ => (evHof a (evE F a) ρ).bind fun h ρ => (evHof b (evE F b) ρ).bind fun g ρ => (h.look ρ).bind fun x ρ => (g.look ρ).bind fun y ρ => opt (o.ev x y) ρ
  | .neg a, ρ => (evE F a ρ).bind fun x ρ => opt x.neg ρ
  | .not_ a, ρ => (evE F a ρ).bind fun x ρ => (truthM x ρ).bind fun b ρ => .ok (.bl (!b)) ρ
  | .cmp o a b, ρ => (evHof a (evE F a) ρ).bind fun h ρ => (evHof b (evE F b) ρ).bind fun g ρ => (h.look ρ).bind fun x ρ => (g.look ρ).bind fun y ρ => opt (o.ev x y) ρ
  | .and_ a b, ρ => (evE F a ρ).bind fun x ρ => (truthM x ρ).bind fun c ρ => match c with
    | true => evE F b ρ
    | false => .ok x ρ
  | .or_ a b, ρ => (evE F a ρ).bind fun x ρ => (truthM x ρ).bind fun c ρ => match c with
    | true => .ok x ρ
    | false => evE F b ρ
  | .ife c a b, ρ => (evE F c ρ).bind fun x ρ => (truthM x ρ).bind fun c ρ => match c with
    | true => evE F a ρ
    | false => evE F b ρ
  | .idx a i, ρ => (evHof a (evE F a) ρ).bind fun h ρ => (evE F i ρ).bind fun y ρ => (h.look ρ).bind fun x ρ => opt (D.idx x y) ρ
  | .slc a lo hi, ρ => (evHof a (evE F a) ρ).bind fun g ρ => (evPof lo (evE F lo) ρ).bind fun l ρ => (evPof hi (evE F hi) ρ).bind fun h ρ => (g.look ρ).bind fun x ρ => opt (D.slc x l h) ρ
  | .slcS i lo hi, ρ => (rdS i ρ).bind fun _ ρ => (evPof lo (evE F lo) ρ).bind fun l ρ => (evPof hi (evE F hi) ρ).bind fun h ρ => (rdS i ρ).bind fun xs ρ => opt (D.slc (.lst xs) l h) ρ
  | .call f es, ρ => (evAs F es ρ).bind fun hs ρ => (fillA hs ρ).bind fun as ρ => callM F f as ρ
  | .cal b es, ρ => (evEs F es ρ).bind fun ds ρ => opt (b.ev ds) ρ
  | .isi a ts, ρ => (evE F a ρ).bind fun x ρ => .ok (.bl (ts.any (·.has x))) ρ
  | .lc tg own src cond elt, ρ => (evIt F src ρ).bind fun xs ρ => if ownFree ρ own = true then
      (lcLoop tg own (fun ρ => ((evE F cond ρ).bind fun d ρ => truthM d ρ).nox) (fun ρ => (evE F elt ρ).nox) xs [] (wipeE (lockE ρ src.locks) own)).bind fun ys ρ2 => .ok (.lst ys) (backE (unlockE ρ2 ρ src.locks) ρ own) else .bad
def evEs (F : Nat → List Ar → FRes) : Exs → En → Res (List D)
  | .nil, ρ => .ok [] ρ
  | .cons e es, ρ => (evE F e ρ).bind fun x ρ => (evEs F es ρ).bind fun xs ρ => .ok (x :: xs) ρ
/-- the arguments of a call of the text's -/
def evAs (F : Nat → List Ar → FRes) : Exs → En → Res (List Hd)
  | .nil, ρ => .ok [] ρ
  | .cons e es, ρ => match e with
    | .io i => (rdO i ρ).bind fun _ ρ => (evAs F es ρ).bind fun xs ρ => .ok (.o i :: xs) ρ
    | .scr i => (rdS i ρ).bind fun _ ρ => (evAs F es ρ).bind fun xs ρ => .ok (.s i :: xs) ρ
    | _ => (evHof e (evE F e) ρ).bind fun h ρ => (evAs F es ρ).bind fun xs ρ => .ok (h :: xs) ρ
def evIt (F : Nat → List Ar → FRes) : It → En → Res (List D)
  | .seq e, ρ => (evHof e (evE F e) ρ).bind fun h ρ => (h.look ρ).bind fun x ρ => opt x.items ρ
  | .rng1 a, ρ => (evE F a ρ).bind fun x ρ => opt (rng1D x) ρ
  | .rng2 a b, ρ => (evE F a ρ).bind fun x ρ => (evE F b ρ).bind fun y ρ => opt (rng2D x y) ρ
  | .rng3 a b c, ρ => (evE F a ρ).bind fun x ρ => (evE F b ρ).bind fun y ρ => (evE F c ρ).bind fun z ρ => opt (rng3D x y z) ρ
  | .zip a b, ρ => (evHof a (evE F a) ρ).bind fun h ρ => (evHof b (evE F b) ρ).bind fun g ρ => (h.look ρ).bind fun x ρ => (g.look ρ).bind fun y ρ => opt (zipO x y) ρ
  | .enum a, ρ => (evHof a (evE F a) ρ).bind fun h ρ => (h.look ρ).bind fun x ρ => opt (x.items.map (enumD 0)) ρ
  | .rev a, ρ => (evHof a (evE F a) ρ).bind fun h ρ => (h.look ρ).bind fun x ρ => opt ((asListO x).map List.reverse) ρ
end
abbrev evH (F : Nat → List Ar → FRes) (e : Ex) : En → Res Hd := evHof e (evE F e)
abbrev evP (F : Nat → List Ar → FRes) (e : Ex) : En → Res (Option Int) := evPof e (evE F e)
/-- from here on the list of the slot i is a datum -/
def frzE (i : Nat) (ρ : En) : Res Fl := match ρ[i]? with
  | some (.own ds) => .ok .nx (ρ.set i (.dat (.lst ds)))
  | some (.dat _) => .ok .nx ρ
  | _ => .bad
/-- the most turns of a while -/
def WF : Nat := 2 ^ 200
def forLoop (tg : Tg) (body : En → Res Fl) : List D → En → Res Fl
  | [], ρ => .ok .nx ρ
  | d :: r, ρ => (tg.put d ρ).bind fun _ ρ => (body ρ).bind fun f ρ => match f with
    | .nx => forLoop tg body r ρ
    | .ct => forLoop tg body r ρ
    | .bk => .ok .nx ρ
    | .rt d => .ok (.rt d) ρ
def whlLoop (c : En → Res Bool) (body : En → Res Fl) : Nat → En → Res Fl
  | 0, _ => .bad
  | n + 1, ρ => (c ρ).bind fun b ρ => match b with
    | true => (body ρ).bind fun f ρ => match f with
      | .nx => whlLoop c body n ρ
      | .ct => whlLoop c body n ρ
      | .bk => .ok .nx ρ
      | .rt d => .ok (.rt d) ρ
    | false => .ok .nx ρ
def nx (r : Res Unit) : Res Fl := r.bind fun _ ρ => .ok .nx ρ
def ifs {α : Type} (c : Bool) (a b : α) : α := match c with
  | true => a
  | false => b
def putPar : List (Nat × Bool) → List D → En → Res Unit
  | [], [], ρ => .ok () ρ
  | (i, false) :: r, d :: ds, ρ => (put i (.dat d) ρ).bind fun _ ρ => putPar r ds ρ
  | (i, true) :: r, .lst l :: ds, ρ => (put i (.own l) ρ).bind fun _ ρ => putPar r ds ρ
  | _, _, _ => .bad
def stoD (i : Nat) (k d : D) (ρ : En) : Res Unit := (rdO i ρ).bind fun l ρ => match k with
  | .int z => (match L2.ixN l.length z with
    | some j => chg i (l.set j d) ρ
    | none => .bad)
  | _ => .bad
def putS (F : Nat → List Ar → FRes) : List STg → List D → En → Res Unit
  | [], [], ρ => .ok () ρ
  | .nm i :: r, d :: ds, ρ => (put i (.dat d) ρ).bind fun _ ρ => putS F r ds ρ
  | .sub i k :: r, d :: ds, ρ => (rdO i ρ).bind fun _ ρ => (evE F k ρ).bind fun z ρ => (stoD i z d ρ).bind fun _ ρ => putS F r ds ρ
  | _, _, _ => .bad
mutual
def evS (F : Nat → List Ar → FRes) : St → En → Res Fl
  | .set i e, ρ => (evE F e ρ).bind fun x ρ => nx (put i (.dat x) ρ)
  | .setO i e, ρ => (evE F e ρ).bind fun x ρ => (opt (asListO x) ρ).bind fun l ρ => nx (put i (.own l) ρ)
  | .unp t e, ρ => (evE F e ρ).bind fun x ρ => nx (t.put x ρ)
  | .par is es, ρ => (evEs F es ρ).bind fun xs ρ => nx (putPar is xs ρ)
  | .asgs ts es, ρ => (evEs F es ρ).bind fun xs ρ => nx (putS F ts xs ρ)
  | .sto i k e, ρ => (evE F e ρ).bind fun x ρ => (rdO i ρ).bind fun _ ρ => (evE F k ρ).bind fun z ρ => nx (stoD i z x ρ)
  | .app i e, ρ => (rdO i ρ).bind fun _ ρ => (evE F e ρ).bind fun x ρ => (rdO i ρ).bind fun l ρ => if l.length < sizeLine then nx (chg i (l ++ [x]) ρ) else .bad
  | .ext i e, ρ => (rdO i ρ).bind fun _ ρ => (evE F e ρ).bind fun x ρ => (rdO i ρ).bind fun l ρ => match x with
    | .lst l' => if l.length + l'.length ≤ sizeLine then nx (chg i (l ++ l') ρ) else .bad
    | _ => .bad
  | .ins i k e, ρ => (rdO i ρ).bind fun _ ρ => (evE F k ρ).bind fun z ρ => (evE F e ρ).bind fun x ρ => (rdO i ρ).bind fun l ρ => match z with
    | .int z => if 0 ≤ z ∧ z ≤ l.length ∧ l.length < sizeLine then nx (chg i (l.take z.toNat ++ x :: l.drop z.toNat) ρ) else .bad
    | _ => .bad
  | .aug i o e, ρ => (rdE i ρ).bind fun x ρ => (evE F e ρ).bind fun y ρ => (match x, y with
    | .int _, .int _ => opt (o.ev x y) ρ
    | _, _ => .bad).bind fun z ρ => nx (put i (.dat z) ρ)
  | .ex e, ρ => (evE F e ρ).bind fun _ ρ => .ok .nx ρ
  | .ite c a b, ρ => (evE F c ρ).bind fun x ρ => (truthM x ρ).bind fun c ρ => match c with
    | true => evSs F a ρ
    | false => evSs F b ρ
  | .for_ t it b, ρ => (evIt F it ρ).bind fun xs ρ => (forLoop t (evSs F b) xs (lockE ρ it.locks)).bind fun f ρ2 => .ok f (unlockE ρ2 ρ it.locks)
  | .whl c b, ρ => whlLoop (fun ρ => (evE F c ρ).bind fun d ρ => truthM d ρ) (evSs F b) WF ρ
  | .ret e, ρ => (evE F e ρ).bind fun x ρ => .ok (.rt x) ρ
  | .retO e, ρ => (evE F e ρ).bind fun x ρ => (opt (asListO x) ρ).bind fun l ρ => .ok (.rt (.lst l)) ρ
  | .retN, ρ => .ok (.rt .non) ρ
  | .brk, ρ => .ok .bk ρ
  | .cnt, ρ => .ok .ct ρ
  | .pass, ρ => .ok .nx ρ
  | .frz i, ρ => frzE i ρ
  | .rais c e, ρ => (evE F e ρ).bind fun x ρ => .exc c x ρ
  | .never, _ => .bad
def evSs (F : Nat → List Ar → FRes) : Sts → En → Res Fl
  | .nil, ρ => .ok .nx ρ
  | .cons s r, ρ => (evS F s ρ).bind fun f ρ => match f with
    | .nx => evSs F r ρ
    | .rt d => .ok (.rt d) ρ
    | .bk => .ok .bk ρ
    | .ct => .ok .ct ρ
end
/-! ### defs -/
def entry : List Mo → List Ar → Option En
  | [], [] => some []
  | .d :: ms, .d x :: as => (entry ms as).map (.dat x :: ·)
  | .b :: ms, .d x :: as => (entry ms as).map (.bor x :: ·)
  | .b :: ms, .b _ x :: as => (entry ms as).map (.bor x :: ·)
  | .o :: ms, .o _ ds :: as => (entry ms as).map (.io ds :: ·)
  | .s :: ms, .s ds :: as => (entry ms as).map (.scr ds :: ·)
  | _, _ => none
def iosOf : List Mo → En → List (List D)
  | .o :: ms, .io ds :: r => ds :: iosOf ms r
  | .o :: ms, .lki ds :: r => ds :: iosOf ms r
  | _ :: ms, _ :: r => iosOf ms r
  | _, _ => []
def Fn.run (F : Nat → List Ar → FRes) (fn : Fn) (as : List Ar) : FRes := match entry fn.mos as with
  | none => .bad
  | some ρ => (match evSs F fn.body (ρ ++ List.replicate (fn.names.length - fn.mos.length) .un) with
    | .ok (.rt d) ρ => .ok d (iosOf fn.mos ρ)
    | .ok .nx ρ => if fn.own = true then .bad else .ok .non (iosOf fn.mos ρ)
    | .exc c x _ => if fn.mos.contains .o = true then .bad else .exc c x
    | _ => .bad)
def evF (T : List Fn) : Nat → Nat → List Ar → FRes
  | 0, _, _ => .bad
  | n + 1, f, as => match T[f]? with
    | some fn => fn.run (evF T n) as
    | none => .bad
end Sm
end

section
set_option Elab.async false
set_option linter.all false
set_option autoImplicit false
set_option maxRecDepth 100000
/-! Sm2: how slots and data stand in memory. -/
namespace Sm
open PySem PySem.Spec PyProof.Rows L2
/-- addresses that are not to be leant on: lists that change -/
abbrev Ow := Addr → Prop
/-! ### a datum in memory, off P -/
mutual
inductive Dat (H : Hp) (P : Ow) : V → D → Prop
  | non : Dat H P .non .non
  | bl (b : Bool) : Dat H P (.bl b) (.bl b)
  | int (i : Int) : Dat H P (.int i) (.int i)
  | str (s : Str) : Dat H P (.str s) (.str s)
  | tup {a : Addr} {xs : List V} {ds : List D} : H a = some (.tup xs) → ¬ P a → DatL H P xs ds → Dat H P (.ref a) (.tup ds)
  | lst {a : Addr} {xs : List V} {ds : List D} : H a = some (.lst xs) → ¬ P a → DatL H P xs ds → Dat H P (.ref a) (.lst ds)
inductive DatL (H : Hp) (P : Ow) : List V → List D → Prop
  | nil : DatL H P [] []
  | cons {v : V} {d : D} {vs : List V} {ds : List D} : Dat H P v d → DatL H P vs ds → DatL H P (v :: vs) (d :: ds)
end
/-- from H to H' (P, P': what is not to be leant on there) nothing is lost -/
structure Evo (P : Ow) (H : Hp) (P' : Ow) (H' : Hp) : Prop where
  keep : ∀ b o, ¬ P b → H b = some o → H' b = some o
  own : ∀ b, P' b → P b ∨ H b = none
  dom : ∀ b, H b ≠ none → H' b ≠ none
theorem Evo.refl (P : Ow) (H : Hp) : Evo P H P H := ⟨fun _ _ _ h => h, fun _ h => .inl h, fun _ h => h⟩
theorem Evo.trans {P P' P'' : Ow} {H H' H'' : Hp} (a : Evo P H P' H') (b : Evo P' H' P'' H'') : Evo P H P'' H'' where
  keep := fun c o n h => b.keep c o (fun z => (a.own c z).elim n fun e => by rw [e] at h; cases h) (a.keep c o n h)
  own := fun c z => (b.own c z).elim (fun y => a.own c y) fun e => by
    by_cases q : H c = none
    · exact .inr q
    · exact absurd e (a.dom c q)
  dom := fun c h => b.dom c (a.dom c h)
/-- P alone grows less -/
theorem Evo.less {P P' : Ow} {H : Hp} (h : ∀ b, P' b → P b) : Evo P H P' H := ⟨fun _ _ _ e => e, fun b z => .inl (h b z), fun _ e => e⟩
/-- a new object, to be changed or not -/
theorem Evo.new {P P' : Ow} {H : Hp} {p : Addr} {o : HO} (hp : H p = none) (h : ∀ b, P' b → P b ∨ b = p) : Evo P H P' (upd H p o) where
  keep := fun b u _ e => by rw [upd_ne (ne_of_none e hp)]; exact e
  own := fun b z => (h b z).elim .inl fun e => .inr (by rw [e]; exact hp)
  dom := fun b e => by
    by_cases q : b = p
    · rw [q, upd_same]; exact fun z => nomatch z
    · rw [upd_ne q]; exact e
/-- one that may change has changed -/
theorem Evo.chg {P : Ow} {H : Hp} {p : Addr} {o : HO} (hp : P p) : Evo P H P (upd H p o) where
  keep := fun b u n e => by rw [upd_ne (fun z => n (by rw [z]; exact hp))]; exact e
  own := fun b z => .inl z
  dom := fun b e => by
    by_cases q : b = p
    · rw [q, upd_same]; exact fun z => nomatch z
    · rw [upd_ne q]; exact e
mutual
theorem Dat.evo {P P' : Ow} {H H' : Hp} (e : Evo P H P' H') : ∀ {v : V} {d : D}, Dat H P v d → Dat H' P' v d
  | _, _, .non => .non
  | _, _, .bl b => .bl b
  | _, _, .int i => .int i
  | _, _, .str s => .str s
  | _, _, .tup h n l => .tup (e.keep _ _ n h) (fun z => (e.own _ z).elim n fun q => by rw [q] at h; cases h) (DatL.evo e l)
  | _, _, .lst h n l => .lst (e.keep _ _ n h) (fun z => (e.own _ z).elim n fun q => by rw [q] at h; cases h) (DatL.evo e l)
theorem DatL.evo {P P' : Ow} {H H' : Hp} (e : Evo P H P' H') : ∀ {vs : List V} {ds : List D}, DatL H P vs ds → DatL H' P' vs ds
  | _, _, .nil => .nil
  | _, _, .cons a b => .cons (Dat.evo e a) (DatL.evo e b)
end
section
variable {H : Hp} {P : Ow}
theorem DatL.length : ∀ {vs : List V} {ds : List D}, DatL H P vs ds → vs.length = ds.length
  | _, _, .nil => rfl
  | _, _, .cons _ t => congrArg Nat.succ (DatL.length t)
theorem DatL.get : ∀ {vs : List V} {ds : List D} {i : Nat} {d : D}, DatL H P vs ds → ds[i]? = some d → ∃ v, vs[i]? = some v ∧ Dat H P v d
  | _, _, _, _, .nil, e => by simp at e
  | _, _, 0, _, .cons a _, e => by simp at e; subst e; exact ⟨_, rfl, a⟩
  | _, _, i + 1, d, .cons _ t, e => by
    obtain ⟨v, h1, h2⟩ := DatL.get (i := i) (d := d) t (by simpa using e)
    exact ⟨v, by simpa using h1, h2⟩
theorem DatL.getV : ∀ {vs : List V} {ds : List D} {i : Nat} {v : V}, DatL H P vs ds → vs[i]? = some v → ∃ d, ds[i]? = some d ∧ Dat H P v d
  | _, _, _, _, .nil, e => by simp at e
  | _, _, 0, _, .cons a _, e => by simp at e; subst e; exact ⟨_, rfl, a⟩
  | _, _, i + 1, d, .cons _ t, e => by
    obtain ⟨v, h1, h2⟩ := DatL.getV (i := i) (v := d) t (by simpa using e)
    exact ⟨v, by simpa using h1, h2⟩
theorem DatL.append : ∀ {vs ws : List V} {ds es : List D}, DatL H P vs ds → DatL H P ws es → DatL H P (vs ++ ws) (ds ++ es)
  | _, _, _, _, .nil, s => s
  | _, _, _, _, .cons a t, s => .cons a (DatL.append t s)
theorem DatL.one {v : V} {d : D} (h : Dat H P v d) : DatL H P [v] [d] := .cons h .nil
theorem DatL.set {v : V} {d : D} (h : Dat H P v d) : ∀ {vs : List V} {ds : List D} (j : Nat), DatL H P vs ds → DatL H P (vs.set j v) (ds.set j d)
  | _, _, _, .nil => .nil
  | _, _, 0, .cons _ t => .cons h t
  | _, _, j + 1, .cons a t => .cons a (DatL.set h j t)
theorem DatL.take : ∀ {vs : List V} {ds : List D} (n : Nat), DatL H P vs ds → DatL H P (vs.take n) (ds.take n)
  | _, _, 0, _ => .nil
  | _, _, _ + 1, .nil => .nil
  | _, _, n + 1, .cons a t => .cons a (DatL.take n t)
theorem DatL.drop : ∀ {vs : List V} {ds : List D} (n : Nat), DatL H P vs ds → DatL H P (vs.drop n) (ds.drop n)
  | _, _, 0, r => r
  | _, _, _ + 1, .nil => .nil
  | _, _, n + 1, .cons _ t => DatL.drop n t
theorem DatL.cut {vs : List V} {ds : List D} (h : DatL H P vs ds) (lo hi : Option Int) : DatL H P (cutV vs lo hi) (cutD ds lo hi) := by
  unfold cutV cutD
  rw [h.length]
  exact (h.drop _).take _
theorem DatL.reverse : ∀ {vs : List V} {ds : List D}, DatL H P vs ds → DatL H P vs.reverse ds.reverse
  | _, _, .nil => .nil
  | _, _, .cons a t => by
    rw [List.reverse_cons, List.reverse_cons]
    exact (DatL.reverse t).append (.one a)
theorem DatL.rep {vs : List V} {ds : List D} (h : DatL H P vs ds) : ∀ k : Nat, DatL H P (List.replicate k vs).flatten (List.replicate k ds).flatten
  | 0 => .nil
  | k + 1 => by
    rw [List.replicate_succ, List.replicate_succ, List.flatten_cons, List.flatten_cons]
    exact h.append (DatL.rep h k)
theorem DatL.ints : ∀ {vs : List V} {ds : List D} {ns : List Int}, DatL H P vs ds → D.ints ds = some ns → vs = ns.map V.int
  | _, _, _, .nil, e => by
    unfold D.ints at e
    cases e
    rfl
  | _, _, _, .cons a t, e => by
    cases a with
    | int i =>
      unfold D.ints at e
      obtain ⟨l, h1, h2⟩ := Option.map_eq_some_iff.mp e
      subst h2
      rw [DatL.ints t h1]
      rfl
    | _ => unfold D.ints at e; cases e
/-- two readings of one value -/
theorem DatL.atI {vs : List V} {ds : List D} {i : Int} {d : D} (h : DatL H P vs ds) (e : atI ds i = some d) : ∃ v, L2.atI vs i = some v ∧ Dat H P v d := by
  unfold L2.atI at e ⊢
  rw [h.length]
  cases q : ixN ds.length i with
  | none => rw [q] at e; cases e
  | some j =>
    rw [q] at e
    exact h.get e
end
/-- H without what stands at a -/
def del (H : Hp) (a : Addr) : Hp := fun b => if b = a then none else H b
theorem del_same {H : Hp} {a : Addr} : del H a a = none := by unfold del; rw [if_pos rfl]
theorem del_ne {H : Hp} {a b : Addr} (h : b ≠ a) : del H a b = H b := by unfold del; rw [if_neg h]
theorem del_some {H : Hp} {a b : Addr} {o : HO} (h : del H a b = some o) : H b = some o := by
  unfold del at h
  split at h
  · cases h
  · exact h
theorem del_upd {H : Hp} {a : Addr} {o : HO} (h : H a = none) : del (upd H a o) a = H := by
  funext b
  by_cases e : b = a
  · subst e; rw [del_same, h]
  · rw [del_ne e, upd_ne e]
theorem upd_del {H : Hp} {a : Addr} {o : HO} (h : H a = some o) : upd (del H a) a o = H := by
  funext b
  by_cases e : b = a
  · subst e; rw [upd_same, h]
  · rw [upd_ne e, del_ne e]
/-! ### a frame -/
def Sl.isOwn : Sl → Bool
  | .own _ => true | .io _ => true | .lk _ => true | .lki _ => true | _ => false
def Sl.isIo : Sl → Bool
  | .io _ => true | .lki _ => true | _ => false
/-- a frame's fixed facts: K; what is not to be leant on ahead of it; the heap at its entry; the lists that are handed to it to be changed; the slots that are walked; the lists that comprehensions build -/
structure Fc where
  K : PySem.W.Frag
  mg : Str → Option Value
  Ox : Ow
  H0 : Hp
  I : List (Nat × Addr)
  L : List (Nat × Sl × V)
  B : List (Addr × List V) := []
def OwnAt (σ : L2.St) (ρ : En) (a : Addr) : Prop := ∃ (i : Nat) (s : Sl), ρ[i]? = some s ∧ s.isOwn = true ∧ σ[i]? = some (some (V.ref a))
def Pw (C : Fc) (σ : L2.St) (ρ : En) : Ow := fun a => C.Ox a ∨ OwnAt σ ρ a
/-- something borrowed, as it stood at the entry -/
def BorV (C : Fc) (v : V) (d : D) : Prop := Dat C.H0 C.Ox v d ∨ ∃ a xs ds, v = .ref a ∧ d = .lst ds ∧ C.H0 a = some (.lst xs) ∧ (∀ p ∈ C.I, p.2 ≠ a) ∧ DatL C.H0 C.Ox xs ds
/-- something borrowed, now -/
def BorN (H : Hp) (P : Ow) (v : V) (d : D) : Prop := Dat H P v d ∨ ∃ a xs ds, v = .ref a ∧ d = .lst ds ∧ H a = some (.lst xs) ∧ DatL H P xs ds
def SlOk (C : Fc) (H : Hp) (P : Ow) (o : Option (Option V)) : Sl → Prop
  | .un => True
  | .dat d => ∃ v, o = some (some v) ∧ Dat H P v d
  | .own ds => ∃ a xs, o = some (some (.ref a)) ∧ H a = some (.lst xs) ∧ DatL H P xs ds ∧ C.H0 a = none
  | .lk ds => ∃ a xs, o = some (some (.ref a)) ∧ H a = some (.lst xs) ∧ DatL H P xs ds ∧ C.H0 a = none
  | .io ds => ∃ a xs, o = some (some (.ref a)) ∧ H a = some (.lst xs) ∧ DatL H P xs ds ∧ C.Ox a
  | .lki ds => ∃ a xs, o = some (some (.ref a)) ∧ H a = some (.lst xs) ∧ DatL H P xs ds ∧ C.Ox a
  | .bor d => ∃ v, o = some (some v) ∧ BorV C v d
  | .scr ds => ds.length ≤ sizeLine ∧ ∃ a xs, o = some (some (.ref a)) ∧ SqL C.K C.H0 a xs ∧ (∀ p ∈ C.I, p.2 ≠ a) ∧ DatL C.H0 C.Ox xs ds
def Lim (H : Hp) : Prop := ∀ a xs, H a = some (.lst xs) ∨ H a = some (.tup xs) → xs.length ≤ sizeLine
theorem Lim.lst {H : Hp} (h : Lim H) {a : Addr} {xs : List V} (e : H a = some (.lst xs)) : xs.length ≤ sizeLine := h a xs (.inl e)
theorem Lim.tup {H : Hp} (h : Lim H) {a : Addr} {xs : List V} (e : H a = some (.tup xs)) : xs.length ≤ sizeLine := h a xs (.inr e)
theorem Lim.new {H : Hp} (h : Lim H) {p : Addr} {o : HO} (hl : ∀ xs, o = .lst xs ∨ o = .tup xs → xs.length ≤ sizeLine) : Lim (upd H p o) := by
  intro a xs e
  by_cases q : a = p
  · subst q
    rw [upd_same] at e
    exact hl xs (e.imp Option.some.inj Option.some.inj)
  · rw [upd_ne q] at e
    exact h a xs e
def Sl.isLk : Sl → Bool
  | .lk _ => true | .lki _ => true | _ => false
structure Fc.Ok (C : Fc) : Prop where
  ox : ∀ a, C.Ox a → C.H0 a ≠ none ∨ ∃ p ∈ C.B, p.1 = a
  bx : ∀ p ∈ C.B, C.Ox p.1
  lk : ∀ p ∈ C.L, p.2.1.isLk = true
structure Rel (C : Fc) (σ : L2.St) (H : Hp) (ρ : En) : Prop where
  ok : C.Ok
  len : σ.length = ρ.length
  slot : ∀ (i : Nat) (s : Sl), ρ[i]? = some s → SlOk C H (Pw C σ ρ) σ[i]? s
  inj : ∀ (i j : Nat) (s t : Sl) (a : Addr), ρ[i]? = some s → ρ[j]? = some t → s.isOwn = true → t.isOwn = true → σ[i]? = some (some (V.ref a)) → σ[j]? = some (some (V.ref a)) → i = j
  frm : ∀ b o, C.H0 b = some o → (∀ p ∈ C.I, p.2 ≠ b) → H b = some o
  evo : Evo C.Ox C.H0 (Pw C σ ρ) H
  io : ∀ p ∈ C.I, σ[p.1]? = some (some (V.ref p.2)) ∧ ∃ s, ρ[p.1]? = some s ∧ s.isIo = true
  ioI : ∀ (i : Nat) (s : Sl), ρ[i]? = some s → s.isIo = true → ∃ a, (i, a) ∈ C.I
  lim : Lim H
  lk : ∀ p ∈ C.L, ρ[p.1]? = some p.2.1 ∧ σ[p.1]? = some (some p.2.2)
  bld : ∀ p ∈ C.B, H p.1 = some (.lst p.2)
  bown : ∀ p ∈ C.B, ¬ OwnAt σ ρ p.1
section
variable {C : Fc} {σ : L2.St} {H : Hp} {ρ : En}
theorem Rel.dom (R : Rel C σ H ρ) {a : Addr} (h : Pw C σ ρ a) : H a ≠ none := by
  rcases h with h | ⟨i, s, e, o, q⟩
  · rcases R.ok.ox a h with z | ⟨p, hp, z⟩
    · exact R.evo.dom a z
    · rw [← z, R.bld p hp]; exact fun z => nomatch z
  · have z := R.slot i s e
    cases s with
    | own ds => obtain ⟨b, xs, e1, e2, _⟩ := z; rw [q] at e1; cases e1; rw [e2]; exact fun z => nomatch z
    | lk ds => obtain ⟨b, xs, e1, e2, _⟩ := z; rw [q] at e1; cases e1; rw [e2]; exact fun z => nomatch z
    | io ds => obtain ⟨b, xs, e1, e2, _⟩ := z; rw [q] at e1; cases e1; rw [e2]; exact fun z => nomatch z
    | lki ds => obtain ⟨b, xs, e1, e2, _⟩ := z; rw [q] at e1; cases e1; rw [e2]; exact fun z => nomatch z
    | _ => cases o
theorem BorV.now (R : Rel C σ H ρ) {v : V} {d : D} (h : BorV C v d) : BorN H (Pw C σ ρ) v d := by
  rcases h with h | ⟨a, xs, ds, e1, e2, hs, hi, hl⟩
  · exact .inl (h.evo R.evo)
  · exact .inr ⟨a, xs, ds, e1, e2, R.frm a _ hs hi, hl.evo R.evo⟩
theorem Rel.scr (R : Rel C σ H ρ) {i : Nat} {ds : List D} (e : ρ[i]? = some (.scr ds)) : ∃ a xs, σ[i]? = some (some (.ref a)) ∧ SqL C.K H a xs ∧ DatL H (Pw C σ ρ) xs ds ∧ ds.length ≤ sizeLine := by
  obtain ⟨hz, a, xs, e1, hs, hi, hl⟩ := R.slot i _ e
  refine ⟨a, xs, e1, ?_, hl.evo R.evo, hz⟩
  rcases hs with (hs | ⟨o, hs⟩) | hs
  · exact .inl (.inl (R.frm a _ hs hi))
  · exact .inl (.inr ⟨o, R.frm a _ hs hi⟩)
  · exact .inr hs
theorem Rel.see (R : Rel C σ H ρ) {i : Nat} {s : Sl} {d : D} (e : ρ[i]? = some s) (h : s.see = some d) : ∃ v, σ[i]? = some (some v) ∧ BorN H (Pw C σ ρ) v d := by
  have z := R.slot i s e
  cases s with
  | un => cases h
  | dat x => cases h; obtain ⟨v, e1, e2⟩ := z; exact ⟨v, e1, .inl e2⟩
  | own ds => cases h; obtain ⟨a, xs, e1, e2, e3, _⟩ := z; exact ⟨_, e1, .inr ⟨a, xs, ds, rfl, rfl, e2, e3⟩⟩
  | lk ds => cases h; obtain ⟨a, xs, e1, e2, e3, _⟩ := z; exact ⟨_, e1, .inr ⟨a, xs, ds, rfl, rfl, e2, e3⟩⟩
  | io ds => cases h; obtain ⟨a, xs, e1, e2, e3, _⟩ := z; exact ⟨_, e1, .inr ⟨a, xs, ds, rfl, rfl, e2, e3⟩⟩
  | lki ds => cases h; obtain ⟨a, xs, e1, e2, e3, _⟩ := z; exact ⟨_, e1, .inr ⟨a, xs, ds, rfl, rfl, e2, e3⟩⟩
  | bor x => cases h; obtain ⟨v, e1, e2⟩ := z; exact ⟨v, e1, e2.now R⟩
  | scr ds => cases h
/-- what a borrowed list, a tuple is -/
theorem BorN.lst {P : Ow} {v : V} {ds : List D} (h : BorN H P v (.lst ds)) : ∃ a xs, v = .ref a ∧ H a = some (.lst xs) ∧ DatL H P xs ds := by
  rcases h with h | ⟨a, xs, es, e1, e2, h1, h2⟩
  · cases h with
    | lst h n l => exact ⟨_, _, rfl, h, l⟩
  · cases e2
    exact ⟨a, xs, e1, h1, h2⟩
theorem BorN.tup {P : Ow} {v : V} {ds : List D} (h : BorN H P v (.tup ds)) : ∃ a xs, v = .ref a ∧ H a = some (.tup xs) ∧ ¬ P a ∧ DatL H P xs ds := by
  rcases h with h | ⟨a, xs, es, e1, e2, h1, h2⟩
  · cases h with
    | tup h n l => exact ⟨_, _, rfl, h, n, l⟩
  · cases e2
theorem BorN.dat {P : Ow} {v : V} {d : D} (h : BorN H P v d) (n : ∀ ds, d ≠ .lst ds) : Dat H P v d := by
  rcases h with h | ⟨a, xs, es, e1, e2, h1, h2⟩
  · exact h
  · exact absurd e2 (n es)
end
end Sm
end

section
set_option Elab.async false
set_option linter.all false
set_option autoImplicit false
set_option maxRecDepth 100000
/-! Sm3: an expression's rule and what its IR computes. -/
namespace Sm
open PySem PySem.Spec PyProof.Rows L2
/-- the field of an error of the class c -/
def fldOf (c : Str) : Str := if c = "TooMany" then "word" else "at"
def D.fv : D → Option V
  | .int i => some (.int i)
  | .str s => some (.str s)
  | _ => none
/-- an error of the class named c, carrying x, as it lies behind a raise -/
def ExcAt (C : Fc) (H : Hp) (c : Str) (x : D) (cl : Value) (d : Option Addr) : Prop :=
  ∃ (a dd : Addr) (v : V), C.mg c = some (.ref a) ∧ cl = .ref a ∧ d = some dd ∧ x.fv = some v ∧ H dd = some (.xd [(fldOf c, v)])
/-- what is wanted behind an evaluation -/
def Post {α β : Type} (C : Fc) (W : WX) (σ : L2.St) (H : Hp) (ρ : En) (R : Hp → En → β → α → Prop) (Q : β → Hp → Prop) : Res α → Prop
  | .ok a ρ' => ∀ b H', Rel C σ H' ρ' → Evo (Pw C σ ρ) H (Pw C σ ρ') H' → R H' ρ' b a → Q b H'
  | .exc c x ρ' => ∀ cl d H', Rel C σ H' ρ' → Evo (Pw C σ ρ) H (Pw C σ ρ') H' → ExcAt C H' c x cl d → W cl d σ H'
  | .bad => False
section
variable {α β γ δ : Type} {C : Fc} {W : WX} {σ : L2.St} {H H1 : Hp} {ρ ρ1 : En} {R : Hp → En → β → α → Prop} {Q : β → Hp → Prop}
theorem Post.from {r : Res α} (e : Evo (Pw C σ ρ) H (Pw C σ ρ1) H1) (h : Post C W σ H ρ R Q r) : Post C W σ H1 ρ1 R Q r := by
  cases r with
  | ok a ρ' => exact fun b H' x y z => h b H' x (e.trans y) z
  | exc c x ρ' => exact fun cl d H' x y z => h cl d H' x (e.trans y) z
  | bad => exact h
theorem Post.bind {R1 : Hp → En → δ → γ → Prop} {K : δ → Hp → Prop} {r : Res γ} {f : γ → En → Res α} (h : Post C W σ H ρ R Q (r.bind f))
    (k : ∀ a ρ1 b H1, Rel C σ H1 ρ1 → Evo (Pw C σ ρ) H (Pw C σ ρ1) H1 → R1 H1 ρ1 b a → Post C W σ H1 ρ1 R Q (f a ρ1) → K b H1) : Post C W σ H ρ R1 K r := by
  cases r with
  | ok a ρ' => exact fun b H' x y z => k a ρ' b H' x y z (Post.from y h)
  | exc c x ρ' => exact h
  | bad => exact h
/-- a step that is no evaluation of the machine's -/
theorem Post.pure {r : Res γ} {f : γ → En → Res α} (h : Post C W σ H ρ R Q (r.bind f)) (hb : ∀ c x ρ', r ≠ .exc c x ρ') : ∃ a ρ1, r = .ok a ρ1 ∧ Post C W σ H ρ R Q (f a ρ1) := by
  cases r with
  | ok a ρ' => exact ⟨a, ρ', rfl, h⟩
  | exc c x ρ' => exact absurd rfl (hb c x ρ')
  | bad => exact h.elim
theorem Post.opt {o : Option γ} {f : γ → En → Res α} (h : Post C W σ H ρ R Q ((Sm.opt o ρ1).bind f)) : ∃ a, o = some a ∧ Post C W σ H ρ R Q (f a ρ1) := by
  cases o with
  | none => exact h.elim
  | some a => exact ⟨a, rfl, h⟩
theorem Post.opt1 {o : Option α} (h : Post C W σ H ρ R Q (Sm.opt o ρ)) : ∃ a, o = some a ∧ Post C W σ H ρ R Q (.ok a ρ) := by
  cases o with
  | none => exact h.elim
  | some a => exact ⟨a, rfl, h⟩
/-- the end, where nothing else moves -/
theorem Post.here {a : α} {b : β} (h : Post C W σ H ρ R Q (.ok a ρ)) (r : Rel C σ H ρ) (x : R H ρ b a) : Q b H := h b H r (.refl _ _) x
end
abbrev DatR (C : Fc) (σ : L2.St) : Hp → En → V → D → Prop := fun H ρ v d => Dat H (Pw C σ ρ) v d
abbrev DatLR (C : Fc) (σ : L2.St) : Hp → En → List V → List D → Prop := fun H ρ v d => DatL H (Pw C σ ρ) v d
abbrev BoolR : Hp → En → Bool → Bool → Prop := fun _ _ a b => a = b
def HdR (σ : L2.St) : Hp → Ow → V → Hd → Prop := fun H P v h => match h with
  | .d x => Dat H P v x
  | .b i => σ[i]? = some (some v)
  | .o i => σ[i]? = some (some v)
  | .s i => σ[i]? = some (some v)
abbrev HdC (C : Fc) (σ : L2.St) : Hp → En → V → Hd → Prop := fun H ρ v h => HdR σ H (Pw C σ ρ) v h
inductive HdLR (σ : L2.St) (H : Hp) (P : Ow) : List V → List Hd → Prop where
  | nil : HdLR σ H P [] []
  | cons {v : V} {h : Hd} {vs : List V} {hs : List Hd} : HdR σ H P v h → HdLR σ H P vs hs → HdLR σ H P (v :: vs) (h :: hs)
/-- a reading does what the IR computes -/
def Sim {α β : Type} (C : Fc) (W : WX) (R : L2.St → Hp → En → β → α → Prop) (t : L2.St → Hp → (β → Hp → Prop) → Prop) (m : En → Res α) : Prop :=
  ∀ (σ : L2.St) (H : Hp) (ρ : En) (Q : β → Hp → Prop), Rel C σ H ρ → Post C W σ H ρ (R σ) Q (m ρ) → t σ H Q
def SE (X : Cx) (C : Fc) (W : WX) (e : Expr) (m : En → Res D) : Prop := ∃ t, PE X e t ∧ Sim C W (DatR C) t m
def ST (X : Cx) (C : Fc) (W : WX) (e : Expr) (m : En → Res Bool) : Prop := ∃ t, PT X e t ∧ Sim C W (fun _ => BoolR) t m
def SH (X : Cx) (C : Fc) (W : WX) (e : Expr) (m : En → Res Hd) : Prop := ∃ t, PE X e t ∧ Sim C W (HdC C) t m
def SEs (X : Cx) (C : Fc) (W : WX) (es : List Expr) (m : En → Res (List D)) : Prop := ∃ t, PA X es t ∧ Sim C W (DatLR C) t m
def SAs (X : Cx) (C : Fc) (W : WX) (es : List Expr) (m : En → Res (List Hd)) : Prop := ∃ t, PA X es t ∧ Sim C W (fun σ H ρ vs hs => HdLR σ H (Pw C σ ρ) vs hs) t m
/-- an expression of which only what it holds is looked at -/
def SB (X : Cx) (C : Fc) (W : WX) (e : Expr) (m : En → Res D) : Prop := ∃ t, PE X e t ∧ Sim C W (fun σ H ρ v d => BorN H (Pw C σ ρ) v d) t m
section
variable {X : Cx} {C : Fc} {W : WX} {σ : L2.St} {H H' : Hp} {ρ ρ' : En} {P : Ow}
theorem HdR.evo {P' : Ow} (e : Evo P H P' H') {v : V} {h : Hd} (r : HdR σ H P v h) : HdR σ H' P' v h := by
  cases h with
  | d x => exact Dat.evo e r
  | b i => exact r
  | o i => exact r
  | s i => exact r
theorem rdB_ok {i : Nat} {x : D} (h : rdB i ρ = .ok x ρ') : ρ' = ρ ∧ ∃ s, ρ[i]? = some s ∧ s.see = some x := by
  unfold rdB at h
  split at h
  · rename_i s e
    unfold opt at h
    split at h
    · rename_i a q
      cases h
      exact ⟨rfl, s, e, q⟩
    · cases h
  · cases h
theorem rdB_exc {i : Nat} {c : Str} {x : D} : rdB i ρ ≠ .exc c x ρ' := by
  unfold rdB
  split
  · unfold opt
    split <;> exact fun z => nomatch z
  · exact fun z => nomatch z
theorem rdO_ok {i : Nat} {l : List D} (h : rdO i ρ = .ok l ρ') : ρ' = ρ ∧ (ρ[i]? = some (.own l) ∨ ρ[i]? = some (.io l)) := by
  unfold rdO at h
  split at h
  · rename_i e; cases h; exact ⟨rfl, .inl e⟩
  · rename_i e; cases h; exact ⟨rfl, .inr e⟩
  · cases h
theorem rdO_exc {i : Nat} {c : Str} {x : D} : rdO i ρ ≠ .exc c x ρ' := by
  unfold rdO
  split <;> exact fun z => nomatch z
theorem look_exc {h : Hd} {c : Str} {x : D} : h.look ρ ≠ .exc c x ρ' := by
  cases h with
  | d _ => exact fun z => nomatch z
  | b i => exact rdB_exc
  | o i => exact fun z => nomatch z
  | s i => exact fun z => nomatch z
theorem look_ok {h : Hd} {x : D} {v : V} (R : Rel C σ H ρ) (e : h.look ρ = .ok x ρ') (r : HdR σ H (Pw C σ ρ) v h) : ρ' = ρ ∧ BorN H (Pw C σ ρ) v x := by
  cases h with
  | d y => cases e; exact ⟨rfl, .inl r⟩
  | b i =>
    obtain ⟨e1, s, e2, e3⟩ := rdB_ok e
    refine ⟨e1, ?_⟩
    obtain ⟨w, h1, h2⟩ := R.see e2 e3
    have r' : σ[i]? = some (some v) := r
    rw [h1] at r'
    cases r'
    exact h2
  | o i => cases e
  | s i => cases e
/-- an operand is looked at -/
theorem Post.look {α β : Type} {R : Hp → En → β → α → Prop} {Q : β → Hp → Prop} {h : Hd} {v : V} {f : D → En → Res α} (p : Post C W σ H ρ R Q ((h.look ρ).bind f)) (Re : Rel C σ H ρ) (r : HdR σ H (Pw C σ ρ) v h) :
    ∃ x, BorN H (Pw C σ ρ) v x ∧ Post C W σ H ρ R Q (f x ρ) := by
  obtain ⟨x, ρ1, e, q⟩ := p.pure fun _ _ _ => look_exc
  obtain ⟨e1, b⟩ := look_ok Re e r
  subst e1
  exact ⟨x, b, q⟩
/-- a new object that is not to change -/
theorem Rel.new (R : Rel C σ H ρ) {p : Addr} {o : HO} (hp : H p = none) (hl : ∀ xs, o = .lst xs ∨ o = .tup xs → xs.length ≤ sizeLine) : Rel C σ (upd H p o) ρ := by
  have ev : Evo (Pw C σ ρ) H (Pw C σ ρ) (upd H p o) := .new hp fun b z => .inl z
  have ne : ∀ {a : Addr} {u : HO}, H a = some u → (upd H p o) a = some u := fun {a u} e => by rw [upd_ne (ne_of_none e hp)]; exact e
  refine ⟨R.ok, R.len, fun i s e => ?_, R.inj, fun b u e n => ne (R.frm b u e n), R.evo.trans ev, R.io, R.ioI, R.lim.new hl, R.lk, fun p hp => ne (R.bld p hp), R.bown⟩
  have z := R.slot i s e
  cases s with
    | un => exact z
    | dat d => obtain ⟨v, e1, e2⟩ := z; exact ⟨v, e1, e2.evo ev⟩
    | own ds => obtain ⟨a, xs, e1, e2, e3, e4⟩ := z; exact ⟨a, xs, e1, ne e2, e3.evo ev, e4⟩
    | lk ds => obtain ⟨a, xs, e1, e2, e3, e4⟩ := z; exact ⟨a, xs, e1, ne e2, e3.evo ev, e4⟩
    | io ds => obtain ⟨a, xs, e1, e2, e3, e4⟩ := z; exact ⟨a, xs, e1, ne e2, e3.evo ev, e4⟩
    | lki ds => obtain ⟨a, xs, e1, e2, e3, e4⟩ := z; exact ⟨a, xs, e1, ne e2, e3.evo ev, e4⟩
    | bor d => exact z
    | scr d => exact z
theorem Rel.free (R : Rel C σ H ρ) {p : Addr} (hp : H p = none) : ¬ Pw C σ ρ p := fun z => R.dom z hp
/-- a new list, a new tuple of data -/
theorem Rel.newL (R : Rel C σ H ρ) {p : Addr} {xs : List V} {ds : List D} (hp : H p = none) (hl : xs.length ≤ sizeLine) (hd : DatL H (Pw C σ ρ) xs ds) :
    Rel C σ (upd H p (.lst xs)) ρ ∧ Evo (Pw C σ ρ) H (Pw C σ ρ) (upd H p (.lst xs)) ∧ Dat (upd H p (.lst xs)) (Pw C σ ρ) (.ref p) (.lst ds) := by
  have ev : Evo (Pw C σ ρ) H (Pw C σ ρ) (upd H p (.lst xs)) := .new hp fun b z => .inl z
  exact ⟨R.new hp fun ys e => by rcases e with e | e <;> cases e; exact hl, ev, .lst upd_same (R.free hp) (hd.evo ev)⟩
theorem Rel.newT (R : Rel C σ H ρ) {p : Addr} {xs : List V} {ds : List D} (hp : H p = none) (hl : xs.length ≤ sizeLine) (hd : DatL H (Pw C σ ρ) xs ds) :
    Rel C σ (upd H p (.tup xs)) ρ ∧ Evo (Pw C σ ρ) H (Pw C σ ρ) (upd H p (.tup xs)) ∧ Dat (upd H p (.tup xs)) (Pw C σ ρ) (.ref p) (.tup ds) := by
  have ev : Evo (Pw C σ ρ) H (Pw C σ ρ) (upd H p (.tup xs)) := .new hp fun b z => .inl z
  exact ⟨R.new hp fun ys e => by rcases e with e | e <;> cases e; exact hl, ev, .tup upd_same (R.free hp) (hd.evo ev)⟩
/-! ### names, constants -/
theorem sim_var {i : Nat} : Sim C W (DatR C) (tVar i) (rdE i) := fun σ H ρ Q R h => by
  unfold rdE at h
  split at h
  · rename_i d e
    obtain ⟨v, e1, e2⟩ := R.slot i _ e
    exact ⟨v, e1, h.here R e2⟩
  · exact h.elim
theorem sim_varB {i : Nat} : Sim C W (fun σ H ρ v d => BorN H (Pw C σ ρ) v d) (tVar i) (rdB i) := fun σ H ρ Q R h => by
  cases q : rdB i ρ with
  | ok x ρ1 =>
    obtain ⟨e1, s, e2, e3⟩ := rdB_ok q
    subst e1
    rw [q] at h
    obtain ⟨v, h1, h2⟩ := R.see e2 e3
    exact ⟨v, h1, h.here R h2⟩
  | exc c x ρ1 => exact absurd q rdB_exc
  | bad => rw [q] at h; exact h.elim
theorem sim_varH {i : Nat} : Sim C W (HdC C) (tVar i) (fun ρ => (rdB i ρ).bind fun _ ρ => .ok (.b i) ρ) := fun σ H ρ Q R h => by
  obtain ⟨x, ρ1, e, h⟩ := h.pure fun _ _ _ => rdB_exc
  obtain ⟨e1, s, e2, e3⟩ := rdB_ok e
  subst e1
  obtain ⟨v, h1, _⟩ := R.see e2 e3
  exact ⟨v, h1, h.here R (show HdR σ H _ v (.b i) from h1)⟩
theorem sim_c {v : V} {d : D} (hd : ∀ H P, Dat H P v d) : Sim C W (DatR C) (tC v) (fun ρ => .ok d ρ) := fun σ H ρ Q R h => h.here R (hd _ _)
theorem SE.toH {e : Expr} {m : En → Res D} (h : SE X C W e m) : SH X C W e (fun ρ => (m ρ).bind fun x ρ => .ok (.d x) ρ) := by
  obtain ⟨t, h1, h2⟩ := h
  exact ⟨t, h1, fun σ H ρ Q R h => h2 σ H ρ Q R (h.bind fun a ρ1 b H1 R1 e d h => h.here R1 (show HdR σ H1 _ b (.d a) from d))⟩
theorem SE.toB {e : Expr} {m : En → Res D} (h : SE X C W e m) : SB X C W e m := by
  obtain ⟨t, h1, h2⟩ := h
  refine ⟨t, h1, fun σ H ρ Q R h => h2 σ H ρ Q R ?_⟩
  cases q : m ρ with
  | ok a ρ1 => rw [q] at h; exact fun b H' x y z => h b H' x y (.inl z)
  | exc c x ρ1 => rw [q] at h; exact h
  | bad => rw [q] at h; exact h
/-! ### argument lists -/
theorem ses_nil : SEs X C W [] (fun ρ => .ok [] ρ) := ⟨_, pa_nil, fun σ H ρ Q R h => h.here R .nil⟩
theorem ses_cons {e : Expr} {es : List Expr} {m : En → Res D} {ms : En → Res (List D)} (h : SE X C W e m) (hs : SEs X C W es ms) (hst : starEach (e :: es) X.env = (false, eval e X.env) :: starEach es X.env) :
    SEs X C W (e :: es) (fun ρ => (m ρ).bind fun x ρ => (ms ρ).bind fun xs ρ => .ok (x :: xs) ρ) := by
  obtain ⟨t, h1, h2⟩ := h
  obtain ⟨u, g1, g2⟩ := hs
  refine ⟨_, pa_cons h1 g1 hst, fun σ H ρ Q R h => ?_⟩
  refine h2 σ H ρ _ R (h.bind fun a ρ1 b H1 R1 e1 d1 h => ?_)
  refine g2 σ H1 ρ1 _ R1 (h.bind fun as ρ2 bs H2 R2 e2 d2 h => ?_)
  exact h.here R2 (.cons (d1.evo e2) d2)
theorem sas_nil : SAs X C W [] (fun ρ => .ok [] ρ) := ⟨_, pa_nil, fun σ H ρ Q R h => h.here R .nil⟩
theorem sas_cons {e : Expr} {es : List Expr} {m : En → Res Hd} {ms : En → Res (List Hd)} (h : SH X C W e m) (hs : SAs X C W es ms) (hst : starEach (e :: es) X.env = (false, eval e X.env) :: starEach es X.env) :
    SAs X C W (e :: es) (fun ρ => (m ρ).bind fun x ρ => (ms ρ).bind fun xs ρ => .ok (x :: xs) ρ) := by
  obtain ⟨t, h1, h2⟩ := h
  obtain ⟨u, g1, g2⟩ := hs
  refine ⟨_, pa_cons h1 g1 hst, fun σ H ρ Q R h => ?_⟩
  refine h2 σ H ρ _ R (h.bind fun a ρ1 b H1 R1 e1 d1 h => ?_)
  refine g2 σ H1 ρ1 _ R1 (h.bind fun as ρ2 bs H2 R2 e2 d2 h => ?_)
  exact h.here R2 (.cons (HdR.evo e2 d1) d2)
theorem sas_io {i : Nat} {e : Expr} {es : List Expr} {ms : En → Res (List Hd)} (h : PE X e (tVar i)) (hs : SAs X C W es ms) (hst : starEach (e :: es) X.env = (false, eval e X.env) :: starEach es X.env) :
    SAs X C W (e :: es) (fun ρ => (rdO i ρ).bind fun _ ρ => (ms ρ).bind fun xs ρ => .ok (.o i :: xs) ρ) := by
  obtain ⟨u, g1, g2⟩ := hs
  refine ⟨_, pa_cons h g1 hst, fun σ H ρ Q R h => ?_⟩
  obtain ⟨l, ρ1, e, h⟩ := h.pure fun _ _ _ => rdO_exc
  obtain ⟨e1, e2⟩ := rdO_ok e
  subst e1
  obtain ⟨a, hv⟩ : ∃ a, σ[i]? = some (some (V.ref a)) := by
    rcases e2 with e2 | e2
    · obtain ⟨a, xs, z, _⟩ := R.slot i _ e2; exact ⟨a, z⟩
    · obtain ⟨a, xs, z, _⟩ := R.slot i _ e2; exact ⟨a, z⟩
  refine ⟨_, hv, g2 σ H ρ1 _ R (h.bind fun as ρ2 bs H2 R2 e2 d2 h => ?_)⟩
  exact h.here R2 (.cons hv d2)
theorem rdS_ok {i : Nat} {l : List D} (h : rdS i ρ = .ok l ρ') : ρ' = ρ ∧ ρ[i]? = some (.scr l) := by
  unfold rdS at h
  split at h
  · rename_i e; cases h; exact ⟨rfl, e⟩
  · cases h
theorem rdS_exc {i : Nat} {c : Str} {x : D} : rdS i ρ ≠ .exc c x ρ' := by
  unfold rdS
  split <;> exact fun z => nomatch z
theorem sas_s {i : Nat} {e : Expr} {es : List Expr} {ms : En → Res (List Hd)} (h : PE X e (tVar i)) (hs : SAs X C W es ms) (hst : starEach (e :: es) X.env = (false, eval e X.env) :: starEach es X.env) :
    SAs X C W (e :: es) (fun ρ => (rdS i ρ).bind fun _ ρ => (ms ρ).bind fun xs ρ => .ok (.s i :: xs) ρ) := by
  obtain ⟨u, g1, g2⟩ := hs
  refine ⟨_, pa_cons h g1 hst, fun σ H ρ Q R h => ?_⟩
  obtain ⟨l, ρ1, e, h⟩ := h.pure fun _ _ _ => rdS_exc
  obtain ⟨e1, e2⟩ := rdS_ok e
  subst e1
  obtain ⟨_, a, xs, hv, _⟩ := R.slot i _ e2
  refine ⟨_, hv, g2 σ H ρ1 _ R (h.bind fun as ρ2 bs H2 R2 e2 d2 h => ?_)⟩
  exact h.here R2 (.cons hv d2)
/-! ### displays -/
theorem se_tup {es : List Expr} {k : Nat} {pos : Pos} {m : En → Res (List D)} (h : SEs X C W es m) : SE X C W (.Tuple es k pos) (fun ρ => (m ρ).bind fun ds ρ => if ds.length ≤ sizeLine then .ok (.tup ds) ρ else .bad) := by
  obtain ⟨t, h1, h2⟩ := h
  refine ⟨_, pe_tup h1, fun σ H ρ Q R h => h2 σ H ρ _ R (h.bind fun ds ρ1 vs H1 R1 e1 d1 h => ?_)⟩
  by_cases hl : ds.length ≤ sizeLine
  · rw [if_pos hl] at h
    have hl' : vs.length ≤ sizeLine := by rw [d1.length]; exact hl
    refine ⟨hl', fun p hp => ?_⟩
    obtain ⟨a, b, c⟩ := R1.newT hp hl' d1
    exact h _ _ a b c
  · rw [if_neg hl] at h
    exact h.elim
/-- a list that is handed back is a new one -/
def FrR (C : Fc) (σ : L2.St) (Hs H : Hp) (ρ : En) (v : V) (d : D) : Prop := ∀ ds, d = .lst ds → ∃ a xs, v = .ref a ∧ H a = some (.lst xs) ∧ Rel C σ (del H a) ρ ∧ DatL (del H a) (Pw C σ ρ) xs ds ∧ Hs a = none
structure DatF (C : Fc) (σ : L2.St) (Hs H : Hp) (ρ : En) (v : V) (d : D) : Prop where
  dat : Dat H (Pw C σ ρ) v d
  fr : FrR C σ Hs H ρ v d
theorem DatF.of {Hs : Hp} {v : V} {d : D} (h : Dat H (Pw C σ ρ) v d) (n : ∀ ds, d ≠ .lst ds) : DatF C σ Hs H ρ v d := ⟨h, fun ds e => absurd e (n ds)⟩
theorem DatF.start {Hs Hs' : Hp} {v : V} {d : D} (h : DatF C σ Hs H ρ v d) (n : ∀ b, Hs b = none → Hs' b = none) : DatF C σ Hs' H ρ v d := ⟨h.dat, fun ds e => let ⟨a, xs, h1, h2, h3, h4, h5⟩ := h.fr ds e; ⟨a, xs, h1, h2, h3, h4, n a h5⟩⟩
theorem Evo.none {P P' : Ow} {H H' : Hp} (e : Evo P H P' H') : ∀ b, H' b = none → H b = none := fun b z => Classical.byContradiction fun n => e.dom b n z
theorem Rel.h0 (R : Rel C σ H ρ) {p : Addr} (hp : H p = none) : C.H0 p = none := by
  cases q : C.H0 p with
  | none => rfl
  | some o => exact absurd hp (R.evo.dom p (by rw [q]; exact fun z => nomatch z))
theorem Rel.newF (R : Rel C σ H ρ) {p : Addr} {xs : List V} {ds : List D} (hp : H p = none) (hl : xs.length ≤ sizeLine) (hd : DatL H (Pw C σ ρ) xs ds) :
    Rel C σ (upd H p (.lst xs)) ρ ∧ Evo (Pw C σ ρ) H (Pw C σ ρ) (upd H p (.lst xs)) ∧ ∀ Hs : Hp, Hs p = none → DatF C σ Hs (upd H p (.lst xs)) ρ (.ref p) (.lst ds) := by
  obtain ⟨h1, h2, h3⟩ := R.newL hp hl hd
  refine ⟨h1, h2, fun Hs hs => ⟨h3, fun es e => ?_⟩⟩
  cases e
  refine ⟨p, xs, rfl, upd_same, ?_⟩
  rw [del_upd hp]
  exact ⟨R, hd, hs⟩
abbrev DatFR (C : Fc) (σ : L2.St) (Hs : Hp) : Hp → En → V → D → Prop := fun H ρ v d => DatF C σ Hs H ρ v d
/-- a reading whose list is a new one -/
def SimF (C : Fc) (W : WX) (t : TE) (m : En → Res D) : Prop := ∀ (σ : L2.St) (H : Hp) (ρ : En) (Q : VK), Rel C σ H ρ → Post C W σ H ρ (DatFR C σ H) Q (m ρ) → t σ H Q
/-- an expression whose list is a new one -/
def SF (X : Cx) (C : Fc) (W : WX) (e : Expr) (m : En → Res D) : Prop := ∃ t, PE X e t ∧ SimF C W t m
theorem SF.toE {e : Expr} {m : En → Res D} (h : SF X C W e m) : SE X C W e m := by
  obtain ⟨t, h1, h2⟩ := h
  refine ⟨t, h1, fun σ H ρ Q R h => h2 σ H ρ Q R ?_⟩
  cases q : m ρ with
  | ok a ρ1 => rw [q] at h; exact fun b H' x y z => h b H' x y z.dat
  | exc c x ρ1 => rw [q] at h; exact h
  | bad => rw [q] at h; exact h
theorem se_lst {es : List Expr} {pos : Pos} {m : En → Res (List D)} (h : SEs X C W es m) : SF X C W (.List es pos) (fun ρ => (m ρ).bind fun ds ρ => if ds.length ≤ sizeLine then .ok (.lst ds) ρ else .bad) := by
  obtain ⟨t, h1, h2⟩ := h
  refine ⟨_, pe_lst h1, fun σ H ρ Q R h => h2 σ H ρ _ R (h.bind fun ds ρ1 vs H1 R1 e1 d1 h => ?_)⟩
  by_cases hl : ds.length ≤ sizeLine
  · rw [if_pos hl] at h
    have hl' : vs.length ≤ sizeLine := by rw [d1.length]; exact hl
    refine ⟨hl', fun p hp => ?_⟩
    obtain ⟨a, b, c⟩ := R1.newF hp hl' d1
    exact h _ _ a b (c H (e1.none _ hp))
  · rw [if_neg hl] at h
    exact h.elim
/-! ### two operands -/
/-- a value's rule by what the operands hold -/
def OpS (C : Fc) (r : R2) (f : D → D → Option D) : Prop := ∀ (σ : L2.St) (H : Hp) (ρ : En) (Q : VK) (x y : V) (d e z : D), Rel C σ H ρ → BorN H (Pw C σ ρ) x d → BorN H (Pw C σ ρ) y e → f d e = some z →
  (∀ v H', Rel C σ H' ρ → Evo (Pw C σ ρ) H (Pw C σ ρ) H' → DatF C σ H H' ρ v z → Q v H') → r x y H Q
theorem sim_op2 {ta tb : TE} {ma mb : En → Res Hd} {r : R2} {f : D → D → Option D} (ha : Sim C W (HdC C) ta ma) (hb : Sim C W (HdC C) tb mb) (hr : OpS C r f) :
    SimF C W (tOp r ta tb) (fun ρ => (ma ρ).bind fun h ρ => (mb ρ).bind fun g ρ => (h.look ρ).bind fun x ρ => (g.look ρ).bind fun y ρ => opt (f x y) ρ) := fun σ H ρ Q R h => by
  refine ha σ H ρ _ R (h.bind fun a ρ1 v H1 R1 e1 d1 h => ?_)
  refine hb σ H1 ρ1 _ R1 (h.bind fun b ρ2 w H2 R2 e2 d2 h => ?_)
  obtain ⟨x, b1, h⟩ := h.look R2 (HdR.evo e2 d1)
  obtain ⟨y, b2, h⟩ := h.look R2 d2
  obtain ⟨z, e3, h⟩ := h.opt1
  exact hr σ H2 ρ2 Q v w x y z R2 b1 b2 e3 fun v H' r ev dv => h v H' r ev (dv.start (e1.trans e2).none)
theorem se_bin {op : Operator} {r : R2} {f : D → D → Option D} {a b : Expr} {pos : Pos} {ma mb : En → Res Hd} (ho : OpR X (binaryOp op) r) (hr : OpS C r f) (ha : SH X C W a ma) (hb : SH X C W b mb) :
    SF X C W (.BinOp a op b pos) (fun ρ => (ma ρ).bind fun h ρ => (mb ρ).bind fun g ρ => (h.look ρ).bind fun x ρ => (g.look ρ).bind fun y ρ => opt (f x y) ρ) := by
  obtain ⟨ta, a1, a2⟩ := ha
  obtain ⟨tb, b1, b2⟩ := hb
  exact ⟨_, pe_op ho a1 b1, sim_op2 a2 b2 hr⟩
theorem se_cmp {op : CmpOp} {r : R2} {f : D → D → Option D} {a b : Expr} {pos : Pos} {ma mb : En → Res Hd} (ho : OpR X (compareOp op) r) (hr : OpS C r f) (ha : SH X C W a ma) (hb : SH X C W b mb) (hm : behindInMarks op b = false) :
    SF X C W (.Compare a [op] [b] pos) (fun ρ => (ma ρ).bind fun h ρ => (mb ρ).bind fun g ρ => (h.look ρ).bind fun x ρ => (g.look ρ).bind fun y ρ => opt (f x y) ρ) := by
  obtain ⟨ta, a1, a2⟩ := ha
  obtain ⟨tb, b1, b2⟩ := hb
  exact ⟨_, pe_cmpR ho a1 b1 hm, sim_op2 a2 b2 hr⟩
theorem dat_int {v : V} {i : Int} (h : BorN H P v (.int i)) : v = .int i := by
  have q := h.dat fun ds z => nomatch z
  cases q
  rfl
theorem dat_bl {v : V} {i : Bool} (h : BorN H P v (.bl i)) : v = .bl i := by
  have q := h.dat fun ds z => nomatch z
  cases q
  rfl
theorem dat_str {v : V} {i : Str} (h : BorN H P v (.str i)) : v = .str i := by
  have q := h.dat fun ds z => nomatch z
  cases q
  rfl
theorem dat_non {v : V} (h : BorN H P v .non) : v = .non := by
  have q := h.dat fun ds z => nomatch z
  cases q
  rfl
end
end Sm
end

section
set_option Elab.async false
set_option linter.all false
set_option autoImplicit false
set_option maxRecDepth 100000
/-! Sm4: operators, by what the operands hold. -/
namespace Sm
open PySem PySem.Spec PyProof.Rows L2
mutual
def D.toP : D → PyData
  | .non => .none
  | .bl b => .bool b
  | .int i => .int i
  | .str s => .str s
  | .tup ds => .tuple (D.toPL ds)
  | .lst ds => .list (D.toPL ds)
  | .obj _ _ => .none
def D.toPL : List D → List PyData
  | [] => []
  | d :: ds => d.toP :: D.toPL ds
end
mutual
theorem eqb_toP : ∀ (n m : Nat) (a b : D), a.shp n = true → b.shp m = true → PyData.eqv a.toP b.toP = D.eqb a b
  | _, _, .non, b, _, hb => by cases b <;> first | rfl | (unfold D.shp at hb; cases hb)
  | _, _, .bl x, b, _, hb => by cases b <;> first | rfl | (unfold D.shp at hb; cases hb)
  | _, _, .int x, b, _, hb => by cases b <;> first | rfl | (unfold D.shp at hb; cases hb)
  | _, _, .str x, b, _, hb => by cases b <;> first | rfl | (unfold D.shp at hb; cases hb)
  | 0, _, .tup x, _, ha, _ => by unfold D.shp at ha; cases ha
  | 0, _, .lst x, _, ha, _ => by unfold D.shp at ha; cases ha
  | n + 1, m, .tup x, b, ha, hb => by
    cases b with
    | tup y =>
      cases m with
      | zero => unfold D.shp at hb; cases hb
      | succ m =>
        unfold D.shp at ha hb
        simp only [D.toP, PyData.eqv, D.eqb]
        exact eqb_toPL n m x y ha hb
    | obj _ _ => unfold D.shp at hb; cases hb
    | _ => rfl
  | n + 1, m, .lst x, b, ha, hb => by
    cases b with
    | lst y =>
      cases m with
      | zero => unfold D.shp at hb; cases hb
      | succ m =>
        unfold D.shp at ha hb
        simp only [D.toP, PyData.eqv, D.eqb]
        exact eqb_toPL n m x y ha hb
    | obj _ _ => unfold D.shp at hb; cases hb
    | _ => rfl
  | _, _, .obj _ _, _, ha, _ => by unfold D.shp at ha; cases ha
theorem eqb_toPL : ∀ (n m : Nat) (a b : List D), D.shpL n a = true → D.shpL m b = true → PyData.eqvAll (D.toPL a) (D.toPL b) = D.eqbL a b
  | _, _, [], [], _, _ => by simp only [D.toPL, PyData.eqvAll, D.eqbL]
  | _, _, [], _ :: _, _, _ => by simp only [D.toPL, PyData.eqvAll, D.eqbL]
  | _, _, _ :: _, [], _, _ => by simp only [D.toPL, PyData.eqvAll, D.eqbL]
  | n, m, x :: xs, y :: ys, ha, hb => by
    unfold D.shpL at ha hb
    rw [Bool.and_eq_true] at ha hb
    simp only [D.toPL, PyData.eqvAll, D.eqbL, eqb_toP n m x y ha.1 hb.1, eqb_toPL n m xs ys ha.2 hb.2]
end
mutual
theorem lay_toP : ∀ (n : Nat) (a : D), a.shp n = true → a.toP.canLay0 = true ∧ a.toP.depth ≤ n
  | _, .non, _ => by simp [D.toP, PyData.canLay0, PyData.depth]
  | _, .bl _, _ => by simp [D.toP, PyData.canLay0, PyData.depth]
  | _, .int _, _ => by simp [D.toP, PyData.canLay0, PyData.depth]
  | _, .str _, h => by unfold D.shp at h; simp [D.toP, PyData.canLay0, PyData.depth, h]
  | 0, .tup _, h => by unfold D.shp at h; cases h
  | 0, .lst _, h => by unfold D.shp at h; cases h
  | n + 1, .tup ds, h => by
    unfold D.shp at h
    have q := lay_toPL n ds h
    simp only [D.toP, PyData.canLay0, PyData.depth]
    exact ⟨q.1, by omega⟩
  | n + 1, .lst ds, h => by
    unfold D.shp at h
    have q := lay_toPL n ds h
    simp only [D.toP, PyData.canLay0, PyData.depth]
    exact ⟨q.1, by omega⟩
  | _, .obj _ _, h => by unfold D.shp at h; cases h
theorem lay_toPL : ∀ (n : Nat) (a : List D), D.shpL n a = true → PyData.canLayAll0 (D.toPL a) = true ∧ PyData.depthAll (D.toPL a) ≤ n
  | _, [], _ => by simp [D.toPL, PyData.canLayAll0, PyData.depthAll]
  | n, d :: ds, h => by
    unfold D.shpL at h
    rw [Bool.and_eq_true] at h
    have q1 := lay_toP n d h.1
    have q2 := lay_toPL n ds h.2
    simp only [D.toPL, PyData.canLayAll0, PyData.depthAll, Bool.and_eq_true]
    exact ⟨⟨q1.1, q2.1⟩, by omega⟩
end
theorem shaped_toP {a : D} (h : a.shp 60 = true) : SeqAt.shaped a.toP = true := by
  have q := lay_toP 60 a h
  unfold SeqAt.shaped
  rw [q.1, Bool.true_and, decide_eq_true_eq]
  omega
section
variable {K : PySem.W.Frag} {H : Hp} {P : Ow}
mutual
theorem dp_of : ∀ (n : Nat) {v : V} {d : D}, d.shp n = true → Dat H P v d → Dp K H v d.toP
  | _, _, _, _, .non => by unfold D.toP; exact .non
  | _, _, _, _, .bl b => by unfold D.toP; exact .bl b
  | _, _, _, _, .int i => by unfold D.toP; exact .int i
  | _, _, _, _, .str s => by unfold D.toP; exact .str s
  | 0, _, .tup _, h, _ => by unfold D.shp at h; cases h
  | 0, _, .lst _, h, _ => by unfold D.shp at h; cases h
  | n + 1, _, _, h, .tup e _ l => by unfold D.toP; unfold D.shp at h; exact .tup (.of e) (dp_ofL n h l)
  | n + 1, _, _, h, .lst e _ l => by unfold D.toP; unfold D.shp at h; exact .lst (.of e) (dp_ofL n h l)
theorem dp_ofL : ∀ (n : Nat) {vs : List V} {ds : List D}, D.shpL n ds = true → DatL H P vs ds → DpAll K H vs (D.toPL ds)
  | _, _, _, _, .nil => by unfold D.toPL; exact .nil
  | n, _, _, h, .cons a l => by
    unfold D.shpL at h
    rw [Bool.and_eq_true] at h
    unfold D.toPL
    exact .cons (dp_of n h.1 a) (dp_ofL n h.2 l)
end
theorem BorN.dp {n : Nat} {v : V} {d : D} (s : d.shp n = true) (h : BorN H P v d) : Dp K H v d.toP := by
  rcases h with h | ⟨a, xs, ds, e1, e2, h1, h2⟩
  · exact dp_of n s h
  · subst e1 e2
    cases n with
    | zero => unfold D.shp at s; cases s
    | succ n =>
      unfold D.shp at s
      unfold D.toP
      exact .lst (.of h1) (dp_ofL n s h2)
end
section
variable {X : Cx} {C : Fc}
/-! ### arithmetic -/
theorem op_mulA : OpR X (binaryOp .Mult) (rI (fun i j => IntMulOk i j) fun i j => .int (i * j)) := opI fun _ _ _ _ _ _ _ hc q => mul_int q hc
theorem op_fdivA : OpR X (binaryOp .FloorDiv) (rI (fun i j => j ≠ 0 ∧ Builtin.divisionGoesByPylong i j = false) fun i j => .int (i.fdiv j)) := opI fun _ _ _ _ _ _ _ hc q => floordiv_int hc.1 q (.inl hc.2)
theorem mulOk_of {a b : Int} (h : mulB a b = true) : IntMulOk a b := by
  unfold mulB at h
  unfold IntMulOk
  intro z
  rw [z] at h
  cases h
theorem opS_int {f : D → D → Option D} {g : Int → Int → Int} {c : Int → Int → Prop} (h : ∀ d e z, f d e = some z → ∃ i j, d = .int i ∧ e = .int j ∧ c i j ∧ z = .int (g i j)) : OpS C (rI c fun i j => .int (g i j)) f := by
  intro σ H ρ Q x y d e z R hx hy hf q
  obtain ⟨i, j, rfl, rfl, hc, rfl⟩ := h _ _ _ hf
  exact ⟨i, j, dat_int hx, dat_int hy, hc, q _ _ R (.refl _ _) (.of (.int _) fun _ z => nomatch z)⟩
theorem opS_int0 {f : D → D → Option D} {g : Int → Int → Int} (h : ∀ d e z, f d e = some z → ∃ i j, d = .int i ∧ e = .int j ∧ z = .int (g i j)) : OpS C (rI0 fun i j => .int (g i j)) f := by
  intro σ H ρ Q x y d e z R hx hy hf q
  obtain ⟨i, j, rfl, rfl, rfl⟩ := h _ _ _ hf
  exact ⟨i, j, dat_int hx, dat_int hy, q _ _ R (.refl _ _) (.of (.int _) fun _ z => nomatch z)⟩
theorem opS_cmp {f : D → D → Option D} {g : Int → Int → Bool} (h : ∀ d e z, f d e = some z → ∃ i j, d = .int i ∧ e = .int j ∧ z = .bl (g i j)) : OpS C (rI0 fun i j => .bl (g i j)) f := by
  intro σ H ρ Q x y d e z R hx hy hf q
  obtain ⟨i, j, rfl, rfl, rfl⟩ := h _ _ _ hf
  exact ⟨i, j, dat_int hx, dat_int hy, q _ _ R (.refl _ _) (.of (.bl _) fun _ z => nomatch z)⟩
theorem op_addA : OpR X (binaryOp .Add) (fun x y H Q => rI0 (fun i j => .int (i + j)) x y H Q ∨ rCatA X.K x y H Q ∨ rCat x y H Q) := op_add.or (op_catA.or op_cat)
theorem opS_add : OpS C (fun x y H Q => rI0 (fun i j => .int (i + j)) x y H Q ∨ rCatA C.K x y H Q ∨ rCat x y H Q) D.add := by
  intro σ H ρ Q x y d e z R hx hy hf q
  unfold D.add at hf
  split at hf
  · cases hf
    exact .inl ⟨_, _, dat_int hx, dat_int hy, q _ _ R (.refl _ _) (.of (.int _) fun _ z => nomatch z)⟩
  · rename_i a b
    split at hf
    · rename_i hl
      cases hf
      obtain ⟨p, xs, rfl, h1, n1, l1⟩ := hx.tup
      obtain ⟨r, ys, rfl, h2, n2, l2⟩ := hy.tup
      have hlen : xs.length + ys.length ≤ sizeLine := by rw [l1.length, l2.length]; exact hl
      refine .inr (.inl ⟨p, r, xs, ys, rfl, rfl, .of h1, .of h2, hlen, fun e => ?_, fun _ e => ?_, fun _ _ t ht => ?_⟩)
      · subst e
        cases l1
        exact q _ _ R (.refl _ _) (.of (.tup h2 n2 l2) fun _ z => nomatch z)
      · subst e
        cases l2
        rw [List.append_nil] at q
        exact q _ _ R (.refl _ _) (.of (.tup h1 n1 l1) fun _ z => nomatch z)
      · obtain ⟨r1, r2, r3⟩ := R.newT (xs := xs ++ ys) ht (by rw [List.length_append]; exact hlen) (l1.append l2)
        exact q _ _ r1 r2 (.of r3 fun _ z => nomatch z)
    · cases hf
  · rename_i a b
    split at hf
    · rename_i hl
      cases hf
      obtain ⟨p, xs, rfl, h1, l1⟩ := hx.lst
      obtain ⟨r, ys, rfl, h2, l2⟩ := hy.lst
      have hlen : xs.length + ys.length ≤ sizeLine := by rw [l1.length, l2.length]; exact hl
      refine .inr (.inr ⟨p, r, xs, ys, rfl, rfl, h1, h2, hlen, fun t ht => ?_⟩)
      obtain ⟨r1, r2, r3⟩ := R.newF (xs := xs ++ ys) ht (by rw [List.length_append]; exact hlen) (l1.append l2)
      exact q _ _ r1 r2 (r3 _ ht)
    · cases hf
  · cases hf
theorem opS_sub : OpS C (rI0 fun i j => .int (i - j)) D.sub := opS_int0 fun d e z h => by
  unfold D.sub at h
  split at h
  · cases h; exact ⟨_, _, rfl, rfl, rfl⟩
  · cases h
theorem op_mulAll : OpR X (binaryOp .Mult) (fun x y H Q => rI (fun i j => IntMulOk i j) (fun i j => .int (i * j)) x y H Q ∨ rRep x y H Q ∨ rRepT X.K x y H Q) := op_mulA.or (op_rep.or op_repT)
theorem flat_len {α : Type} (xs : List α) : ∀ k : Nat, (List.replicate k xs).flatten.length = k * xs.length
  | 0 => by simp
  | k + 1 => by rw [List.replicate_succ, List.flatten_cons, List.length_append, flat_len xs k, Nat.succ_mul, Nat.add_comm]
theorem opS_mul : OpS C (fun x y H Q => rI (fun i j => IntMulOk i j) (fun i j => .int (i * j)) x y H Q ∨ rRep x y H Q ∨ rRepT C.K x y H Q) D.mul := by
  intro σ H ρ Q x y d e z R hx hy hf q
  unfold D.mul at hf
  split at hf
  · split at hf
    · rename_i hm
      cases hf
      exact .inl ⟨_, _, dat_int hx, dat_int hy, mulOk_of hm, q _ _ R (.refl _ _) (.of (.int _) fun _ z => nomatch z)⟩
    · cases hf
  · rename_i a k
    split at hf
    · rename_i hl
      cases hf
      obtain ⟨p, xs, rfl, h1, l1⟩ := hx.lst
      have hz : xs.length * k.toNat ≤ sizeLine := by rw [l1.length]; exact hl.2
      refine .inr (.inl ⟨p, k, xs, rfl, dat_int hy, h1, by omega, by omega, hz, fun t ht => ?_⟩)
      obtain ⟨r1, r2, r3⟩ := R.newF (xs := (List.replicate k.toNat xs).flatten) ht (by rw [flat_len, Nat.mul_comm]; exact hz) (l1.rep _)
      exact q _ _ r1 r2 (r3 _ ht)
    · cases hf
  · rename_i a k
    split at hf
    · rename_i hl
      cases hf
      obtain ⟨p, xs, rfl, h1, n1, l1⟩ := hx.tup
      have hz : xs.length ≤ 1000 := by rw [l1.length]; exact hl.2.2.2
      have h3 : xs ≠ [] := fun e => by subst e; cases l1; exact hl.1 rfl
      refine .inr (.inr ⟨p, k, xs, rfl, dat_int hy, .of h1, h3, hl.2.1, hl.2.2.1, hz, fun t ht => ?_⟩)
      have hz2 : k.toNat * xs.length ≤ sizeLine := by
        have h4 : k.toNat ≤ 1000 := by omega
        have h5 := Nat.mul_le_mul h4 hz
        rw [sizeLine_eq]
        omega
      obtain ⟨r1, r2, r3⟩ := R.newT (xs := (List.replicate k.toNat xs).flatten) ht (by rw [flat_len]; exact hz2) (l1.rep _)
      exact q _ _ r1 r2 (.of r3 fun _ z => nomatch z)
    · cases hf
  · cases hf
theorem opS_fdiv : OpS C (rI (fun i j => j ≠ 0 ∧ Builtin.divisionGoesByPylong i j = false) fun i j => .int (i.fdiv j)) D.fdiv := opS_int fun d e z h => by
  unfold D.fdiv at h
  split at h
  · split at h
    · rename_i hc
      cases h; exact ⟨_, _, rfl, rfl, hc, rfl⟩
    · cases h
  · cases h
theorem opS_mod : OpS C (rI (fun _ j => j ≠ 0) fun i j => .int (i.fmod j)) D.mod := opS_int fun d e z h => by
  unfold D.mod at h
  split at h
  · split at h
    · rename_i hc
      cases h; exact ⟨_, _, rfl, rfl, hc, rfl⟩
    · cases h
  · cases h
theorem opS_pow : OpS C (rI CPow fun i j => .int (i ^ j.toNat)) D.pow := opS_int (g := fun i j => i ^ j.toNat) fun d e z h => by
  unfold D.pow at h
  split at h
  · split at h
    · rename_i hc
      cases h; exact ⟨_, _, rfl, rfl, ⟨hc.1, by have := hc.2.1; omega, hc.2.2⟩, rfl⟩
    · cases h
  · cases h
theorem opS_ltI {p : Int → Int → Bool} : OpS C (rI0 fun i j => .bl (p i j)) (D.ltI p) := opS_cmp fun d e z h => by
  unfold D.ltI at h
  split at h
  · cases h; exact ⟨_, _, rfl, rfl, rfl⟩
  · cases h
/-! ### comparisons -/
theorem eqv_some {a b : D} {c : Bool} (h : D.eqv a b = some c) : a.shp 60 = true ∧ b.shp 60 = true ∧ c = D.eqb a b := by
  unfold D.eqv at h
  split at h
  · rename_i q
    cases h
    exact ⟨q.1, q.2, rfl⟩
  · cases h
theorem opS_eq : OpS C (rEqD C.K) (Cop.ev .eq) := by
  intro σ H ρ Q x y d e z R hx hy hf q
  obtain ⟨c, hc, rfl⟩ := Option.map_eq_some_iff.mp (show (D.eqv d e).map .bl = some z from hf)
  obtain ⟨s1, s2, rfl⟩ := eqv_some hc
  refine ⟨_, _, hx.dp s1, hy.dp s2, shaped_toP s1, shaped_toP s2, ?_⟩
  rw [eqb_toP 60 60 d e s1 s2]
  exact q _ _ R (.refl _ _) (.of (.bl _) fun _ z => nomatch z)
theorem opS_ne : OpS C (rNeD C.K) (Cop.ev .ne) := by
  intro σ H ρ Q x y d e z R hx hy hf q
  obtain ⟨c, hc, rfl⟩ := Option.map_eq_some_iff.mp (show (D.eqv d e).map (fun c => .bl (!c)) = some z from hf)
  obtain ⟨s1, s2, rfl⟩ := eqv_some hc
  refine ⟨_, _, hx.dp s1, hy.dp s2, shaped_toP s1, shaped_toP s2, ?_⟩
  rw [eqb_toP 60 60 d e s1 s2]
  exact q _ _ R (.refl _ _) (.of (.bl _) fun _ z => nomatch z)
theorem isN_of {H : Hp} {P : Ow} {v : V} {d : D} (h : BorN H P v d) : decide (v = .non) = d.isN := by
  rcases h with h | ⟨a, xs, ds, rfl, rfl, _⟩
  · cases h <;> rfl
  · rfl
theorem opS_is : OpS C (fun x y H Q => y = .non ∧ Q (.bl (decide (x = .non))) H) (Cop.ev .is_) := by
  intro σ H ρ Q x y d e z R hx hy hf q
  cases e with
  | non =>
    have hf : some (D.bl d.isN) = some z := hf
    cases hf
    refine ⟨dat_non hy, ?_⟩
    rw [isN_of hx]
    exact q _ _ R (.refl _ _) (.of (.bl _) fun _ z => nomatch z)
  | _ => cases d <;> cases hf
theorem opS_isnot : OpS C (fun x y H Q => y = .non ∧ Q (.bl (!decide (x = .non))) H) (Cop.ev .isnot) := by
  intro σ H ρ Q x y d e z R hx hy hf q
  cases e with
  | non =>
    have hf : some (D.bl (!d.isN)) = some z := hf
    cases hf
    refine ⟨dat_non hy, ?_⟩
    rw [isN_of hx]
    exact q _ _ R (.refl _ _) (.of (.bl _) fun _ z => nomatch z)
  | _ => cases d <;> cases hf
theorem flat_of {H : Hp} {P : Ow} {v : V} {d : D} (h : BorN H P v d) (f : d.flat = true) : flatV v = true := by
  rcases h with h | ⟨a, xs, ds, rfl, rfl, _⟩
  · cases h <;> first | rfl | cases f
  · cases f
theorem flat_ofL {H : Hp} {P : Ow} : ∀ {vs : List V} {ds : List D}, DatL H P vs ds → ds.all D.flat = true → vs.all flatV = true
  | _, _, .nil, _ => rfl
  | _, _, .cons a t, h => by
    rw [List.all_cons, Bool.and_eq_true] at h ⊢
    exact ⟨flat_of (.inl a) h.1, flat_ofL t h.2⟩
theorem eqV_of {H : Hp} {P : Ow} {v w : V} {d e : D} (h : BorN H P v d) (g : BorN H P w e) (f1 : d.flat = true) (f2 : e.flat = true) : eqV v w = D.eqb d e := by
  have h' := h.dat fun ds z => by subst z; cases f1
  have g' := g.dat fun ds z => by subst z; cases f2
  cases h' <;> first | (cases f1; done) | (cases g' <;> first | (cases f2; done) | (simp [eqV, D.eqb]; done) | (simp only [eqV, D.eqb]; done) | rfl)
theorem inV_of {H : Hp} {P : Ow} {w : V} {e : D} (g : BorN H P w e) (f2 : e.flat = true) : ∀ {vs : List V} {ds : List D}, DatL H P vs ds → ds.all D.flat = true → inV w vs = ds.any fun d => D.eqb d e
  | _, _, .nil, _ => rfl
  | _, _, .cons a t, h => by
    rw [List.all_cons, Bool.and_eq_true] at h
    have ih := inV_of g f2 t h.2
    unfold inV at ih ⊢
    rw [List.any_cons, List.any_cons, ih, eqV_of (.inl a) g h.1 f2]
theorem isin_of {H : Hp} {P : Ow} {x y : V} {d e : D} {c : Bool} (hx : BorN H P x d) (hy : BorN H P y e) (h : D.isin d e = some c) :
    ∃ p xs, y = .ref p ∧ (SqL C.K H p xs ∨ SqT C.K H p xs) ∧ flatV x = true ∧ xs.all flatV = true ∧ inV x xs = c := by
  unfold D.isin at h
  split at h
  · rename_i ds hi
    split at h
    · rename_i hf
      rw [Bool.and_eq_true] at hf
      cases h
      cases e with
      | tup es =>
        cases hi
        obtain ⟨p, xs, rfl, h1, n1, l1⟩ := hy.tup
        exact ⟨p, xs, rfl, .inr (.of h1), flat_of hx hf.1, flat_ofL l1 hf.2, inV_of hx hf.1 l1 hf.2⟩
      | lst es =>
        cases hi
        obtain ⟨p, xs, rfl, h1, l1⟩ := hy.lst
        exact ⟨p, xs, rfl, .inl (.of h1), flat_of hx hf.1, flat_ofL l1 hf.2, inV_of hx hf.1 l1 hf.2⟩
      | _ => cases hi
    · cases h
  · cases h
theorem opS_in : OpS C (rIn C.K false) (Cop.ev .in_) := by
  intro σ H ρ Q x y d e z R hx hy hf q
  obtain ⟨c, hc, rfl⟩ := Option.map_eq_some_iff.mp (show (D.isin d e).map .bl = some z from hf)
  obtain ⟨p, xs, rfl, h1, h2, h3, h4⟩ := isin_of (C := C) hx hy hc
  exact ⟨p, xs, rfl, h1, h2, h3, q _ _ R (.refl _ _) (.of (by rw [if_neg Bool.false_ne_true, h4]; exact .bl _) fun _ z => nomatch z)⟩
theorem opS_notin : OpS C (rIn C.K true) (Cop.ev .notin) := by
  intro σ H ρ Q x y d e z R hx hy hf q
  obtain ⟨c, hc, rfl⟩ := Option.map_eq_some_iff.mp (show (D.isin d e).map (fun c => .bl (!c)) = some z from hf)
  obtain ⟨p, xs, rfl, h1, h2, h3, h4⟩ := isin_of (C := C) hx hy hc
  exact ⟨p, xs, rfl, h1, h2, h3, q _ _ R (.refl _ _) (.of (by rw [if_pos rfl, h4]; exact .bl _) fun _ z => nomatch z)⟩
/-- the operators of the syntax -/
def Bop.op : Bop → Operator
  | .add => .Add | .sub => .Sub | .mul => .Mult | .fdiv => .FloorDiv | .mod => .Mod | .pow => .Pow
def Cop.op : Cop → CmpOp
  | .eq => .Eq | .ne => .NotEq | .lt => .Lt | .le => .LtE | .gt => .Gt | .ge => .GtE | .is_ => .Is | .isnot => .IsNot | .in_ => .In | .notin => .NotIn
theorem bop_ok (hK : C.K = X.K) (o : Bop) : ∃ r, OpR X (binaryOp o.op) r ∧ OpS C r o.ev := by
  cases o with
  | add => exact ⟨_, by rw [hK]; exact op_addA, opS_add⟩
  | sub => exact ⟨_, op_sub, opS_sub⟩
  | mul => exact ⟨_, by rw [hK]; exact op_mulAll, opS_mul⟩
  | fdiv => exact ⟨_, op_fdivA, opS_fdiv⟩
  | mod => exact ⟨_, op_modN, opS_mod⟩
  | pow => exact ⟨_, op_pow, opS_pow⟩
theorem cop_ok (hK : C.K = X.K) (hu : X.A.units + 64 < cLine) (o : Cop) : ∃ r, OpR X (compareOp o.op) r ∧ OpS C r o.ev := by
  cases o with
  | eq => exact ⟨_, by rw [hK]; exact op_eqD hu, opS_eq⟩
  | ne => exact ⟨_, by rw [hK]; exact op_neD hu, opS_ne⟩
  | lt => exact ⟨_, op_lt, opS_ltI⟩
  | le => exact ⟨_, op_le, opS_ltI⟩
  | gt => exact ⟨_, op_gt, opS_ltI⟩
  | ge => exact ⟨_, op_ge, opS_ltI⟩
  | is_ => exact ⟨_, op_isN, opS_is⟩
  | isnot => exact ⟨_, op_notN, opS_isnot⟩
  | in_ => exact ⟨_, by rw [hK]; exact op_in_seq, opS_in⟩
  | notin => exact ⟨_, by rw [hK]; exact op_notIn_seq, opS_notin⟩
end
end Sm
end

section
set_option Elab.async false
set_option linter.all false
set_option autoImplicit false
set_option maxRecDepth 100000
/-! Sm5: tests, subscripts, built-ins. -/
namespace Sm
open PySem PySem.Spec PyProof.Rows L2
section
variable {X : Cx} {C : Fc} {W : WX}
theorem truV_of {K : PySem.W.Frag} {H : Hp} {P : Ow} {v : V} {d : D} {k : Bool} (h : BorN H P v d) (t : d.truth = some k) : TruV K v H k := by
  cases d with
  | non => cases t; rw [dat_non h]; exact rfl
  | bl b => cases t; rw [dat_bl h]; exact rfl
  | int i => cases t; rw [dat_int h]; exact rfl
  | str s =>
    rw [dat_str h]
    have t : (if s.length ≤ sizeLine then some (s.length != 0) else none) = some k := t
    split at t
    · rename_i hl
      cases t
      refine ⟨hl, ?_⟩
      cases q : s.length with
      | zero => rfl
      | succ n =>
        have e1 : ((n + 1 : Nat) != 0) = true := by simp
        have e2 : (((n + 1 : Nat) : Int) != 0) = true := by
          rw [bne_iff_ne]
          omega
        rw [e1, e2]
    · cases t
  | tup ds =>
    cases t
    obtain ⟨a, xs, rfl, h1, n, l⟩ := h.tup
    refine .inr (.inl ⟨xs, .of h1, ?_⟩)
    cases l <;> rfl
  | lst ds =>
    cases t
    obtain ⟨a, xs, rfl, h1, l⟩ := h.lst
    refine .inl ⟨xs, .of h1, ?_⟩
    cases l <;> rfl
  | obj _ _ => cases t
theorem Post.truth {α β : Type} {σ : L2.St} {H : Hp} {ρ ρ1 : En} {R : Hp → En → β → α → Prop} {Q : β → Hp → Prop} {x : D} {f : Bool → En → Res α} (h : Post C W σ H ρ R Q ((truthM x ρ1).bind f)) : ∃ k, x.truth = some k ∧ Post C W σ H ρ R Q (f k ρ1) := h.opt
def evT (F : Nat → List Ar → FRes) (e : Ex) : En → Res Bool := fun ρ => (evE F e ρ).bind fun d ρ => truthM d ρ
/-! ### tests -/
theorem st_plain {e : Expr} {m : En → Res D} (h : SB X C W e m) (he : ∀ whole, isTrue e X.env whole = (do let v ← whole; standAt e.pos; holding [v] (truthy v))) : ST X C W e (fun ρ => (m ρ).bind fun d ρ => truthM d ρ) := by
  obtain ⟨t, h1, h2⟩ := h
  refine ⟨_, pt_truth h1 he, fun σ H ρ Q R h => h2 σ H ρ _ R (h.bind fun d ρ1 v H1 R1 e1 b1 h => ?_)⟩
  obtain ⟨k, hk, h⟩ := h.opt1
  exact ⟨k, truV_of b1 hk, h.here R1 rfl⟩
theorem st_not {e : Expr} {pos : Pos} {m : En → Res Bool} (h : ST X C W e m) : ST X C W (.UnaryOp .Not e pos) (fun ρ => (m ρ).bind fun b ρ => .ok (!b) ρ) := by
  obtain ⟨t, h1, h2⟩ := h
  exact ⟨_, pt_not h1, fun σ H ρ Q R h => h2 σ H ρ _ R (h.bind fun b ρ1 c H1 R1 e1 b1 h => h.here R1 (congrArg not b1))⟩
/-- a chain of and, or as a test -/
def SW (X : Cx) (C : Fc) (W : WX) (e : Expr) (m : En → Res Bool) : Prop := ∃ t, PW X e t ∧ Sim C W (fun _ => BoolR) t m
theorem SW.st {e : Expr} {m : En → Res Bool} (h : SW X C W e m) : ST X C W e m := let ⟨t, h1, h2⟩ := h; ⟨t, h1.pt, h2⟩
theorem sw_and1 {e : Expr} {pos : Pos} {m : En → Res Bool} (h : ST X C W e m) : SW X C W (.BoolOp .And [e] pos) m := let ⟨t, h1, h2⟩ := h; ⟨t, pw_and1 h1, h2⟩
theorem sw_or1 {e : Expr} {pos : Pos} {m : En → Res Bool} (h : ST X C W e m) : SW X C W (.BoolOp .Or [e] pos) m := let ⟨t, h1, h2⟩ := h; ⟨t, pw_or1 h1, h2⟩
theorem sw_and {a b : Expr} {rest : List Expr} {pos : Pos} {m n : En → Res Bool} (h : ST X C W a m) (g : SW X C W (.BoolOp .And (b :: rest) pos) n) : SW X C W (.BoolOp .And (a :: b :: rest) pos) (fun ρ => (m ρ).bind fun c ρ => match c with | true => n ρ | false => .ok false ρ) := by
  obtain ⟨t, h1, h2⟩ := h
  obtain ⟨u, g1, g2⟩ := g
  refine ⟨_, pw_and h1 g1, fun σ H ρ Q R h => h2 σ H ρ _ R (h.bind fun c ρ1 d H1 R1 e1 b1 h => ?_)⟩
  have b1 : d = c := b1
  subst b1
  cases d with
  | true => exact iteT (g2 σ H1 ρ1 Q R1 h)
  | false => exact iteF (h.here R1 rfl)
theorem sw_or {a b : Expr} {rest : List Expr} {pos : Pos} {m n : En → Res Bool} (h : ST X C W a m) (g : SW X C W (.BoolOp .Or (b :: rest) pos) n) : SW X C W (.BoolOp .Or (a :: b :: rest) pos) (fun ρ => (m ρ).bind fun c ρ => match c with | true => .ok true ρ | false => n ρ) := by
  obtain ⟨t, h1, h2⟩ := h
  obtain ⟨u, g1, g2⟩ := g
  refine ⟨_, pw_or h1 g1, fun σ H ρ Q R h => h2 σ H ρ _ R (h.bind fun c ρ1 d H1 R1 e1 b1 h => ?_)⟩
  have b1 : d = c := b1
  subst b1
  cases d with
  | true => exact iteT (h.here R1 rfl)
  | false => exact iteF (g2 σ H1 ρ1 Q R1 h)
theorem ok_of_bind {α β : Type} {r : Res α} {f : α → En → Res β} {z : β} {ρ' : En} (h : r.bind f = .ok z ρ') : ∃ a ρ1, r = .ok a ρ1 ∧ f a ρ1 = .ok z ρ' := by
  cases r with
  | ok a ρ1 => exact ⟨a, ρ1, rfl, h⟩
  | exc c x ρ1 => cases h
  | bad => cases h
theorem st_cmp {op : CmpOp} {r : R2} {f : D → D → Option D} {a b : Expr} {pos : Pos} {ma mb : En → Res Hd} (ho : OpR X (compareOp op) r) (hr : OpS C r f) (hb : ∀ x y z, f x y = some z → ∃ k, z = .bl k) (ha : SH X C W a ma) (hb' : SH X C W b mb) (hm : behindInMarks op b = false) :
    ST X C W (.Compare a [op] [b] pos) (fun ρ => ((ma ρ).bind fun h ρ => (mb ρ).bind fun g ρ => (h.look ρ).bind fun x ρ => (g.look ρ).bind fun y ρ => opt (f x y) ρ).bind fun d ρ => truthM d ρ) := by
  obtain ⟨ta, a1, a2⟩ := ha
  obtain ⟨tb, b1, b2⟩ := hb'
  refine ⟨_, pt_cmpR ho a1 b1 hm, fun σ H ρ Q R h => ?_⟩
  refine sim_op2 a2 b2 hr σ H ρ _ R ?_
  have key : ∀ r : Res D, (∀ z ρ', r = .ok z ρ' → ∃ k, z = .bl k) → Post C W σ H ρ BoolR Q (r.bind fun d ρ => truthM d ρ) → Post C W σ H ρ (DatFR C σ H) (fun x H' => ∃ k, x = .bl k ∧ Q k H') r := fun r hz p => by
    cases r with
    | ok z ρ' =>
      obtain ⟨k, rfl⟩ := hz z ρ' rfl
      intro v H' x1 x2 x3
      cases x3.dat
      exact ⟨k, rfl, p k H' x1 x2 rfl⟩
    | exc c x ρ' => exact p
    | bad => exact p
  refine key _ (fun z ρ' e => ?_) h
  obtain ⟨_, _, _, e⟩ := ok_of_bind e
  obtain ⟨_, _, _, e⟩ := ok_of_bind e
  obtain ⟨x, _, _, e⟩ := ok_of_bind e
  obtain ⟨y, _, _, e⟩ := ok_of_bind e
  cases q : f x y with
  | some w =>
    rw [q] at e
    cases e
    exact hb x y _ q
  | none => rw [q] at e; cases e
theorem cop_bl (o : Cop) : ∀ x y z, o.ev x y = some z → ∃ k, z = .bl k := by
  intro x y z h
  have ltI : ∀ p, D.ltI p x y = some z → ∃ k, z = .bl k := fun p h => by
    unfold D.ltI at h
    split at h
    · cases h; exact ⟨_, rfl⟩
    · cases h
  cases o with
  | eq => obtain ⟨c, _, rfl⟩ := Option.map_eq_some_iff.mp (show (D.eqv x y).map .bl = some z from h); exact ⟨_, rfl⟩
  | ne => obtain ⟨c, _, rfl⟩ := Option.map_eq_some_iff.mp (show (D.eqv x y).map (fun c => .bl (!c)) = some z from h); exact ⟨_, rfl⟩
  | lt => exact ltI _ h
  | le => exact ltI _ h
  | gt => exact ltI _ h
  | ge => exact ltI _ h
  | is_ => cases y <;> first | (cases h; exact ⟨_, rfl⟩) | (cases x <;> cases h)
  | isnot => cases y <;> first | (cases h; exact ⟨_, rfl⟩) | (cases x <;> cases h)
  | in_ => obtain ⟨c, _, rfl⟩ := Option.map_eq_some_iff.mp (show (D.isin x y).map .bl = some z from h); exact ⟨_, rfl⟩
  | notin => obtain ⟨c, _, rfl⟩ := Option.map_eq_some_iff.mp (show (D.isin x y).map (fun c => .bl (!c)) = some z from h); exact ⟨_, rfl⟩
/-! ### as values -/
theorem se_neg {a : Expr} {pos : Pos} {m : En → Res D} (h : SE X C W a m) : SE X C W (.UnaryOp .USub a pos) (fun ρ => (m ρ).bind fun x ρ => opt x.neg ρ) := by
  obtain ⟨t, h1, h2⟩ := h
  refine ⟨_, pe_un un_neg h1, fun σ H ρ Q R h => h2 σ H ρ _ R (h.bind fun d ρ1 v H1 R1 e1 d1 h => ?_)⟩
  obtain ⟨z, hz, h⟩ := h.opt1
  unfold D.neg at hz
  split at hz
  · cases hz
    cases d1
    exact ⟨_, rfl, h.here R1 (.int _)⟩
  · cases hz
theorem se_not {a : Expr} {pos : Pos} {m : En → Res D} (h : SB X C W a m) : SE X C W (.UnaryOp .Not a pos) (fun ρ => (m ρ).bind fun x ρ => (truthM x ρ).bind fun b ρ => .ok (.bl (!b)) ρ) := by
  obtain ⟨t, h1, h2⟩ := h
  refine ⟨_, pe_notT h1, fun σ H ρ Q R h => h2 σ H ρ _ R (h.bind fun d ρ1 v H1 R1 e1 d1 h => ?_)⟩
  obtain ⟨k, hk, h⟩ := h.truth
  exact ⟨k, truV_of d1 hk, h.here R1 (.bl _)⟩
theorem se_one {op : BoolOp} {e : Expr} {pos : Pos} {m : En → Res D} (h : SE X C W e m) : SE X C W (.BoolOp op [e] pos) m := let ⟨t, h1, h2⟩ := h; ⟨t, pe_one h1, h2⟩
theorem se_and {a b : Expr} {rest : List Expr} {pos : Pos} {m n : En → Res D} (h : SE X C W a m) (g : SE X C W (.BoolOp .And (b :: rest) pos) n) :
    SE X C W (.BoolOp .And (a :: b :: rest) pos) (fun ρ => (m ρ).bind fun x ρ => (truthM x ρ).bind fun c ρ => match c with | true => n ρ | false => .ok x ρ) := by
  obtain ⟨t, h1, h2⟩ := h
  obtain ⟨u, g1, g2⟩ := g
  refine ⟨_, pe_andT h1 g1, fun σ H ρ Q R h => h2 σ H ρ _ R (h.bind fun x ρ1 v H1 R1 e1 d1 h => ?_)⟩
  obtain ⟨k, hk, h⟩ := h.truth
  refine ⟨k, truV_of (.inl d1) hk, ?_⟩
  cases k with
  | true => exact iteT (g2 σ H1 ρ1 Q R1 h)
  | false => exact iteF (h.here R1 d1)
theorem se_or {a b : Expr} {rest : List Expr} {pos : Pos} {m n : En → Res D} (h : SE X C W a m) (g : SE X C W (.BoolOp .Or (b :: rest) pos) n) :
    SE X C W (.BoolOp .Or (a :: b :: rest) pos) (fun ρ => (m ρ).bind fun x ρ => (truthM x ρ).bind fun c ρ => match c with | true => .ok x ρ | false => n ρ) := by
  obtain ⟨t, h1, h2⟩ := h
  obtain ⟨u, g1, g2⟩ := g
  refine ⟨_, pe_orT h1 g1, fun σ H ρ Q R h => h2 σ H ρ _ R (h.bind fun x ρ1 v H1 R1 e1 d1 h => ?_)⟩
  obtain ⟨k, hk, h⟩ := h.truth
  refine ⟨k, truV_of (.inl d1) hk, ?_⟩
  cases k with
  | true => exact iteT (h.here R1 d1)
  | false => exact iteF (g2 σ H1 ρ1 Q R1 h)
theorem se_ife {c a b : Expr} {pos : Pos} {mc : En → Res Bool} {m n : En → Res D} (hc : ST X C W c mc) (h : SE X C W a m) (g : SE X C W b n) :
    SE X C W (.IfExp c a b pos) (fun ρ => (mc ρ).bind fun c ρ => match c with | true => m ρ | false => n ρ) := by
  obtain ⟨tc, c1, c2⟩ := hc
  obtain ⟨t, h1, h2⟩ := h
  obtain ⟨u, g1, g2⟩ := g
  refine ⟨_, pe_ifExp c1 h1 g1, fun σ H ρ Q R h => c2 σ H ρ _ R (h.bind fun k ρ1 d H1 R1 e1 b1 h => ?_)⟩
  have b1 : d = k := b1
  subst b1
  cases d with
  | true => exact iteT (h2 σ H1 ρ1 Q R1 h)
  | false => exact iteF (g2 σ H1 ρ1 Q R1 h)
/-! ### subscripts, slices -/
theorem se_idx {a b : Expr} {pos : Pos} {m : En → Res Hd} {n : En → Res D} (hK : C.K = X.K) (h : SH X C W a m) (g : SE X C W b n) (hs : PlainIx b) :
    SE X C W (.Subscript a b pos) (fun ρ => (m ρ).bind fun h ρ => (n ρ).bind fun y ρ => (h.look ρ).bind fun x ρ => opt (D.idx x y) ρ) := by
  obtain ⟨t, h1, h2⟩ := h
  obtain ⟨u, g1, g2⟩ := g
  refine ⟨_, pe_ix (ix_list.or ix_tup) h1 g1 hs, fun σ H ρ Q R h => h2 σ H ρ _ R (h.bind fun hd ρ1 v H1 R1 e1 d1 h => ?_)⟩
  refine g2 σ H1 ρ1 _ R1 (h.bind fun y ρ2 w H2 R2 e2 d2 h => ?_)
  obtain ⟨x, b1, h⟩ := h.look R2 (HdR.evo e2 d1)
  obtain ⟨z, hz, h'⟩ := h.opt1
  clear h
  unfold D.idx at hz
  split at hz
  · obtain ⟨p, xs, rfl, q1, q2, q3⟩ := b1.tup
    cases d2
    obtain ⟨v, q4, q5⟩ := q3.atI hz
    exact .inr ⟨p, xs, _, v, rfl, rfl, .of q1, q4, h'.here R2 q5⟩
  · obtain ⟨p, xs, rfl, q1, q3⟩ := b1.lst
    cases d2
    obtain ⟨v, q4, q5⟩ := q3.atI hz
    exact .inl ⟨p, xs, _, v, rfl, rfl, .of q1, q4, h'.here R2 q5⟩
  · cases hz
/-- a part of a slice -/
def SO (X : Cx) (C : Fc) (W : WX) (e : Option Expr) (m : En → Res (Option Int)) : Prop := ∃ t, PO X e t ∧ Sim C W (fun _ _ _ a b => a = b) t m
theorem so_none : SO X C W none (fun ρ => .ok none ρ) := ⟨_, po_none, fun σ H ρ Q R h => h.here R rfl⟩
theorem so_some {e : Expr} {m : En → Res D} (h : SE X C W e m) : SO X C W (some e) (fun ρ => (m ρ).bind fun d ρ => intP d ρ) := by
  obtain ⟨t, h1, h2⟩ := h
  refine ⟨_, po_some h1, fun σ H ρ Q R h => h2 σ H ρ _ R (h.bind fun d ρ1 v H1 R1 e1 d1 h => ?_)⟩
  unfold intP at h
  split at h
  · cases d1
    exact ⟨_, rfl, h.here R1 rfl⟩
  · exact h.elim
theorem cut_len {ds : List D} {l h : Option Int} : (cutD ds l h).length ≤ ds.length := by
  unfold cutD
  rw [List.length_take, List.length_drop]
  omega
theorem se_slc {a : Expr} {lo hi : Option Expr} {pos p2 : Pos} {m : En → Res Hd} {n1 n2 : En → Res (Option Int)} (hK : C.K = X.K) (h : SH X C W a m) (g1 : SO X C W lo n1) (g2 : SO X C W hi n2) :
    SF X C W (.Subscript a (.Slice lo hi none p2) pos) (fun ρ => (m ρ).bind fun g ρ => (n1 ρ).bind fun l ρ => (n2 ρ).bind fun h ρ => (g.look ρ).bind fun x ρ => opt (D.slc x l h) ρ) := by
  obtain ⟨t, h1, h2⟩ := h
  obtain ⟨u, u1, u2⟩ := g1
  obtain ⟨w, w1, w2⟩ := g2
  refine ⟨_, pe_slice (sl_list.or sl_tupA) h1 u1 w1, fun σ H ρ Q R h => h2 σ H ρ _ R (h.bind fun hd ρ1 v H1 R1 e1 d1 h => ?_)⟩
  refine u2 σ H1 ρ1 _ R1 (h.bind fun l ρ2 l' H2 R2 e2 d2 h => ?_)
  refine w2 σ H2 ρ2 _ R2 (h.bind fun r ρ3 r' H3 R3 e3 d3 h => ?_)
  have d2 : l' = l := d2
  have d3 : r' = r := d3
  subst d2 d3
  obtain ⟨x, b1, h⟩ := h.look R3 (HdR.evo (e2.trans e3) d1)
  obtain ⟨z, hz, h⟩ := h.opt1
  unfold D.slc at hz
  split at hz
  · rename_i ds
    cases hz
    obtain ⟨p, xs, rfl, q1, q2, q3⟩ := b1.tup
    refine .inr ⟨p, xs, rfl, .of q1, fun hw => ?_, fun _ t ht => ?_⟩
    · have e5 : cutD ds l' r' = ds := by
        unfold cutD
        rw [← q3.length, hw.1, hw.2]
        simp [q3.length]
      rw [e5] at h
      exact h.here R3 (.of (.tup q1 q2 q3) fun _ z => nomatch z)
    · obtain ⟨r1, r2, r3⟩ := R3.newT (xs := cutV xs l' r') ht (Nat.le_trans (cutV_length _ _ _) (R3.lim.tup q1)) (q3.cut l' r')
      exact h _ _ r1 r2 (.of r3 fun _ z => nomatch z)
  · rename_i ds
    cases hz
    obtain ⟨p, xs, rfl, q1, q3⟩ := b1.lst
    refine .inl ⟨p, xs, rfl, .of q1, fun t ht => ?_⟩
    obtain ⟨r1, r2, r3⟩ := R3.newF (xs := cutV xs l' r') ht (Nat.le_trans (cutV_length _ _ _) (R3.lim.lst q1)) (q3.cut l' r')
    exact h _ _ r1 r2 (r3 H (((e1.trans e2).trans e3).none _ ht))
  · cases hz
/-- a slice of the script -/
theorem se_slcS {a : Expr} {i : Nat} {lo hi : Option Expr} {pos p2 : Pos} {n1 n2 : En → Res (Option Int)} (hK : C.K = X.K) (h : PE X a (tVar i)) (g1 : SO X C W lo n1) (g2 : SO X C W hi n2) :
    SF X C W (.Subscript a (.Slice lo hi none p2) pos) (fun ρ => (rdS i ρ).bind fun _ ρ => (n1 ρ).bind fun l ρ => (n2 ρ).bind fun h ρ => (rdS i ρ).bind fun xs ρ => opt (D.slc (.lst xs) l h) ρ) := by
  obtain ⟨u, u1, u2⟩ := g1
  obtain ⟨w, w1, w2⟩ := g2
  refine ⟨_, pe_slice sl_list h u1 w1, fun σ H ρ Q R h => ?_⟩
  obtain ⟨ds0, ρ0, e0, h⟩ := h.pure fun _ _ _ => rdS_exc
  obtain ⟨e0', e1⟩ := rdS_ok e0
  subst e0'
  obtain ⟨p, xs0, hv, _⟩ := R.scr e1
  refine ⟨_, hv, ?_⟩
  refine u2 σ H ρ0 _ R (h.bind fun l ρ2 l' H2 R2 e2 d2 h => ?_)
  refine w2 σ H2 ρ2 _ R2 (h.bind fun r ρ3 r' H3 R3 e3 d3 h => ?_)
  have d2 : l' = l := d2
  have d3 : r' = r := d3
  subst d2 d3
  obtain ⟨ds, ρ4, e4, h⟩ := h.pure fun _ _ _ => rdS_exc
  obtain ⟨e4', e5⟩ := rdS_ok e4
  subst e4'
  obtain ⟨p', xs, hv', hq, q3, hz3⟩ := R3.scr e5
  rw [hv] at hv'
  cases hv'
  obtain ⟨z, hz', h⟩ := h.opt1
  cases hz'
  refine ⟨p, xs, rfl, hK ▸ hq, fun t ht => ?_⟩
  obtain ⟨r1, r2, r3⟩ := R3.newF (xs := cutV xs l' r') ht (Nat.le_trans (cutV_length _ _ _) (by rw [q3.length]; exact hz3)) (q3.cut l' r')
  exact h _ _ r1 r2 (r3 H ((e2.trans e3).none _ ht))
end
end Sm
end

section
set_option Elab.async false
set_option linter.all false
set_option autoImplicit false
set_option maxRecDepth 100000
/-! Sm6: built-ins, isinstance. -/
namespace Sm
open PySem PySem.Spec PyProof.Rows L2
def Bi.name : Bi → Str
  | .len => "len" | .int_ => "int" | .abs => "abs" | .tuple => "tuple" | .list => "list" | .gcd => "gcd" | .lcm => "lcm" | .sum => "sum" | .min2 => "min" | .max2 => "max" | .sorted => "sorted" | .any_ => "any" | .all_ => "all"
/-- what the module's name of a built-in must be -/
def Bi.mgOk (b : Bi) (mg : Str → Option Value) : Prop := match b with
  | .gcd => mg "gcd" = some (.builtin "math.gcd")
  | .lcm => mg "lcm" = some (.builtin "math.lcm")
  | b => mg b.name = none
section
variable {X : Cx} {C : Fc} {W : WX}
def rLcm : List V → Hp → VK → Prop := fun vs H Q => ∃ a b : Int, vs = [.int a, .int b] ∧ a.natAbs < 2 ^ 64 ∧ b.natAbs < 2 ^ 64 ∧ Q (.int ((Nat.lcm a.natAbs b.natAbs : Nat) : Int)) H
theorem lcm_small {a b : Nat} (ha : a < 2 ^ 64) (hb : b < 2 ^ 64) : Nat.lcm a b < 2 ^ 128 := by
  have h1 : Nat.lcm a b ≤ a * b := by
    rcases Nat.eq_zero_or_pos (a * b) with h | h
    · rcases Nat.mul_eq_zero.mp h with h | h <;> subst h <;> simp
    · exact Nat.le_of_dvd h (Nat.lcm_dvd_mul a b)
  have h2 : a * b < 2 ^ 64 * 2 ^ 64 := Nat.mul_lt_mul'' ha hb
  omega
theorem cr_lcm : CallR X (.builtin "math.lcm") rLcm := by
  intro pins s σ H vs us Q I r h
  obtain ⟨a, b, rfl, ha, hb, q⟩ := h
  obtain ⟨t, u, rfl⟩ := Vals.int2 r
  refine PySem.W.mg_lcm ha hb ?_ ⟨.int _, H, I.tok _, ⟨_, by rw [Nat.lcm_one_left]⟩, q⟩
  rw [Nat.lcm_one_left]
  have h1 := lcm_small ha hb
  have h2 : ((Nat.lcm a.natAbs b.natAbs : Nat) : Int).natAbs = Nat.lcm a.natAbs b.natAbs := Int.natAbs_natCast _
  rw [h2]
  have e : bitsLine = 134217728 := by decide
  rw [e]
  rcases Nat.eq_zero_or_pos (Nat.lcm a.natAbs b.natAbs) with h | h
  · rw [h]; decide
  · exact Nat.lt_of_lt_of_le ((Nat.log2_lt (Nat.ne_of_gt h)).mpr h1) (by decide)
/-- a call's rule by what the arguments hold: one argument -/
def CalS1 (C : Fc) (r : List V → Hp → VK → Prop) (f : List D → Option D) : Prop := ∀ (σ : L2.St) (H : Hp) (ρ : En) (Q : VK) (x : V) (d z : D), Rel C σ H ρ → BorN H (Pw C σ ρ) x d → f [d] = some z →
  (∀ v H', Rel C σ H' ρ → Evo (Pw C σ ρ) H (Pw C σ ρ) H' → DatF C σ H H' ρ v z → Q v H') → r [x] H Q
def CalS2 (C : Fc) (r : List V → Hp → VK → Prop) (f : List D → Option D) : Prop := ∀ (σ : L2.St) (H : Hp) (ρ : En) (Q : VK) (x y : V) (d e z : D), Rel C σ H ρ → Dat H (Pw C σ ρ) x d → Dat H (Pw C σ ρ) y e → f [d, e] = some z →
  (∀ v H', Rel C σ H' ρ → Evo (Pw C σ ρ) H (Pw C σ ρ) H' → Dat H' (Pw C σ ρ) v z → Q v H') → r [x, y] H Q
/-- how it is called -/
def CalP (X : Cx) (x : Str) (r : List V → Hp → VK → Prop) : Prop := ∀ {e : Expr} {es : List Expr} {t : TA} {p pos : Pos}, Gl X x → PA X (e :: es) t → starEach (e :: es) X.env = (false, eval e X.env) :: starEach es X.env → (backTo pos (starEach es X.env)).any (·.1) = false →
  PE X (.Call (.Name x p) (e :: es) [] pos) (tCB r t)
theorem calP_B {id : String} {x : Str} {r : List V → Hp → VK → Prop} (hc : CallR X (.builtin id) r) (hm : X.mg x = none) (hv : bootBuiltins x = some (.builtin id)) (hn : x ≠ "__name__") (hd : (x == ("__debug__" : Str)) = false) : CalP X x r :=
  fun hg ha he hpl => pe_callB hc hg hm hv ha hn hd he hpl
theorem calP_T {T : String} {x : Str} {r : List V → Hp → VK → Prop} (hc : CallR X (.type T) r) (hm : X.mg x = none) (hv : bootBuiltins x = some (.type T)) (hn : x ≠ "__name__") (hd : (x == ("__debug__" : Str)) = false) : CalP X x r :=
  fun hg ha he hpl => pe_callTy hc hg hm hv ha hn hd he hpl
theorem calP_M {id : String} {x : Str} {r : List V → Hp → VK → Prop} (hc : CallR X (.builtin id) r) (hm : X.mg x = some (.builtin id)) (hd : (x == ("__debug__" : Str)) = false) : CalP X x r :=
  fun hg ha he hpl => pe_callBfun hc hg hm ha hd he hpl
theorem bi1 {l : List D} {f : List D → Option D} : True := trivial
theorem cal1_ok (hK : C.K = X.K) (hc : X.calm = true) (b : Bi) (hm : b.mgOk X.mg) (h1 : b = .len ∨ b = .int_ ∨ b = .abs ∨ b = .tuple ∨ b = .list ∨ b = .sum) : ∃ r, CalP X b.name r ∧ CalS1 C r b.ev := by
  rcases h1 with rfl | rfl | rfl | rfl | rfl | rfl
  · refine ⟨_, calP_B call_len hm boot_len (by decide) (by decide), fun σ H ρ Q x d z R hx hz q => ?_⟩
    cases d with
    | str s =>
      have hz : (if s.length ≤ sizeLine then some (D.int s.length) else none) = some z := hz
      split at hz
      · rename_i hl
        cases hz
        rw [dat_str hx]
        exact ⟨_, _, rfl, ⟨hl, rfl⟩, q _ _ R (.refl _ _) (.of (.int _) fun _ z => nomatch z)⟩
      · cases hz
    | tup ds =>
      cases hz
      obtain ⟨p, xs, rfl, q1, q2, q3⟩ := hx.tup
      refine ⟨_, _, rfl, .inr ⟨xs, .of q1, rfl⟩, ?_⟩
      rw [q3.length]
      exact q _ _ R (.refl _ _) (.of (.int _) fun _ z => nomatch z)
    | lst ds =>
      cases hz
      obtain ⟨p, xs, rfl, q1, q3⟩ := hx.lst
      refine ⟨_, _, rfl, .inl ⟨xs, .of q1, rfl⟩, ?_⟩
      rw [q3.length]
      exact q _ _ R (.refl _ _) (.of (.int _) fun _ z => nomatch z)
    | _ => cases hz
  · refine ⟨_, calP_T call_int1 hm boot_int (by decide) (by decide), fun σ H ρ Q x d z R hx hz q => ?_⟩
    cases d with
    | int i => cases hz; exact .inl ⟨i, by rw [dat_int hx], q _ _ R (.refl _ _) (.of (.int _) fun _ z => nomatch z)⟩
    | bl i => cases hz; exact .inr ⟨i, by rw [dat_bl hx], q _ _ R (.refl _ _) (.of (.int _) fun _ z => nomatch z)⟩
    | _ => cases hz
  · refine ⟨_, calP_B call_abs hm (by decide +kernel) (by decide) (by decide), fun σ H ρ Q x d z R hx hz q => ?_⟩
    cases d with
    | int i => cases hz; exact ⟨i, by rw [dat_int hx], q _ _ R (.refl _ _) (.of (.int _) fun _ z => nomatch z)⟩
    | _ => cases hz
  · refine ⟨_, calP_T call_tuple_of hm (by decide +kernel) (by decide) (by decide), fun σ H ρ Q x d z R hx hz q => ?_⟩
    cases d with
    | tup ds =>
      cases hz
      obtain ⟨p, xs, rfl, q1, q2, q3⟩ := hx.tup
      exact ⟨p, xs, rfl, .inr ⟨.of q1, q _ _ R (.refl _ _) (.of (.tup q1 q2 q3) fun _ z => nomatch z)⟩⟩
    | lst ds =>
      cases hz
      obtain ⟨p, xs, rfl, q1, q3⟩ := hx.lst
      refine ⟨p, xs, rfl, .inl ⟨.of q1, fun l hl => ?_⟩⟩
      obtain ⟨r1, r2, r3⟩ := R.newT (xs := xs) hl (R.lim.lst q1) q3
      exact q _ _ r1 r2 (.of r3 fun _ z => nomatch z)
    | _ => cases hz
  · refine ⟨_, calP_T call_list_of hm (by decide +kernel) (by decide) (by decide), fun σ H ρ Q x d z R hx hz q => ?_⟩
    cases d with
    | tup ds =>
      cases hz
      obtain ⟨p, xs, rfl, q1, q2, q3⟩ := hx.tup
      refine ⟨p, xs, rfl, .inr (.of q1), fun l hl => ?_⟩
      obtain ⟨r1, r2, r3⟩ := R.newF (xs := xs) hl (R.lim.tup q1) q3
      exact q _ _ r1 r2 (r3 _ hl)
    | lst ds =>
      cases hz
      obtain ⟨p, xs, rfl, q1, q3⟩ := hx.lst
      refine ⟨p, xs, rfl, .inl (.of q1), fun l hl => ?_⟩
      obtain ⟨r1, r2, r3⟩ := R.newF (xs := xs) hl (R.lim.lst q1) q3
      exact q _ _ r1 r2 (r3 _ hl)
    | _ => cases hz
  · refine ⟨_, calP_B (cr_sum hc) hm (by decide +kernel) (by decide) (by decide), fun σ H ρ Q x d z R hx hz q => ?_⟩
    cases d with
    | lst ds =>
      obtain ⟨p, xs, rfl, q1, q3⟩ := hx.lst
      obtain ⟨ns, e1, e2⟩ := Option.map_eq_some_iff.mp (show (D.ints ds).map (fun l => D.int l.sum) = some z from hz)
      subst e2
      have e3 := q3.ints e1
      subst e3
      exact ⟨p, ns, rfl, hK ▸ .of q1, q _ _ R (.refl _ _) (.of (.int _) fun _ z => nomatch z)⟩
    | _ => cases hz
theorem cal2_ok (hc : X.calm = true) (b : Bi) (hm : b.mgOk X.mg) (h1 : b = .gcd ∨ b = .lcm ∨ b = .min2 ∨ b = .max2) : ∃ r, CalP X b.name r ∧ CalS2 C r b.ev := by
  rcases h1 with rfl | rfl | rfl | rfl
  · refine ⟨_, calP_M cr_gcd hm (by decide), fun σ H ρ Q x y d e z R hx hy hz q => ?_⟩
    cases d with
    | int i =>
      cases e with
      | int j => cases hz; cases hx; cases hy; exact ⟨i, j, rfl, q _ _ R (.refl _ _) (.int _)⟩
      | _ => cases hz
    | _ => cases hz
  · refine ⟨_, calP_M cr_lcm hm (by decide), fun σ H ρ Q x y d e z R hx hy hz q => ?_⟩
    cases d with
    | int i =>
      cases e with
      | int j =>
        have hz : (if i.natAbs < 2 ^ 64 ∧ j.natAbs < 2 ^ 64 then some (D.int (Nat.lcm i.natAbs j.natAbs : Nat)) else none) = some z := hz
        split at hz
        · rename_i hl
          cases hz; cases hx; cases hy; exact ⟨i, j, rfl, hl.1, hl.2, q _ _ R (.refl _ _) (.int _)⟩
        · cases hz
      | _ => cases hz
    | _ => cases hz
  · refine ⟨_, calP_B (call_min2 hc) hm (by decide +kernel) (by decide) (by decide), fun σ H ρ Q x y d e z R hx hy hz q => ?_⟩
    cases d with
    | int i =>
      cases e with
      | int j => cases hz; cases hx; cases hy; exact ⟨i, j, rfl, q _ _ R (.refl _ _) (.int _)⟩
      | _ => cases hz
    | _ => cases hz
  · refine ⟨_, calP_B (call_max2 hc) hm (by decide +kernel) (by decide) (by decide), fun σ H ρ Q x y d e z R hx hy hz q => ?_⟩
    cases d with
    | int i =>
      cases e with
      | int j => cases hz; cases hx; cases hy; exact ⟨i, j, rfl, q _ _ R (.refl _ _) (.int _)⟩
      | _ => cases hz
    | _ => cases hz
theorem SF.congr {e : Expr} {m n : En → Res D} (h : SF X C W e m) (q : ∀ ρ, m ρ = n ρ) : SF X C W e n := by
  have z : m = n := funext q
  rw [← z]
  exact h
theorem SE.congr {e : Expr} {m n : En → Res D} (h : SE X C W e m) (q : ∀ ρ, m ρ = n ρ) : SE X C W e n := by
  have z : m = n := funext q
  rw [← z]
  exact h
theorem bind_assoc' {α β γ : Type} (r : Res α) (f : α → En → Res β) (g : β → En → Res γ) : (r.bind f).bind g = r.bind fun a ρ => (f a ρ).bind g := by cases r <;> rfl
theorem se_cal1 {b : Bi} {x : Str} {a : Expr} {p pos : Pos} {m : En → Res D} {r : List V → Hp → VK → Prop} (hp : CalP X x r) (hs : CalS1 C r b.ev) (hg : Gl X x) (h : SB X C W a m) (he : starEach [a] X.env = [(false, eval a X.env)]) :
    SF X C W (.Call (.Name x p) [a] [] pos) (fun ρ => ((m ρ).bind fun x ρ => (Res.ok [] ρ).bind fun xs ρ => .ok (x :: xs) ρ).bind fun ds ρ => opt (b.ev ds) ρ) := by
  refine SF.congr (m := fun ρ => (m ρ).bind fun d ρ => opt (b.ev [d]) ρ) ?_ fun ρ => by rw [bind_assoc'] <;> rfl
  obtain ⟨t, h1, h2⟩ := h
  refine ⟨_, hp hg (pa_cons h1 pa_nil he) he (by rfl), fun σ H ρ Q R h => h2 σ H ρ _ R (h.bind fun d ρ1 v H1 R1 e1 b1 h => ?_)⟩
  obtain ⟨z, hz, h⟩ := h.opt1
  exact hs σ H1 ρ1 Q v d z R1 b1 hz fun v H' r ev dv => h v H' r ev (dv.start e1.none)
theorem se_cal2 {b : Bi} {x : Str} {a c : Expr} {p pos : Pos} {m n : En → Res D} {r : List V → Hp → VK → Prop} (hp : CalP X x r) (hs : CalS2 C r b.ev) (hg : Gl X x) (h : SE X C W a m) (g : SE X C W c n)
    (he : starEach [a, c] X.env = (false, eval a X.env) :: starEach [c] X.env) (he2 : starEach [c] X.env = [(false, eval c X.env)]) :
    SE X C W (.Call (.Name x p) [a, c] [] pos) (fun ρ => ((m ρ).bind fun x ρ => ((n ρ).bind fun y ρ => (Res.ok [] ρ).bind fun xs ρ => .ok (y :: xs) ρ).bind fun xs ρ => .ok (x :: xs) ρ).bind fun ds ρ => opt (b.ev ds) ρ) := by
  refine SE.congr (m := fun ρ => (m ρ).bind fun d ρ => (n ρ).bind fun e ρ => opt (b.ev [d, e]) ρ) ?_ fun ρ => by simp only [bind_assoc'] <;> rfl
  obtain ⟨t, h1, h2⟩ := h
  obtain ⟨u, g1, g2⟩ := g
  refine ⟨_, hp hg (pa_cons h1 (pa_cons g1 pa_nil he2) he) he (by rw [he2] <;> rfl), fun σ H ρ Q R h => h2 σ H ρ _ R (h.bind fun d ρ1 v H1 R1 e1 b1 h => ?_)⟩
  refine g2 σ H1 ρ1 _ R1 (h.bind fun e ρ2 w H2 R2 e2 b2 h => ?_)
  obtain ⟨z, hz, h⟩ := h.opt1
  exact hs σ H2 ρ2 Q v w d e z R2 (b1.evo e2) b2 hz fun v H' r ev dv => h v H' r ev dv
/-! ### isinstance -/
def Ty.nm : Ty → String
  | .int => "int" | .bool => "bool" | .str => "str" | .list => "list" | .tuple => "tuple" | .cls _ => ""
def D.tyN : D → String
  | .non => "NoneType" | .bl _ => "bool" | .int _ => "int" | .str _ => "str" | .tup _ => "tuple" | .lst _ => "list" | .obj _ _ => ""
theorem tyX_of {K : PySem.W.Frag} {H : Hp} {P : Ow} {v : V} {d : D} (h : BorN H P v d) : TyX K H v (.type d.tyN) := by
  rcases h with h | ⟨a, xs, ds, rfl, rfl, h, _⟩
  · cases h with
    | non => exact .base .non
    | bl b => exact .base (.bl b)
    | int i => exact .base (.int i)
    | str s => exact .base (.str s)
    | tup h _ _ => exact .base (.tup h)
    | lst h _ _ => exact .base (.lst h)
  · exact .base (.lst h)
theorem no_obj {H : Hp} {P : Ow} {v : V} {d : D} (h : BorN H P v d) : ∀ c ds, d ≠ .obj c ds := fun c ds e => by
  subst e
  rcases h with h | ⟨a, xs, ds, rfl, e, h, _⟩
  · cases h
  · cases e
def Ty.plain : Ty → Bool
  | .cls _ => false
  | _ => true
theorem kit_of_has {K : PySem.W.Frag} {t : Ty} {d : D} (hp : t.plain = true) (hd : ∀ c ds, d ≠ .obj c ds) : PySem.W.kitOne K (.type d.tyN) (.type t.nm) = some (t.has d) := by
  have key : kitB d.tyN t.nm = some (t.has d) := by
    cases d with
    | obj c ds => exact absurd rfl (hd c ds)
    | _ => cases t <;> first | (cases hp; done) | rfl | decide +kernel | (show kitB _ _ = some false; decide +kernel) | (show kitB _ _ = some true; decide +kernel)
  exact kit_ty key
theorem kitAny_of {K : PySem.W.Frag} {d : D} (hd : ∀ c ds, d ≠ .obj c ds) : ∀ (ts : List Ty), ts.all Ty.plain = true → PySem.W.kitAny K (.type d.tyN) (ts.map fun t => Value.type t.nm) = some (ts.any (·.has d))
  | [], _ => kitAny_nil
  | t :: ts, h => by
    rw [List.all_cons, Bool.and_eq_true] at h
    rw [List.map_cons, List.any_cons]
    refine kitAny_cons (kit_of_has h.1 hd) (fun e => ?_) (fun e => ?_)
    · rw [e, Bool.false_or]
      exact kitAny_of hd ts h.2
    · rw [e, Bool.true_or]
theorem isi_mg (hm : X.mg "isinstance" = none) {e : Expr} {es : List Expr} {t : TA} {p pos : Pos} {r : List V → Hp → VK → Prop} (hc : CallR X (.builtin "isinstance") r) (hg : Gl X "isinstance") (ha : PA X (e :: es) t)
    (he : starEach (e :: es) X.env = (false, eval e X.env) :: starEach es X.env) (hpl : (backTo pos (starEach es X.env)).any (·.1) = false) : PE X (.Call (.Name "isinstance" p) (e :: es) [] pos) (tCB r t) :=
  pe_callB hc hg hm (by decide +kernel) ha (by decide) (by decide) he hpl
/-- a class named in the text -/
theorem pe_cls {x : Str} {n : String} {p : Pos} (hg : Gl X x) (hm : X.mg x = none) (hv : bootBuiltins x = some (.type n)) (hn : x ≠ "__name__") (hd : (x == ("__debug__" : Str)) = false) : PE X (.Name x p) (tC (.ty n)) := pe_bltn hg hm hv rfl hn hd
theorem se_isi1 {a : Expr} {t : Ty} {c : Expr} {p pos : Pos} {m : En → Res D} (ht : t.plain = true) (hm : X.mg "isinstance" = none) (hg : Gl X "isinstance") (h : SB X C W a m) (hc : PE X c (tC (.ty t.nm))) (he : starEach [a, c] X.env = (false, eval a X.env) :: starEach [c] X.env) (he2 : starEach [c] X.env = [(false, eval c X.env)]) :
    SE X C W (.Call (.Name "isinstance" p) [a, c] [] pos) (fun ρ => (m ρ).bind fun x ρ => .ok (.bl ([t].any (·.has x))) ρ) := by
  obtain ⟨u, h1, h2⟩ := h
  refine ⟨_, isi_mg hm call_isi hg (pa_cons h1 (pa_cons hc pa_nil he2) he) he (by rw [he2] <;> rfl), fun σ H ρ Q R h => h2 σ H ρ _ R (h.bind fun d ρ1 v H1 R1 e1 b1 h => ?_)⟩
  refine ⟨v, _, _, _, _, rfl, .ty t.nm, tyX_of b1, kit_of_has ht (no_obj b1), h.here R1 ?_⟩
  rw [List.any_cons, List.any_nil, Bool.or_false]
  exact .bl _
def clsA : List Expr → List Ty → Cx → Prop
  | [], [], _ => True
  | c :: cs, t :: ts, X => PE X c (tC (.ty t.nm)) ∧ starEach (c :: cs) X.env = (false, eval c X.env) :: starEach cs X.env ∧ clsA cs ts X
  | _, _, _ => False
theorem clsA_pa : ∀ {cs : List Expr} {ts : List Ty}, clsA cs ts X → ∃ u, PA X cs u ∧ ∀ σ H (Q : List V → Hp → Prop), Q (ts.map fun t => V.ty t.nm) H → u σ H Q
  | [], [], _ => ⟨_, pa_nil, fun _ _ _ h => h⟩
  | c :: cs, t :: ts, ⟨h1, h2, h3⟩ => by
    obtain ⟨u, q1, q2⟩ := clsA_pa h3
    exact ⟨_, pa_cons h1 q1 h2, fun σ H Q h => q2 σ H _ h⟩
  | [], _ :: _, h => h.elim
  | _ :: _, [], h => h.elim
theorem paired_cls : ∀ ts : List Ty, Paired ClsV (ts.map fun t => V.ty t.nm) (ts.map fun t => Value.type t.nm)
  | [] => .nil
  | t :: ts => .cons (.ty _) (paired_cls ts)
theorem se_isiT {a : Expr} {ts : List Ty} {cs : List Expr} {k : Nat} {p pos pos2 : Pos} {m : En → Res D} (ht : ts.all Ty.plain = true) (hl : ts.length ≤ sizeLine) (hm : X.mg "isinstance" = none) (hg : Gl X "isinstance") (h : SB X C W a m) (hc : clsA cs ts X)
    (he : starEach [a, .Tuple cs k pos2] X.env = (false, eval a X.env) :: starEach [.Tuple cs k pos2] X.env) (hK : C.K = X.K) :
    SE X C W (.Call (.Name "isinstance" p) [a, .Tuple cs k pos2] [] pos) (fun ρ => (m ρ).bind fun x ρ => .ok (.bl (ts.any (·.has x))) ρ) := by
  obtain ⟨u, h1, h2⟩ := h
  obtain ⟨w, w1, w2⟩ := clsA_pa hc
  refine ⟨_, isi_mg hm call_isiT hg (pa_cons h1 (pa_cons (pe_tup w1) pa_nil (by rfl)) he) he (by rfl), fun σ H ρ Q R h => h2 σ H ρ _ R (h.bind fun d ρ1 v H1 R1 e1 b1 h => ?_)⟩
  refine w2 σ H1 _ ⟨by rw [List.length_map]; exact hl, fun q hq => ?_⟩
  have R2 : Rel C σ (upd H1 q (.tup (ts.map fun t => V.ty t.nm))) ρ1 := R1.new hq fun xs e => by
    rcases e with e | e <;> cases e
    rw [List.length_map]; exact hl
  have ev : Evo (Pw C σ ρ1) H1 (Pw C σ ρ1) (upd H1 q (.tup (ts.map fun t => V.ty t.nm))) := .new hq fun b z => .inl z
  have b2 : BorN (upd H1 q (.tup (ts.map fun t => V.ty t.nm))) (Pw C σ ρ1) v d := by
    rcases b1 with b1 | ⟨a, xs, ds, rfl, rfl, b1, b3⟩
    · exact .inl (b1.evo ev)
    · exact .inr ⟨a, xs, ds, rfl, rfl, by rw [upd_ne (ne_of_none b1 hq)]; exact b1, b3.evo ev⟩
  exact ⟨v, q, _, _, _, _, rfl, upd_same, paired_cls ts, tyX_of b2, kitAny_of (no_obj b1) ts ht, h _ _ R2 ev (.bl _)⟩
end
end Sm
end

section
set_option Elab.async false
set_option linter.all false
set_option autoImplicit false
set_option maxRecDepth 100000
/-! Sm7: what a def of the text promises; its call. -/
namespace Sm
open PySem PySem.Spec PyProof.Rows L2
def ArR (K : PySem.W.Frag) (H : Hp) (P : Ow) (v : V) : Ar → Prop
  | .d x => Dat H P v x
  | .b _ x => BorN H P v x
  | .o _ ds => ∃ a xs, v = .ref a ∧ P a ∧ H a = some (.lst xs) ∧ DatL H P xs ds
  | .s ds => ∃ a xs, v = .ref a ∧ SqL K H a xs ∧ DatL H P xs ds ∧ ds.length ≤ sizeLine
inductive ArL (K : PySem.W.Frag) (H : Hp) (P : Ow) : List V → List Ar → Prop where
  | nil : ArL K H P [] []
  | cons {v : V} {a : Ar} {vs : List V} {as : List Ar} : ArR K H P v a → ArL K H P vs as → ArL K H P (v :: vs) (a :: as)
/-- the addresses of the lists that are handed over to be changed -/
def oAd : List V → List Ar → List Addr
  | .ref a :: vs, .o _ _ :: as => a :: oAd vs as
  | _ :: vs, _ :: as => oAd vs as
  | _, _ => []
/-- the addresses of what is borrowed -/
def bAd : List V → List Ar → List Addr
  | .ref a :: vs, .b _ _ :: as => a :: bAd vs as
  | _ :: vs, _ :: as => bAd vs as
  | _, _ => []
structure ApartA (vs : List V) (as : List Ar) : Prop where
  nd : ∀ (i j : Nat) (a : Addr), (oAd vs as)[i]? = some a → (oAd vs as)[j]? = some a → i = j
  ob : ∀ a, a ∈ oAd vs as → a ∉ bAd vs as
  os : as.any Ar.isS = true → oAd vs as = []
structure FKeep (H H' : Hp) (l : List Addr) : Prop where
  keep : ∀ b o, H b = some o → b ∉ l → H' b = some o
  dom : ∀ b, H b ≠ none → H' b ≠ none
  lim : Lim H'
def ExcM (mg : Str → Option Value) (H : Hp) (c : Str) (x : D) (cl : Value) (d : Option Addr) : Prop :=
  ∃ (a dd : Addr) (v : V), mg c = some (.ref a) ∧ cl = .ref a ∧ d = some dd ∧ x.fv = some v ∧ H dd = some (.xd [(fldOf c, v)])
def IoR (H' : Hp) (P : Ow) (l : List Addr) (ios : List (List D)) : Prop := ios.length = l.length ∧ ∀ (k : Nat) (a : Addr) (ds : List D), l[k]? = some a → ios[k]? = some ds → ∃ xs, H' a = some (.lst xs) ∧ DatL H' P xs ds
def ResR (own : Bool) (H H' : Hp) (P : Ow) (v : V) (d : D) : Prop := match own with
  | false => Dat H' P v d
  | true => ∃ a xs ds, v = .ref a ∧ d = .lst ds ∧ H a = none ∧ H' a = some (.lst xs) ∧ DatL H' (fun b => P b ∨ b = a) xs ds
def FPost (mg : Str → Option Value) (P : Ow) (H : Hp) (l : List Addr) (own : Bool) (Q : VK) (E : XK) : FRes → Prop
  | .ok d ios => ∀ v H', FKeep H H' l → IoR H' (fun b => P b ∨ (own = true ∧ v = .ref b)) l ios → ResR own H H' P v d → Q v H'
  | .exc c x => ∀ cl dx H', FKeep H H' [] → ExcM mg H' c x cl dx → E cl dx H'
  | .bad => False
/-- a def's promise: it hands back what its IR computes -/
def spF (K : PySem.W.Frag) (mg : Str → Option Value) (n : Nat) (fr : List Ar → FRes) (own : Bool) : Sp := fun vs H Q E => ∃ (P : Ow) (as : List Ar), vs.length = n ∧ ArL K H P vs as ∧ (∀ a, P a → H a ≠ none) ∧ Lim H ∧ ApartA vs as ∧ FPost mg P H (oAd vs as) own Q E (fr as)
section
variable {X : Cx} {C : Fc} {W : WX} {σ : L2.St} {H H' : Hp} {ρ ρ' : En}
theorem fillA_exc : ∀ {hs : List Hd} {c : Str} {x : D} {ρ ρ' : En}, fillA hs ρ ≠ .exc c x ρ'
  | [], _, _, _, _ => fun z => nomatch z
  | .d x :: r, c, y, ρ, ρ' => fun z => by
    unfold fillA at z
    cases q : fillA r ρ with
    | ok _ _ => rw [q] at z; cases z
    | exc _ _ _ => exact absurd q fillA_exc
    | bad => rw [q] at z; cases z
  | .b i :: r, c, y, ρ, ρ' => fun z => by
    unfold fillA at z
    cases p : rdB i ρ with
    | ok x ρ1 =>
      rw [p] at z
      simp only [Res.bind] at z
      cases q : fillA r ρ1 with
      | ok _ _ => rw [q] at z; cases z
      | exc _ _ _ => exact absurd q fillA_exc
      | bad => rw [q] at z; cases z
    | exc _ _ _ => exact absurd p rdB_exc
    | bad => rw [p] at z; cases z
  | .o i :: r, c, y, ρ, ρ' => fun z => by
    unfold fillA at z
    cases p : rdO i ρ with
    | ok x ρ1 =>
      rw [p] at z
      simp only [Res.bind] at z
      cases q : fillA r ρ1 with
      | ok _ _ => rw [q] at z; cases z
      | exc _ _ _ => exact absurd q fillA_exc
      | bad => rw [q] at z; cases z
    | exc _ _ _ => exact absurd p rdO_exc
    | bad => rw [p] at z; cases z
  | .s i :: r, c, y, ρ, ρ' => fun z => by
    unfold fillA at z
    cases p : rdS i ρ with
    | ok x ρ1 =>
      rw [p] at z
      simp only [Res.bind] at z
      cases q : fillA r ρ1 with
      | ok _ _ => rw [q] at z; cases z
      | exc _ _ _ => exact absurd q fillA_exc
      | bad => rw [q] at z; cases z
    | exc _ _ _ => exact absurd p rdS_exc
    | bad => rw [p] at z; cases z
/-- one argument, as it is at the call -/
inductive Fill1 (ρ : En) : Hd → Ar → Prop where
  | d (x : D) : Fill1 ρ (.d x) (.d x)
  | b {i : Nat} {x : D} {s : Sl} : ρ[i]? = some s → s.see = some x → Fill1 ρ (.b i) (.b i x)
  | o {i : Nat} {l : List D} : (ρ[i]? = some (.own l) ∨ ρ[i]? = some (.io l)) → Fill1 ρ (.o i) (.o i l)
  | s {i : Nat} {l : List D} : ρ[i]? = some (.scr l) → Fill1 ρ (.s i) (.s l)
inductive FillL (ρ : En) : List Hd → List Ar → Prop where
  | nil : FillL ρ [] []
  | cons {h : Hd} {a : Ar} {hs : List Hd} {as : List Ar} : Fill1 ρ h a → FillL ρ hs as → FillL ρ (h :: hs) (a :: as)
theorem fillA_ok : ∀ {hs : List Hd} {as : List Ar} {ρ ρ' : En}, fillA hs ρ = .ok as ρ' → ρ' = ρ ∧ FillL ρ hs as
  | [], as, ρ, ρ', h => by cases h; exact ⟨rfl, .nil⟩
  | .d x :: r, as, ρ, ρ', h => by
    obtain ⟨as1, ρ1, e1, e2⟩ := ok_of_bind (show (fillA r ρ).bind (fun as ρ => .ok (.d x :: as) ρ) = .ok as ρ' from h)
    cases e2
    obtain ⟨h1, h2⟩ := fillA_ok e1
    exact ⟨h1, .cons (.d x) h2⟩
  | .b i :: r, as, ρ, ρ', h => by
    obtain ⟨x, ρ0, e0, h9⟩ := ok_of_bind (show (rdB i ρ).bind (fun x ρ => (fillA r ρ).bind fun as ρ => .ok (.b i x :: as) ρ) = .ok as ρ' from h)
    obtain ⟨z, s, z1, z2⟩ := rdB_ok e0
    subst z
    obtain ⟨as1, ρ1, e1, e2⟩ := ok_of_bind (show (fillA r ρ0).bind (fun as ρ => .ok (.b i x :: as) ρ) = .ok as ρ' from h9)
    cases e2
    obtain ⟨h1, h2⟩ := fillA_ok e1
    exact ⟨h1, .cons (.b z1 z2) h2⟩
  | .o i :: r, as, ρ, ρ', h => by
    obtain ⟨x, ρ0, e0, h9⟩ := ok_of_bind (show (rdO i ρ).bind (fun x ρ => (fillA r ρ).bind fun as ρ => .ok (.o i x :: as) ρ) = .ok as ρ' from h)
    obtain ⟨z, z1⟩ := rdO_ok e0
    subst z
    obtain ⟨as1, ρ1, e1, e2⟩ := ok_of_bind (show (fillA r ρ0).bind (fun as ρ => .ok (.o i x :: as) ρ) = .ok as ρ' from h9)
    cases e2
    obtain ⟨h1, h2⟩ := fillA_ok e1
    exact ⟨h1, .cons (.o z1) h2⟩
  | .s i :: r, as, ρ, ρ', h => by
    obtain ⟨x, ρ0, e0, h9⟩ := ok_of_bind (show (rdS i ρ).bind (fun x ρ => (fillA r ρ).bind fun as ρ => .ok (.s x :: as) ρ) = .ok as ρ' from h)
    obtain ⟨z, z1⟩ := rdS_ok e0
    subst z
    obtain ⟨as1, ρ1, e1, e2⟩ := ok_of_bind (show (fillA r ρ0).bind (fun as ρ => .ok (.s x :: as) ρ) = .ok as ρ' from h9)
    cases e2
    obtain ⟨h1, h2⟩ := fillA_ok e1
    exact ⟨h1, .cons (.s z1) h2⟩
theorem slO {P : Ow} {i : Nat} {l : List D} (R : Rel C σ H ρ) (e : ρ[i]? = some (.own l) ∨ ρ[i]? = some (.io l)) : ∃ a xs, σ[i]? = some (some (.ref a)) ∧ Pw C σ ρ a ∧ H a = some (.lst xs) ∧ DatL H (Pw C σ ρ) xs l ∧ ∃ s, ρ[i]? = some s ∧ s.isOwn = true := by
  rcases e with e | e
  · obtain ⟨a, xs, z, z2, z3, _⟩ := R.slot i _ e
    exact ⟨a, xs, z, .inr ⟨i, _, e, rfl, z⟩, z2, z3, _, e, rfl⟩
  · obtain ⟨a, xs, z, z2, z3, _⟩ := R.slot i _ e
    exact ⟨a, xs, z, .inr ⟨i, _, e, rfl, z⟩, z2, z3, _, e, rfl⟩
theorem fill_rel (R : Rel C σ H ρ) : ∀ {vs : List V} {hs : List Hd} {as : List Ar}, HdLR σ H (Pw C σ ρ) vs hs → FillL ρ hs as → ArL C.K H (Pw C σ ρ) vs as
  | _, _, _, .nil, .nil => .nil
  | _, _, _, .cons h t, .cons f g => by
    refine .cons ?_ (fill_rel R t g)
    cases f with
    | d x => exact h
    | b e1 e2 =>
      obtain ⟨w, q1, q2⟩ := R.see e1 e2
      have h' : σ[_]? = some (some _) := h
      rw [q1] at h'
      cases h'
      exact q2
    | o e =>
      obtain ⟨a, xs, q1, q2, q3, q4, _⟩ := slO (P := Pw C σ ρ) R e
      have h' : σ[_]? = some (some _) := h
      rw [q1] at h'
      cases h'
      exact ⟨a, xs, rfl, q2, q3, q4⟩
    | s e =>
      obtain ⟨a, xs, q1, q2, q3, hz⟩ := R.scr e
      have h' : σ[_]? = some (some _) := h
      rw [q1] at h'
      cases h'
      exact ⟨a, xs, rfl, q2, q3, hz⟩
/-- the addresses and the slots of what is handed over -/
theorem oAd_slots (R : Rel C σ H ρ) : ∀ {vs : List V} {hs : List Hd} {as : List Ar}, HdLR σ H (Pw C σ ρ) vs hs → FillL ρ hs as → (oAd vs as).length = (oSlots as).length ∧ ∀ (k j : Nat), (oSlots as)[k]? = some j → ∃ a s, (oAd vs as)[k]? = some a ∧ σ[j]? = some (some (.ref a)) ∧ ρ[j]? = some s ∧ s.isOwn = true
  | _, _, _, .nil, .nil => ⟨rfl, fun k j e => by simp [oSlots] at e⟩
  | v :: vs, h :: hs, a :: as, .cons x t, .cons f g => by
    have ih := oAd_slots R t g
    cases f with
    | d y => cases v <;> exact ih
    | b e1 e2 => cases v <;> exact ih
    | s e => cases v <;> exact ih
    | @o i l e =>
      obtain ⟨a, xs, q1, q2, q3, q4, s, q5, q6⟩ := slO (P := Pw C σ ρ) R e
      have h' : σ[i]? = some (some v) := x
      rw [q1] at h'
      cases h'
      refine ⟨congrArg Nat.succ ih.1, fun k j ej => ?_⟩
      cases k with
      | zero =>
        have ej : some i = some j := ej
        cases ej
        exact ⟨a, s, rfl, q1, q5, q6⟩
      | succ k => exact ih.2 k j ej
theorem bAd_slots (R : Rel C σ H ρ) : ∀ {vs : List V} {hs : List Hd} {as : List Ar}, HdLR σ H (Pw C σ ρ) vs hs → FillL ρ hs as → ∀ a, a ∈ bAd vs as → ∃ j s, j ∈ as.filterMap Ar.bSlot ∧ σ[j]? = some (some (.ref a)) ∧ ρ[j]? = some s ∧ s.see ≠ none
  | _, _, _, .nil, .nil => fun a h => by simp [bAd] at h
  | v :: vs, h :: hs, a :: as, .cons x t, .cons f g => fun b hb => by
    have ih := bAd_slots R t g b
    cases f with
    | d y => cases v <;> (obtain ⟨j, s, h1, h2⟩ := ih hb; exact ⟨j, s, h1, h2⟩)
    | s e => cases v <;> (obtain ⟨j, s, h1, h2⟩ := ih hb; exact ⟨j, s, h1, h2⟩)
    | o e => cases v <;> (obtain ⟨j, s, h1, h2⟩ := ih hb; exact ⟨j, s, h1, h2⟩)
    | @b i y s e1 e2 =>
      have x' : σ[i]? = some (some v) := x
      have rest : b ∈ bAd vs as → ∃ j s, j ∈ (Ar.b i y :: as).filterMap Ar.bSlot ∧ σ[j]? = some (some (.ref b)) ∧ ρ[j]? = some s ∧ s.see ≠ none := fun hb => by
        obtain ⟨j, s, h1, h2⟩ := ih hb
        exact ⟨j, s, List.mem_cons_of_mem _ h1, h2⟩
      cases v with
      | ref c =>
        rcases List.mem_cons.mp hb with rfl | hb
        · exact ⟨i, s, List.mem_cons_self, x', e1, by rw [e2]; exact fun z => nomatch z⟩
        · exact rest hb
      | _ => exact rest hb
theorem slot_apart (R : Rel C σ H ρ) {i j : Nat} {s t : Sl} {a : Addr} (e1 : ρ[i]? = some s) (e2 : ρ[j]? = some t) (h1 : s.isOwn = true) (h2 : t.see ≠ none) (g1 : σ[i]? = some (some (.ref a))) (g2 : σ[j]? = some (some (.ref a))) : i = j := by
  have own : Pw C σ ρ a := .inr ⟨i, s, e1, h1, g1⟩
  cases t with
  | un => exact absurd rfl h2
  | scr ds => exact absurd rfl h2
  | own ds => exact R.inj i j s _ a e1 e2 h1 rfl g1 g2
  | lk ds => exact R.inj i j s _ a e1 e2 h1 rfl g1 g2
  | io ds => exact R.inj i j s _ a e1 e2 h1 rfl g1 g2
  | lki ds => exact R.inj i j s _ a e1 e2 h1 rfl g1 g2
  | dat d =>
    obtain ⟨v, q1, q2⟩ := R.slot j _ e2
    rw [g2] at q1
    cases q1
    cases q2 with
    | tup _ n _ => exact absurd own n
    | lst _ n _ => exact absurd own n
  | bor d =>
    obtain ⟨v, q1, q2⟩ := R.slot j _ e2
    rw [g2] at q1
    cases q1
    have hH : ∃ o, C.H0 a = some o := by
      rcases q2 with q2 | ⟨b, xs, ds, eb, _, q2, _⟩
      · cases q2 with
        | tup h _ _ => exact ⟨_, h⟩
        | lst h _ _ => exact ⟨_, h⟩
      · cases eb
        exact ⟨_, q2⟩
    obtain ⟨o, hH⟩ := hH
    have z := R.slot i s e1
    -- its own list is younger than the entry, or handed over and not borrowed
    have fresh : C.H0 a = none → i = j := fun h => by rw [hH] at h; cases h
    have notI : s.isIo = true → i = j := fun h => by
      obtain ⟨b, hb⟩ := R.ioI i s e1 h
      obtain ⟨z1, _⟩ := R.io _ hb
      rw [g1] at z1
      cases z1
      have ox : C.Ox b := by
        cases s with
        | io ds => obtain ⟨c, xs, w1, _, _, w4⟩ := z; rw [g1] at w1; cases w1; exact w4
        | lki ds => obtain ⟨c, xs, w1, _, _, w4⟩ := z; rw [g1] at w1; cases w1; exact w4
        | _ => cases h
      rcases q2 with q2 | ⟨b, xs, ds, eb, _, q2, q3, _⟩
      · cases q2 with
        | tup _ n _ => exact absurd ox n
        | lst _ n _ => exact absurd ox n
      · cases eb
        exact absurd rfl (q3 _ hb)
    cases s with
    | own ds => obtain ⟨c, xs, w1, _, _, w4⟩ := z; rw [g1] at w1; cases w1; exact fresh w4
    | lk ds => obtain ⟨c, xs, w1, _, _, w4⟩ := z; rw [g1] at w1; cases w1; exact fresh w4
    | io ds => exact notI rfl
    | lki ds => exact notI rfl
    | _ => cases h1
theorem nodupN {N : List Nat} (hN : N.Nodup) {i j : Nat} {x : Nat} (a : N[i]? = some x) (b : N[j]? = some x) : i = j := by
  obtain ⟨h1, e1⟩ := List.getElem?_eq_some_iff.mp a
  obtain ⟨h2, e2⟩ := List.getElem?_eq_some_iff.mp b
  exact (List.getElem_inj hN).mp (e1.trans e2.symm)
theorem apart_of (R : Rel C σ H ρ) {vs : List V} {hs : List Hd} {as : List Ar} (h : HdLR σ H (Pw C σ ρ) vs hs) (f : FillL ρ hs as) (e : apart as = true) : ApartA vs as := by
  unfold apart at e
  rw [Bool.and_eq_true, Bool.and_eq_true, decide_eq_true_eq] at e
  obtain ⟨e1, e2, e3⟩ := e
  obtain ⟨l1, l2⟩ := oAd_slots R h f
  have back : ∀ (k : Nat) (a : Addr), (oAd vs as)[k]? = some a → ∃ j s, (oSlots as)[k]? = some j ∧ σ[j]? = some (some (.ref a)) ∧ ρ[j]? = some s ∧ s.isOwn = true := fun k a hk => by
    have hlt : k < (oSlots as).length := by rw [← l1]; exact (List.getElem?_eq_some_iff.mp hk).1
    obtain ⟨a', s, q1, q2, q3, q4⟩ := l2 k _ (List.getElem?_eq_getElem hlt)
    rw [hk] at q1
    cases q1
    exact ⟨_, s, List.getElem?_eq_getElem hlt, q2, q3, q4⟩
  refine ⟨fun i j a ha hj => ?_, fun a ha hb => ?_, fun hs => ?_⟩
  · obtain ⟨x, s, q1, q2, q3, q4⟩ := back i a ha
    obtain ⟨y, t, p1, p2, p3, p4⟩ := back j a hj
    have exy := R.inj x y s t a q3 p3 q4 p4 q2 p2
    subst exy
    exact nodupN e1 q1 p1
  · obtain ⟨k, hk⟩ := List.getElem?_of_mem ha
    obtain ⟨x, s, q1, q2, q3, q4⟩ := back k a hk
    obtain ⟨j, t, p1, p2, p3, p4⟩ := bAd_slots R h f a hb
    have e := slot_apart R q3 p3 q4 p4 q2 p2
    subst e
    have z := List.all_eq_true.mp e2 x (List.mem_of_getElem? q1)
    rw [decide_eq_true_eq] at z
    exact z p1
  · rw [hs, Bool.not_true, Bool.false_or] at e3
    have z : oSlots as = [] := List.isEmpty_iff.mp e3
    rw [z] at l1
    exact List.length_eq_zero_iff.mp l1
end
end Sm
end

section
set_option Elab.async false
set_option linter.all false
set_option autoImplicit false
set_option maxRecDepth 100000
/-! Sm8: behind a call of the text's. -/
namespace Sm
open PySem PySem.Spec PyProof.Rows L2
/-- the kind of a slot -/
def Sl.kd : Sl → Nat
  | .un => 0 | .dat _ => 1 | .own _ => 2 | .io _ => 3 | .lk _ => 4 | .lki _ => 5 | .bor _ => 6 | .scr _ => 7
theorem kd_own {s t : Sl} (h : s.kd = t.kd) : s.isOwn = t.isOwn := by cases s <;> cases t <;> first | rfl | cases h
theorem kd_io {s t : Sl} (h : s.kd = t.kd) : s.isIo = t.isIo := by cases s <;> cases t <;> first | rfl | cases h
/-- all slots of their kinds -/
def SameK (ρ ρ' : En) : Prop := ∀ (j : Nat), (ρ'[j]?).map Sl.kd = (ρ[j]?).map Sl.kd
theorem SameK.get {ρ ρ' : En} (h : SameK ρ ρ') {j : Nat} {s : Sl} (e : ρ[j]? = some s) : ∃ t, ρ'[j]? = some t ∧ t.kd = s.kd := by
  have q := h j
  rw [e] at q
  exact Option.map_eq_some_iff.mp q
theorem SameK.symm {ρ ρ' : En} (h : SameK ρ ρ') : SameK ρ' ρ := fun j => (h j).symm
theorem SameK.trans {ρ ρ' ρ'' : En} (h : SameK ρ ρ') (g : SameK ρ' ρ'') : SameK ρ ρ'' := fun j => (g j).trans (h j)
theorem SameK.own {ρ ρ' : En} (h : SameK ρ ρ') {σ : L2.St} {a : Addr} (o : OwnAt σ ρ a) : OwnAt σ ρ' a := by
  obtain ⟨i, s, e, o, q⟩ := o
  obtain ⟨t, e2, k⟩ := h.get e
  exact ⟨i, t, e2, by rw [kd_own k]; exact o, q⟩
theorem SameK.pw {C : Fc} {ρ ρ' : En} (h : SameK ρ ρ') {σ : L2.St} : Pw C σ ρ' = Pw C σ ρ := by
  funext a
  exact propext ⟨fun z => z.imp id h.symm.own, fun z => z.imp id h.own⟩
theorem SameK.len {ρ ρ' : En} (h : SameK ρ ρ') : ρ'.length = ρ.length := by
  refine Nat.le_antisymm ?_ ?_
  · refine Nat.le_of_not_lt fun q => ?_
    obtain ⟨t, e, _⟩ := h.symm.get (List.getElem?_eq_getElem q)
    exact absurd (List.getElem?_eq_some_iff.mp e).1 (Nat.lt_irrefl _)
  · refine Nat.le_of_not_lt fun q => ?_
    obtain ⟨t, e, _⟩ := h.get (List.getElem?_eq_getElem q)
    exact absurd (List.getElem?_eq_some_iff.mp e).1 (Nat.lt_irrefl _)
section
variable {X : Cx} {C : Fc} {W : WX} {σ : L2.St} {H H' : Hp} {ρ ρ' : En}
theorem chg_ok {i : Nat} {ds : List D} {u : Unit} (h : chg i ds ρ = .ok u ρ') : ((∃ l, ρ[i]? = some (.own l)) ∧ ρ' = ρ.set i (.own ds)) ∨ ((∃ l, ρ[i]? = some (.io l)) ∧ ρ' = ρ.set i (.io ds)) := by
  unfold chg at h
  split at h
  · rename_i l e; cases h; exact .inl ⟨⟨l, e⟩, rfl⟩
  · rename_i l e; cases h; exact .inr ⟨⟨l, e⟩, rfl⟩
  · cases h
theorem chg_exc {i : Nat} {ds : List D} {c : Str} {x : D} : chg i ds ρ ≠ .exc c x ρ' := by
  unfold chg
  split <;> exact fun z => nomatch z
theorem set_get {ρ : En} {i j : Nat} {s t : Sl} (h : (ρ.set i s)[j]? = some t) : (j = i ∧ t = s) ∨ (j ≠ i ∧ ρ[j]? = some t) := by
  by_cases e : j = i
  · subst e
    by_cases hl : j < ρ.length
    · rw [List.getElem?_set_self hl] at h
      exact .inl ⟨rfl, (Option.some.inj h).symm⟩
    · rw [List.getElem?_eq_none (by rw [List.length_set]; omega)] at h
      cases h
  · rw [List.getElem?_set_ne (Ne.symm e)] at h
    exact .inr ⟨e, h⟩
theorem set_kd {ρ : En} {i : Nat} {s t : Sl} (e : ρ[i]? = some t) (k : s.kd = t.kd) : SameK ρ (ρ.set i s) := fun j => by
  by_cases q : j = i
  · subst q
    rw [List.getElem?_set_self (List.getElem?_eq_some_iff.mp e).1, e]
    exact congrArg some k
  · rw [List.getElem?_set_ne (Ne.symm q)]
theorem chg_kd {i : Nat} {ds : List D} {u : Unit} (h : chg i ds ρ = .ok u ρ') : SameK ρ ρ' := by
  rcases chg_ok h with ⟨⟨l, e⟩, rfl⟩ | ⟨⟨l, e⟩, rfl⟩
  · exact set_kd e rfl
  · exact set_kd e rfl
theorem ioBack_ok : ∀ {as : List Ar} {ios : List (List D)} {ρ ρ' : En} {u : Unit}, ioBack as ios ρ = .ok u ρ' → SameK ρ ρ' ∧ ∀ (j : Nat) (s' : Sl), ρ'[j]? = some s' →
    (j ∉ oSlots as ∧ ρ[j]? = some s') ∨ ∃ (k : Nat) (ds' : List D), (oSlots as)[k]? = some j ∧ ios[k]? = some ds' ∧ (s' = .own ds' ∨ s' = .io ds')
  | [], [], ρ, ρ', u, h => by cases h; exact ⟨fun j => rfl, fun j s' e => .inl ⟨by simp [oSlots], e⟩⟩
  | [], _ :: _, _, _, _, h => by cases h
  | .d x :: r, l, ρ, ρ', u, h => by
    have h' : ioBack r l ρ = .ok u ρ' := by cases l <;> exact h
    exact ioBack_ok (as := r) h'
  | .b i x :: r, l, ρ, ρ', u, h => by
    have h' : ioBack r l ρ = .ok u ρ' := by cases l <;> exact h
    exact ioBack_ok (as := r) h'
  | .s x :: r, l, ρ, ρ', u, h => by
    have h' : ioBack r l ρ = .ok u ρ' := by cases l <;> exact h
    exact ioBack_ok (as := r) h'
  | .o i x :: r, [], _, _, _, h => by cases h
  | .o i x :: r, ds :: l, ρ, ρ', u, h => by
    obtain ⟨u1, ρ1, e1, e2⟩ := ok_of_bind (show (chg i ds ρ).bind (fun _ ρ => ioBack r l ρ) = .ok u ρ' from h)
    have e2 : ioBack r l ρ1 = .ok u ρ' := e2
    obtain ⟨k1, k2⟩ := ioBack_ok e2
    refine ⟨(chg_kd e1).trans k1, fun j s' hj => ?_⟩
    rcases k2 j s' hj with ⟨n, q⟩ | ⟨k, ds', q1, q2, q3⟩
    · rcases chg_ok e1 with ⟨⟨l0, e⟩, rfl⟩ | ⟨⟨l0, e⟩, rfl⟩
      · rcases set_get q with ⟨rfl, rfl⟩ | ⟨ne, q⟩
        · exact .inr ⟨0, ds, rfl, rfl, .inl rfl⟩
        · exact .inl ⟨fun z => (List.mem_cons.mp z).elim ne n, q⟩
      · rcases set_get q with ⟨rfl, rfl⟩ | ⟨ne, q⟩
        · exact .inr ⟨0, ds, rfl, rfl, .inr rfl⟩
        · exact .inl ⟨fun z => (List.mem_cons.mp z).elim ne n, q⟩
    · exact .inr ⟨k + 1, ds', q1, q2, q3⟩
theorem ioBack_exc : ∀ {as : List Ar} {ios : List (List D)} {ρ ρ' : En} {c : Str} {x : D}, ioBack as ios ρ ≠ .exc c x ρ'
  | [], [], _, _, _, _ => fun z => nomatch z
  | [], _ :: _, _, _, _, _ => fun z => nomatch z
  | .d x :: r, l, ρ, ρ', c, y => fun z => by
    have h' : ioBack r l ρ = .exc c y ρ' := by cases l <;> exact z
    exact ioBack_exc (as := r) h'
  | .b i x :: r, l, ρ, ρ', c, y => fun z => by
    have h' : ioBack r l ρ = .exc c y ρ' := by cases l <;> exact z
    exact ioBack_exc (as := r) h'
  | .s x :: r, l, ρ, ρ', c, y => fun z => by
    have h' : ioBack r l ρ = .exc c y ρ' := by cases l <;> exact z
    exact ioBack_exc (as := r) h'
  | .o i x :: r, [], _, _, _, _ => fun z => nomatch z
  | .o i x :: r, ds :: l, ρ, ρ', c, y => fun z => by
    have h : (chg i ds ρ).bind (fun _ ρ => ioBack r l ρ) = .exc c y ρ' := z
    cases q : chg i ds ρ with
    | ok u ρ1 =>
      rw [q] at h
      have h : ioBack r l ρ1 = .exc c y ρ' := h
      exact ioBack_exc h
    | exc _ _ _ => exact chg_exc q
    | bad => rw [q] at h; cases h
/-- nothing of the frame's has moved but what may -/
theorem Rel.moved (R : Rel C σ H ρ) (k : SameK ρ ρ') (lim : Lim H') (ev : Evo (Pw C σ ρ) H (Pw C σ ρ) H') (frm : ∀ b o, C.H0 b = some o → (∀ p ∈ C.I, p.2 ≠ b) → H b = some o → H' b = some o) (bl : ∀ p ∈ C.B, H' p.1 = H p.1)
    (sl : ∀ (j : Nat) (s' : Sl), ρ'[j]? = some s' → (ρ[j]? = some s' ∧ ∀ a, s'.isOwn = true → σ[j]? = some (some (.ref a)) → H' a = H a) ∨ ∃ a xs ds, σ[j]? = some (some (.ref a)) ∧ H' a = some (.lst xs) ∧ DatL H' (Pw C σ ρ) xs ds ∧ (s' = .own ds ∨ s' = .io ds)) : Rel C σ H' ρ' := by
  have eP : Pw C σ ρ' = Pw C σ ρ := k.pw
  refine ⟨R.ok, by rw [k.len]; exact R.len, fun j s' e => ?_, fun i j s t a e1 e2 o1 o2 => ?_, fun b o e n => frm b o e n (R.frm b o e n), by rw [eP]; exact R.evo.trans ev, fun p hp => ?_, fun i s e o => ?_, lim, fun p hp => ?_, fun p hp => (bl p hp).trans (R.bld p hp), fun p hp o => R.bown p hp (k.symm.own o)⟩
  · rw [eP]
    rcases sl j s' e with ⟨q, same⟩ | ⟨a, xs, ds, q1, q2, q3, q4⟩
    · have z := R.slot j s' q
      cases s' with
      | un => exact z
      | dat d => obtain ⟨v, e1, e2⟩ := z; exact ⟨v, e1, e2.evo ev⟩
      | own ds => obtain ⟨a, xs, e1, e2, e3, e4⟩ := z; exact ⟨a, xs, e1, by rw [same a rfl e1]; exact e2, e3.evo ev, e4⟩
      | lk ds => obtain ⟨a, xs, e1, e2, e3, e4⟩ := z; exact ⟨a, xs, e1, by rw [same a rfl e1]; exact e2, e3.evo ev, e4⟩
      | io ds => obtain ⟨a, xs, e1, e2, e3, e4⟩ := z; exact ⟨a, xs, e1, by rw [same a rfl e1]; exact e2, e3.evo ev, e4⟩
      | lki ds => obtain ⟨a, xs, e1, e2, e3, e4⟩ := z; exact ⟨a, xs, e1, by rw [same a rfl e1]; exact e2, e3.evo ev, e4⟩
      | bor d => exact z
      | scr d => exact z
    · obtain ⟨s, e5, k5⟩ := k.symm.get e
      have z := R.slot j s e5
      rcases q4 with rfl | rfl
      · cases s with
        | own l => obtain ⟨b, ys, e1, e2, e3, e4⟩ := z; rw [q1] at e1; cases e1; exact ⟨_, xs, q1, q2, q3, e4⟩
        | _ => cases k5
      · cases s with
        | io l => obtain ⟨b, ys, e1, e2, e3, e4⟩ := z; rw [q1] at e1; cases e1; exact ⟨_, xs, q1, q2, q3, e4⟩
        | _ => cases k5
  · obtain ⟨s', e3, k3⟩ := k.symm.get e1
    obtain ⟨t', e4, k4⟩ := k.symm.get e2
    exact R.inj i j s' t' a e3 e4 (by rw [kd_own k3]; exact o1) (by rw [kd_own k4]; exact o2)
  · obtain ⟨h1, s, h2, h3⟩ := R.io p hp
    obtain ⟨t, e, k5⟩ := k.get h2
    exact ⟨h1, t, e, by rw [kd_io k5]; exact h3⟩
  · obtain ⟨t, e2, k5⟩ := k.symm.get e
    exact R.ioI i t e2 (by rw [kd_io k5]; exact o)
  · obtain ⟨h1, h2⟩ := R.lk p hp
    have hl := R.ok.lk p hp
    obtain ⟨t, e2, k5⟩ := k.get h1
    refine ⟨?_, h2⟩
    rcases sl _ t e2 with ⟨q, _⟩ | ⟨a, xs, ds, _, _, _, q4⟩
    · rw [e2, ← q, h1]
    · rcases q4 with rfl | rfl
      · cases h : p.2.1 with
        | lk ds => rw [h] at k5; cases k5
        | lki ds => rw [h] at k5; cases k5
        | _ => rw [h] at hl; cases hl
      · cases h : p.2.1 with
        | lk ds => rw [h] at k5; cases k5
        | lki ds => rw [h] at k5; cases k5
        | _ => rw [h] at hl; cases hl
/-- where an own list of the frame lies in the heap at its entry -/
theorem Rel.ownH0 (R : Rel C σ H ρ) {i : Nat} {s : Sl} {a : Addr} (e : ρ[i]? = some s) (o : s.isOwn = true) (q : σ[i]? = some (some (.ref a))) : C.H0 a = none ∨ ∃ p ∈ C.I, p.2 = a := by
  have z := R.slot i s e
  cases s with
  | own ds => obtain ⟨b, xs, e1, _, _, e4⟩ := z; rw [q] at e1; cases e1; exact .inl e4
  | lk ds => obtain ⟨b, xs, e1, _, _, e4⟩ := z; rw [q] at e1; cases e1; exact .inl e4
  | io ds =>
    obtain ⟨b, hb⟩ := R.ioI i _ e rfl
    obtain ⟨z1, _⟩ := R.io _ hb
    rw [q] at z1
    cases z1
    exact .inr ⟨_, hb, rfl⟩
  | lki ds =>
    obtain ⟨b, hb⟩ := R.ioI i _ e rfl
    obtain ⟨z1, _⟩ := R.io _ hb
    rw [q] at z1
    cases z1
    exact .inr ⟨_, hb, rfl⟩
  | _ => cases o
theorem Rel.call (R : Rel C σ H ρ) {vs : List V} {hs : List Hd} {as : List Ar} {ios : List (List D)} {u : Unit} (h : HdLR σ H (Pw C σ ρ) vs hs) (f : FillL ρ hs as) (k : FKeep H H' (oAd vs as)) (io : IoR H' (Pw C σ ρ) (oAd vs as) ios)
    (b : ioBack as ios ρ = .ok u ρ') : Rel C σ H' ρ' ∧ Evo (Pw C σ ρ) H (Pw C σ ρ') H' := by
  obtain ⟨b1, b2⟩ := ioBack_ok b
  obtain ⟨l1, l2⟩ := oAd_slots R h f
  have back : ∀ a, a ∈ oAd vs as → ∃ j s, j ∈ oSlots as ∧ σ[j]? = some (some (.ref a)) ∧ ρ[j]? = some s ∧ s.isOwn = true := fun a ha => by
    obtain ⟨n, hn⟩ := List.getElem?_of_mem ha
    have hlt : n < (oSlots as).length := by rw [← l1]; exact (List.getElem?_eq_some_iff.mp hn).1
    obtain ⟨a', s, q1, q2, q3, q4⟩ := l2 n _ (List.getElem?_eq_getElem hlt)
    rw [hn] at q1
    cases q1
    exact ⟨_, s, List.getElem_mem hlt, q2, q3, q4⟩
  have inP : ∀ a, a ∈ oAd vs as → Pw C σ ρ a := fun a ha => by
    obtain ⟨j, s, _, q2, q3, q4⟩ := back a ha
    exact .inr ⟨j, s, q3, q4, q2⟩
  have ev : Evo (Pw C σ ρ) H (Pw C σ ρ) H' := ⟨fun c o n e => k.keep c o e fun z => n (inP c z), fun c z => .inl z, k.dom⟩
  refine ⟨R.moved b1 k.lim ev (fun c o e n e2 => k.keep c o e2 fun z => ?_) (fun p hp => ?_) fun j s' e => ?_, by rw [b1.pw]; exact ev⟩
  · obtain ⟨j, s, _, q2, q3, q4⟩ := back c z
    rcases R.ownH0 q3 q4 q2 with w | ⟨p, hp, w⟩
    · rw [e] at w; cases w
    · exact n p hp w
  · rw [R.bld p hp]
    exact k.keep _ _ (R.bld p hp) fun z => by
      obtain ⟨j, s, _, q2, q3, q4⟩ := back _ z
      exact R.bown p hp ⟨j, s, q3, q4, q2⟩
  · rcases b2 j s' e with ⟨n, q⟩ | ⟨m, ds', q1, q2, q3⟩
    · refine .inl ⟨q, fun a o e2 => ?_⟩
      cases eH : H a with
      | none => exact absurd eH (R.dom (.inr ⟨j, s', q, o, e2⟩))
      | some ob =>
        refine k.keep a ob eH fun z => ?_
        obtain ⟨i, s, w1, w2, w3, w4⟩ := back a z
        have := R.inj j i s' s a q w3 o w4 e2 w2
        subst this
        exact n w1
    · obtain ⟨a, s, w1, w2, _, _⟩ := l2 m j q1
      obtain ⟨xs, w3, w4⟩ := io.2 m a ds' w1 q2
      exact .inr ⟨a, xs, ds', w2, w3, w4, q3⟩
/-- the facts of a def that is called -/
structure FnAt (X : Cx) (n : Nat) (fr : List Ar → FRes) (fn : Fn) : Prop where
  at_ : ∃ (f : Addr) (fd : FuncData) (ps : List Str), X.mg fn.name = some (.ref f) ∧ PySem.W.keepIn X.K (.ref f) = true ∧ Binds X.K fd ps [] ∧
    FnOk X.prog X.w X.K X.mg X.base (L2.CX X.prog X.w) n f fd ps (spF X.K X.mg fn.mos.length fr fn.own)
  nb : ∀ as, fr as ≠ .bad → as.length = fn.mos.length
theorem ArL.length {K : PySem.W.Frag} {P : Ow} : ∀ {vs : List V} {as : List Ar}, ArL K H P vs as → vs.length = as.length
  | _, _, .nil => rfl
  | _, _, .cons _ t => congrArg Nat.succ (ArL.length t)
theorem ResR.dat (R : Rel C σ H ρ) {own : Bool} {H' : Hp} {v : V} {d : D} (rs : ResR own H H' (Pw C σ ρ) v d) : Dat H' (Pw C σ ρ) v d := by
  cases own with
  | false => exact rs
  | true =>
    obtain ⟨a, xs, ds, rfl, rfl, r1, r2, r3⟩ := rs
    exact .lst r2 (R.free r1) (r3.evo (.less fun b z => .inl z))
mutual
theorem Dat.off {P : Ow} {H : Hp} {a : Addr} : ∀ {v : V} {d : D}, Dat H (fun b => P b ∨ b = a) v d → Dat (Sm.del H a) P v d
  | _, _, .non => .non
  | _, _, .bl b => .bl b
  | _, _, .int i => .int i
  | _, _, .str s => .str s
  | _, _, .tup h n l => .tup (by rw [del_ne fun z => n (.inr z)]; exact h) (fun z => n (.inl z)) (DatL.off l)
  | _, _, .lst h n l => .lst (by rw [del_ne fun z => n (.inr z)]; exact h) (fun z => n (.inl z)) (DatL.off l)
theorem DatL.off {P : Ow} {H : Hp} {a : Addr} : ∀ {vs : List V} {ds : List D}, DatL H (fun b => P b ∨ b = a) vs ds → DatL (Sm.del H a) P vs ds
  | _, _, .nil => .nil
  | _, _, .cons x t => .cons (Dat.off x) (DatL.off t)
end
/-- what the caller does with what comes back -/
theorem call_post (R : Rel C σ H ρ) (hK : C.K = X.K) (hG : C.mg = X.mg) {Q : VK} {R0 : Hp → En → V → D → Prop} {vs : List V} {hs : List Hd} {as : List Ar} {F : Nat → List Ar → FRes} {f : Nat} {fn : Fn} (hnb : ∀ as, F f as ≠ .bad → as.length = fn.mos.length) (h : HdLR σ H (Pw C σ ρ) vs hs) (g : FillL ρ hs as)
    (h0 : ∀ H' ρ' v d, Dat H' (Pw C σ ρ') v d → (fn.own = true → DatF C σ H H' ρ' v d) → R0 H' ρ' v d)
    (p : Post C W σ H ρ R0 Q (callM F f as ρ)) : spF X.K X.mg fn.mos.length (F f) fn.own vs H Q (fun cl d H' => W cl d σ H') := by
  unfold callM at p
  have hA := fill_rel R h g
  by_cases e : apart as = true
  · rw [if_pos e] at p
    have hD : ∀ a, Pw C σ ρ a → H a ≠ none := fun a => R.dom
    have hn : F f as ≠ .bad := fun z => by rw [z] at p; exact p
    refine ⟨Pw C σ ρ, as, hA.length.trans (hnb as hn), ?_, hD, R.lim, apart_of R h g e, ?_⟩
    · rw [← hK]; exact hA
    · cases q : F f as with
      | bad => exact absurd q hn
      | ok d ios =>
        rw [q] at p
        have p : Post C W σ H ρ R0 Q ((ioBack as ios ρ).bind fun _ ρ => .ok d ρ) := p
        obtain ⟨u, ρ', e2, p⟩ := p.pure fun _ _ _ => ioBack_exc
        intro v H' fk io rs
        have io1 : IoR H' (Pw C σ ρ) (oAd vs as) ios := ⟨io.1, fun k a ds e3 e4 => by
          obtain ⟨xs, w1, w2⟩ := io.2 k a ds e3 e4
          exact ⟨xs, w1, w2.evo (.less fun b z => .inl z)⟩⟩
        obtain ⟨R', ev⟩ := R.call h g fk io1 e2
        have eP : Pw C σ ρ' = Pw C σ ρ := (ioBack_ok e2).1.pw
        refine p v H' R' ev (h0 H' ρ' v d (by rw [eP]; exact rs.dat R) fun ho => ?_)
        refine ⟨by rw [eP]; exact rs.dat R, fun es e => ?_⟩
        rw [ho] at rs io
        obtain ⟨a, xs, ds, rfl, rfl, r1, r2, r3⟩ := rs
        cases e
        refine ⟨a, xs, rfl, r2, ?_, by rw [eP]; exact r3.off, r1⟩
        have oneq : ∀ b, b ∈ oAd vs as → b ≠ a := fun b hb z => by
          subst z
          obtain ⟨l1, l2⟩ := oAd_slots R h g
          obtain ⟨n, hn⟩ := List.getElem?_of_mem hb
          have hlt : n < (oSlots as).length := by rw [← l1]; exact (List.getElem?_eq_some_iff.mp hn).1
          obtain ⟨a', s, q1, q2, q3, q4⟩ := l2 n _ (List.getElem?_eq_getElem hlt)
          rw [hn] at q1
          cases q1
          exact R.dom (.inr ⟨_, s, q3, q4, q2⟩) r1
        have fk2 : FKeep H (Sm.del H' a) (oAd vs as) := ⟨fun b o e n => by rw [del_ne (ne_of_none e r1)]; exact fk.keep b o e n, fun b n => by
          have hb : b ≠ a := fun z => n (by rw [z]; exact r1)
          rw [del_ne hb]; exact fk.dom b n, fun b ys e => fk.lim b ys (e.imp del_some del_some)⟩
        refine (R.call h g fk2 ⟨io.1, fun k b ds' e3 e4 => ?_⟩ e2).1
        obtain ⟨ys, w1, w2⟩ := io.2 k b ds' e3 e4
        refine ⟨ys, by rw [del_ne (oneq b (List.mem_of_getElem? e3))]; exact w1, ?_⟩
        have e5 : (fun b => Pw C σ ρ b ∨ (true = true ∧ V.ref a = V.ref b)) = fun b => Pw C σ ρ b ∨ b = a := by
          funext b
          exact propext ⟨fun z => z.imp id fun z => (V.ref.inj z.2).symm, fun z => z.imp id fun z => ⟨rfl, by rw [z]⟩⟩
        rw [e5] at w2
        exact w2.off
      | exc c x =>
        rw [q] at p
        have p : Post C W σ H ρ R0 Q (if (oSlots as).isEmpty = true then .exc c x ρ else .bad) := p
        by_cases ho : (oSlots as).isEmpty = true
        · rw [if_pos ho] at p
          intro cl dx H' fk ex
          have z : oAd vs as = [] := by
            have l1 := (oAd_slots R h g).1
            rw [List.isEmpty_iff.mp ho] at l1
            exact List.length_eq_zero_iff.mp l1
          have io : IoR H' (Pw C σ ρ) (oAd vs as) [] := ⟨(congrArg List.length z).symm, fun k a ds e1 e2 => by simp at e2⟩
          have ev : Evo (Pw C σ ρ) H (Pw C σ ρ) H' := ⟨fun b o n e => fk.keep b o e (by simp), fun b w => .inl w, fk.dom⟩
          have R' : Rel C σ H' ρ := R.moved (fun j => rfl) fk.lim ev (fun b o _ _ e => fk.keep b o e (by simp)) (fun p hp => by rw [R.bld p hp]; exact fk.keep _ _ (R.bld p hp) (by simp)) fun j s' e => .inl ⟨e, fun a o e2 => by
            cases eH : H a with
            | none => exact absurd eH (R.dom (.inr ⟨j, s', e, o, e2⟩))
            | some ob => exact fk.keep a ob eH (by simp)⟩
          refine p cl dx H' R' ev ?_
          unfold ExcAt
          rw [hG]
          exact ex
        · rw [if_neg ho] at p
          exact p.elim
  · rw [if_neg e] at p
    exact p.elim
theorem se_call {x : Str} {e : Expr} {es : List Expr} {p pos : Pos} {m : En → Res (List Hd)} {n : Nat} {F : Nat → List Ar → FRes} {f : Nat} {fn : Fn} (hK : C.K = X.K) (hG : C.mg = X.mg) (hf : FnAt X n (F f) fn) (hx : fn.name = x) (hr : Room n X.A) (tk : Takes X W) (hg : Gl X x) (hd : (x == ("__debug__" : Str)) = false)
    (h : SAs X C W (e :: es) m) (he : starEach (e :: es) X.env = (false, eval e X.env) :: starEach es X.env) (hpl : (backTo pos (starEach es X.env)).any (·.1) = false) :
    SE X C W (.Call (.Name x p) (e :: es) [] pos) (fun ρ => (m ρ).bind fun hs ρ => (fillA hs ρ).bind fun as ρ => callM F f as ρ) := by
  obtain ⟨t, h1, h2⟩ := h
  obtain ⟨fa, fd, ps, mgf, kp, hb, ok⟩ := hf.at_
  subst hx
  refine ⟨_, pe_callSD (E := fun σ cl d H' => W cl d σ H') ok hr hg mgf kp hb .nil (fun σ => passAt tk σ) h1 hd he hpl, fun σ H ρ Q R h => h2 σ H ρ _ R (h.bind fun hs ρ1 vs H1 R1 e1 d1 h => ?_)⟩
  obtain ⟨as, ρ2, e2, h⟩ := h.pure fun _ _ _ => fillA_exc
  obtain ⟨e3, g⟩ := fillA_ok e2
  subst e3
  rw [List.append_nil]
  exact call_post R1 hK hG hf.nb d1 g (fun H' ρ' v d x y => x) h
theorem sf_call {x : Str} {e : Expr} {es : List Expr} {p pos : Pos} {m : En → Res (List Hd)} {n : Nat} {F : Nat → List Ar → FRes} {f : Nat} {fn : Fn} (hK : C.K = X.K) (hG : C.mg = X.mg) (hf : FnAt X n (F f) fn) (hx : fn.name = x) (hown : fn.own = true) (hr : Room n X.A) (tk : Takes X W) (hg : Gl X x) (hd : (x == ("__debug__" : Str)) = false)
    (h : SAs X C W (e :: es) m) (he : starEach (e :: es) X.env = (false, eval e X.env) :: starEach es X.env) (hpl : (backTo pos (starEach es X.env)).any (·.1) = false) :
    SF X C W (.Call (.Name x p) (e :: es) [] pos) (fun ρ => (m ρ).bind fun hs ρ => (fillA hs ρ).bind fun as ρ => callM F f as ρ) := by
  obtain ⟨t, h1, h2⟩ := h
  obtain ⟨fa, fd, ps, mgf, kp, hb, ok⟩ := hf.at_
  subst hx
  refine ⟨_, pe_callSD (E := fun σ cl d H' => W cl d σ H') ok hr hg mgf kp hb .nil (fun σ => passAt tk σ) h1 hd he hpl, fun σ H ρ Q R h => h2 σ H ρ _ R (h.bind fun hs ρ1 vs H1 R1 e1 d1 h => ?_)⟩
  obtain ⟨as, ρ2, e2, h⟩ := h.pure fun _ _ _ => fillA_exc
  obtain ⟨e3, g⟩ := fillA_ok e2
  subst e3
  rw [List.append_nil]
  exact call_post R1 hK hG hf.nb d1 g (fun H' ρ' v d x y => (y hown).start e1.none) h
end
end Sm
end

section
set_option Elab.async false
set_option linter.all false
set_option autoImplicit false
set_option maxRecDepth 100000
/-! Sm9: slots stored, targets, what is walked. -/
namespace Sm
open PySem PySem.Spec PyProof.Rows L2
section
variable {X : Cx} {C : Fc} {W : WX} {σ : L2.St} {H H' : Hp} {ρ ρ' : En}
theorem setV_get {α : Type} {σ : List α} {i j : Nat} {v w : α} (h : (σ.set i v)[j]? = some w) : (j = i ∧ w = v) ∨ (j ≠ i ∧ σ[j]? = some w) := by
  by_cases e : j = i
  · subst e
    by_cases hl : j < σ.length
    · rw [List.getElem?_set_self hl] at h
      exact .inl ⟨rfl, (Option.some.inj h).symm⟩
    · rw [List.getElem?_eq_none (by rw [List.length_set]; omega)] at h
      cases h
  · rw [List.getElem?_set_ne (Ne.symm e)] at h
    exact .inr ⟨e, h⟩
theorem setV_ne {α : Type} {σ : List α} {i j : Nat} {v : α} (h : j ≠ i) : (σ.set i v)[j]? = σ[j]? := List.getElem?_set_ne (Ne.symm h)
/-- a slot is stored; the heap may have grown by what is stored -/
theorem Rel.store {G : Hp} (R : Rel C σ G ρ) {i : Nat} {s t : Sl} {v : V} (e : ρ[i]? = some t) (t1 : t.isIo = false) (t2 : t.isLk = false) (s1 : s.isIo = false) (lim : Lim H)
    (ev : Evo (Pw C σ ρ) G (Pw C (σ.set i (some v)) (ρ.set i s)) H) (frm : ∀ b o, G b = some o → ¬ (s.isOwn = true ∧ v = .ref b) → H b = some o) (fr : ∀ b, s.isOwn = true → v = .ref b → C.H0 b = none)
    (new : SlOk C H (Pw C (σ.set i (some v)) (ρ.set i s)) (some (some v)) s) (inj : ∀ (j : Nat) (s' : Sl) (a : Addr), j ≠ i → ρ[j]? = some s' → s'.isOwn = true → σ[j]? = some (some (.ref a)) → s.isOwn = true → v ≠ .ref a)
    (bl : ∀ p ∈ C.B, s.isOwn = true → v ≠ .ref p.1) :
    Rel C (σ.set i (some v)) H (ρ.set i s) := by
  have hi : i < ρ.length := (List.getElem?_eq_some_iff.mp e).1
  have hsi : (σ.set i (some v))[i]? = some (some v) := List.getElem?_set_self (by rw [R.len]; exact hi)
  have fresh : ∀ b o, C.H0 b = some o → ¬ (s.isOwn = true ∧ v = .ref b) := fun b o h z => by rw [fr b z.1 z.2] at h; cases h
  refine ⟨R.ok, by rw [List.length_set, List.length_set]; exact R.len, fun j s' h => ?_, fun j k s' t' a h1 h2 o1 o2 g1 g2 => ?_, fun b o h n => frm b o (R.frm b o h n) (fresh b o h), R.evo.trans ev, fun p hp => ?_, fun j s' h o => ?_, lim, fun p hp => ?_, fun p hp => frm _ _ (R.bld p hp) fun z => bl p hp z.1 z.2, fun p hp o => ?_⟩
  · rcases set_get h with ⟨rfl, rfl⟩ | ⟨ne, h⟩
    · rw [hsi]; exact new
    · rw [setV_ne ne]
      have z := R.slot j s' h
      have keep : ∀ a, s'.isOwn = true → σ[j]? = some (some (.ref a)) → ∀ o, G a = some o → H a = some o := fun a o q u hu => frm a u hu fun z => inj j s' a ne h o q z.1 z.2
      cases s' with
      | un => exact z
      | dat d => obtain ⟨w, e1, e2⟩ := z; exact ⟨w, e1, e2.evo ev⟩
      | own ds => obtain ⟨a, xs, e1, e2, e3, e4⟩ := z; exact ⟨a, xs, e1, keep a rfl e1 _ e2, e3.evo ev, e4⟩
      | lk ds => obtain ⟨a, xs, e1, e2, e3, e4⟩ := z; exact ⟨a, xs, e1, keep a rfl e1 _ e2, e3.evo ev, e4⟩
      | io ds => obtain ⟨a, xs, e1, e2, e3, e4⟩ := z; exact ⟨a, xs, e1, keep a rfl e1 _ e2, e3.evo ev, e4⟩
      | lki ds => obtain ⟨a, xs, e1, e2, e3, e4⟩ := z; exact ⟨a, xs, e1, keep a rfl e1 _ e2, e3.evo ev, e4⟩
      | bor d => exact z
      | scr d => exact z
  · rcases set_get h1 with ⟨rfl, rfl⟩ | ⟨n1, k1⟩
    · rcases set_get h2 with ⟨rfl, rfl⟩ | ⟨n2, h2⟩
      · rfl
      · rw [hsi] at g1
        rw [setV_ne n2] at g2
        exact absurd (Option.some.inj (Option.some.inj g1)) (inj k t' a n2 h2 o2 g2 o1)
    · rcases set_get h2 with ⟨e2, e3⟩ | ⟨n2, k2⟩
      · rw [e2, hsi] at g2
        rw [setV_ne n1] at g1
        rw [e3] at o2
        exact absurd (Option.some.inj (Option.some.inj g2)) (inj j s' a n1 k1 o1 g1 o2)
      · rw [setV_ne n1] at g1
        rw [setV_ne n2] at g2
        exact R.inj j k s' t' a k1 k2 o1 o2 g1 g2
  · obtain ⟨h1, s', h2, h3⟩ := R.io p hp
    have ne : p.1 ≠ i := fun z => by rw [z, e] at h2; cases h2; rw [t1] at h3; cases h3
    exact ⟨by rw [setV_ne ne]; exact h1, s', by rw [setV_ne ne]; exact h2, h3⟩
  · rcases set_get h with ⟨rfl, rfl⟩ | ⟨ne, h⟩
    · rw [s1] at o; cases o
    · exact R.ioI j s' h o
  · obtain ⟨h1, h2⟩ := R.lk p hp
    have ne : p.1 ≠ i := fun z => by
      rw [z, e] at h1
      have q := R.ok.lk p hp
      rw [← Option.some.inj h1, t2] at q
      cases q
    exact ⟨by rw [setV_ne ne]; exact h1, by rw [setV_ne ne]; exact h2⟩
  · obtain ⟨j, s', h1, h2, h3⟩ := o
    rcases set_get h1 with ⟨rfl, rfl⟩ | ⟨ne, h1⟩
    · rw [hsi] at h3
      exact bl p hp h2 (Option.some.inj (Option.some.inj h3))
    · rw [setV_ne ne] at h3
      exact R.bown p hp ⟨j, s', h1, h2, h3⟩
theorem put_ok {i : Nat} {s : Sl} {u : Unit} (h : put i s ρ = .ok u ρ') : ρ' = ρ.set i s ∧ ∃ t, ρ[i]? = some t ∧ t.isIo = false ∧ t.isLk = false := by
  unfold put at h
  split at h <;> first | (rename_i e; cases h; exact ⟨rfl, _, e, rfl, rfl⟩) | cases h
theorem put_exc {i : Nat} {s : Sl} {c : Str} {x : D} : put i s ρ ≠ .exc c x ρ' := by
  unfold put
  split <;> exact fun z => nomatch z
theorem ownAt_set {i : Nat} {s : Sl} {v : V} {a : Addr} (h : OwnAt (σ.set i (some v)) (ρ.set i s) a) : OwnAt σ ρ a ∨ (s.isOwn = true ∧ v = .ref a) := by
  obtain ⟨j, s', h1, h2, h3⟩ := h
  rcases set_get h1 with ⟨rfl, rfl⟩ | ⟨ne, h1⟩
  · rcases setV_get h3 with ⟨_, q⟩ | ⟨n, _⟩
    · exact .inr ⟨h2, (Option.some.inj q).symm⟩
    · exact absurd rfl n
  · rw [setV_ne ne] at h3
    exact .inl ⟨j, s', h1, h2, h3⟩
/-- a datum is stored -/
theorem Rel.putD (R : Rel C σ H ρ) {i : Nat} {d : D} {v : V} {u : Unit} (h : put i (.dat d) ρ = .ok u ρ') (hd : Dat H (Pw C σ ρ) v d) : Rel C (σ.set i (some v)) H ρ' ∧ Evo (Pw C σ ρ) H (Pw C (σ.set i (some v)) ρ') H := by
  obtain ⟨rfl, t, e, t1, t2⟩ := put_ok h
  have ev : Evo (Pw C σ ρ) H (Pw C (σ.set i (some v)) (ρ.set i (.dat d))) H := .less fun b z => z.imp id fun z => (ownAt_set z).elim id fun z => by have q := z.1; cases q
  exact ⟨R.store e t1 t2 rfl R.lim ev (fun b o h _ => h) (fun b z => nomatch z) ⟨v, rfl, hd.evo ev⟩ (fun j s' a _ _ _ _ z => nomatch z) (fun p _ z => nomatch z), ev⟩
/-- a new list of its own is stored -/
theorem Rel.putOwn (R : Rel C σ H ρ) {i : Nat} {ds : List D} {v : V} {u : Unit} (h : put i (.own ds) ρ = .ok u ρ') {Hs : Hp} (hd : FrR C σ Hs H ρ v (.lst ds)) :
    ∃ a, v = .ref a ∧ Rel C (σ.set i (some v)) H ρ' ∧ Evo (Pw C σ ρ) (del H a) (Pw C (σ.set i (some v)) ρ') H ∧ Hs a = none := by
  obtain ⟨rfl, t, e, t1, t2⟩ := put_ok h
  obtain ⟨a, xs, rfl, h1, h2, h3, hs⟩ := hd ds rfl
  have ev : Evo (Pw C σ ρ) (del H a) (Pw C (σ.set i (some (.ref a))) (ρ.set i (.own ds))) H := by
    refine ⟨fun b o _ q => del_some q, fun b z => ?_, fun b q => ?_⟩
    · rcases z with z | z
      · exact .inl (.inl z)
      · rcases ownAt_set z with z | ⟨_, z⟩
        · exact .inl (.inr z)
        · cases z; exact .inr del_same
    · intro z
      apply q
      unfold del
      split
      · rfl
      · exact z
  refine ⟨a, rfl, ?_, ev, hs⟩
  refine h2.store e t1 t2 rfl R.lim ev (fun b o q n => del_some q) (fun b _ z => ?_) ⟨a, xs, rfl, h1, h3.evo ev, h2.h0 del_same⟩ (fun j s' b ne h4 o q _ z => ?_) (fun p hp _ z => ?_)
  · cases z; exact h2.h0 del_same
  · cases z
    exact h2.dom (.inr ⟨j, s', h4, o, q⟩) del_same
  · have q := h2.bld p hp
    rw [← V.ref.inj z, del_same] at q
    cases q
/-- a list of the frame's has changed -/
theorem Rel.chgL (R : Rel C σ H ρ) {i : Nat} {a : Addr} {xs : List V} {ds : List D} {u : Unit} (h : chg i ds ρ = .ok u ρ') (ha : σ[i]? = some (some (.ref a))) (hl : xs.length ≤ sizeLine) (hd : DatL H (Pw C σ ρ) xs ds) :
    Rel C σ (upd H a (.lst xs)) ρ' ∧ Evo (Pw C σ ρ) H (Pw C σ ρ') (upd H a (.lst xs)) := by
  have k := chg_kd h
  obtain ⟨t, e, ht⟩ : ∃ t, ρ[i]? = some t ∧ t.isOwn = true := by
    rcases chg_ok h with ⟨⟨l, e⟩, _⟩ | ⟨⟨l, e⟩, _⟩
    · exact ⟨_, e, rfl⟩
    · exact ⟨_, e, rfl⟩
  have hp : Pw C σ ρ a := .inr ⟨i, t, e, ht, ha⟩
  have ev : Evo (Pw C σ ρ) H (Pw C σ ρ) (upd H a (.lst xs)) := .chg hp
  refine ⟨R.moved k (R.lim.new fun ys z => by rcases z with z | z <;> cases z; exact hl) ev (fun b o h0 n q => ?_) (fun p hp => upd_ne fun z => R.bown p hp (by rw [z]; exact ⟨i, t, e, ht, ha⟩)) fun j s' q => ?_, by rw [k.pw]; exact ev⟩
  · have ne : b ≠ a := fun z => by
      subst z
      rcases R.ownH0 e ht ha with w | ⟨p, hp, w⟩
      · rw [w] at h0; cases h0
      · exact n p hp w
    rw [upd_ne ne]; exact q
  · by_cases ej : j = i
    · subst ej
      refine .inr ⟨a, xs, ds, ha, upd_same, hd.evo ev, ?_⟩
      rcases chg_ok h with ⟨_, rfl⟩ | ⟨_, rfl⟩
      · rcases set_get q with ⟨_, z⟩ | ⟨n, _⟩
        · exact .inl z
        · exact absurd rfl n
      · rcases set_get q with ⟨_, z⟩ | ⟨n, _⟩
        · exact .inr z
        · exact absurd rfl n
    · have q' : ρ[j]? = some s' := by
        rcases chg_ok h with ⟨_, rfl⟩ | ⟨_, rfl⟩ <;> (rw [setV_ne ej] at q; exact q)
      refine .inl ⟨q', fun b o g => ?_⟩
      have ne : b ≠ a := fun z => by
        subst z
        exact ej (R.inj j i s' t b q' e o ht g ha)
      rw [upd_ne ne]
/-- a list of its own is not to change any more -/
theorem Rel.freeze (R : Rel C σ H ρ) {i : Nat} {ds : List D} (e : ρ[i]? = some (.own ds)) : Rel C σ H (ρ.set i (.dat (.lst ds))) ∧ Evo (Pw C σ ρ) H (Pw C σ (ρ.set i (.dat (.lst ds)))) H := by
  obtain ⟨a, xs, e1, e2, e3, e4⟩ := R.slot i _ e
  have es : σ.set i (some (.ref a)) = σ := by
    apply List.ext_getElem?
    intro j
    by_cases q : j = i
    · subst q
      rw [e1, List.getElem?_set_self (List.getElem?_eq_some_iff.mp e1).1]
    · rw [setV_ne q]
  have own' : ∀ b, OwnAt σ (ρ.set i (.dat (.lst ds))) b → OwnAt σ ρ b ∧ b ≠ a := fun b ⟨j, s, h1, h2, h3⟩ => by
    rcases set_get h1 with ⟨rfl, rfl⟩ | ⟨ne, h1⟩
    · cases h2
    · exact ⟨⟨j, s, h1, h2, h3⟩, fun z => by subst z; exact ne (R.inj j i s _ b h1 e h2 rfl h3 e1)⟩
  have ev : Evo (Pw C σ ρ) H (Pw C (σ.set i (some (.ref a))) (ρ.set i (.dat (.lst ds)))) H := by
    rw [es]
    exact .less fun b z => z.imp id fun z => (own' b z).1
  have na : ¬ Pw C σ (ρ.set i (.dat (.lst ds))) a := fun z => by
    rcases z with z | z
    · rcases R.ok.ox a z with z | ⟨p, hp, z⟩
      · exact z e4
      · exact R.bown p hp (by rw [z]; exact ⟨i, _, e, rfl, e1⟩)
    · exact (own' a z).2 rfl
  have r := R.store (s := .dat (.lst ds)) (v := .ref a) e rfl rfl rfl R.lim ev (fun b o h _ => h) (fun b z => nomatch z) ⟨_, rfl, .lst e2 (by rw [es]; exact na) (e3.evo ev)⟩ (fun j s' a _ _ _ _ z => nomatch z) (fun p _ z => nomatch z)
  rw [es] at r ev
  exact ⟨r, ev⟩
end
end Sm
end

section
set_option Elab.async false
set_option linter.all false
set_option autoImplicit false
set_option maxRecDepth 100000
/-! Sm10: targets, locks, what is walked. -/
namespace Sm
open PySem PySem.Spec PyProof.Rows L2
def Tg.slots : Tg → List Nat
  | .nm i => [i]
  | .tp a r => a.slots ++ r.slots
  | .nl => []
def Tg.len : Tg → Nat
  | .tp _ r => r.len + 1
  | _ => 0
section
variable {X : Cx} {C : Fc} {W : WX} {σ : L2.St} {H H' : Hp} {ρ ρ' : En}
/-- the slots outside vs are as they were -/
def Out (vs : List Nat) (σ σ' : L2.St) : Prop := σ'.length = σ.length ∧ ∀ j, j ∉ vs → σ'[j]? = σ[j]?
theorem Out.trans {vs ws us : List Nat} {σ σ' σ'' : L2.St} (a : Out vs σ σ') (b : Out ws σ' σ'') (h1 : ∀ j, j ∈ vs → j ∈ us) (h2 : ∀ j, j ∈ ws → j ∈ us) : Out us σ σ'' :=
  ⟨b.1.trans a.1, fun j n => (b.2 j fun z => n (h2 j z)).trans (a.2 j fun z => n (h1 j z))⟩
theorem wipe_get {vs : List Nat} {σ : L2.St} {j : Nat} : (wipe σ vs)[j]? = if j ∈ vs then (σ[j]?).map (fun _ => none) else σ[j]? := by
  induction vs with
  | nil => simp [wipe]
  | cons v vs ih =>
    unfold wipe
    by_cases e : j = v
    · subst e
      rw [if_pos List.mem_cons_self]
      by_cases hl : j < σ.length
      · rw [List.getElem?_set_self (by rw [wipe_length]; exact hl), List.getElem?_eq_getElem hl]
        rfl
      · rw [List.getElem?_eq_none (by rw [List.length_set, wipe_length]; omega), List.getElem?_eq_none (by omega)]
        rfl
    · rw [setV_ne e, ih]
      by_cases m : j ∈ vs
      · rw [if_pos m, if_pos (List.mem_cons_of_mem _ m)]
      · rw [if_neg m, if_neg fun z => (List.mem_cons.mp z).elim e m]
theorem Out.wipe {vs us : List Nat} {σ σ' : L2.St} (h : Out vs σ σ') (hs : ∀ j, j ∈ vs → j ∈ us) : L2.wipe σ' us = L2.wipe σ us := by
  apply List.ext_getElem?
  intro j
  rw [wipe_get, wipe_get]
  by_cases m : j ∈ us
  · rw [if_pos m, if_pos m]
    by_cases hl : j < σ.length
    · rw [List.getElem?_eq_getElem hl, List.getElem?_eq_getElem (by rw [h.1]; exact hl)]
      rfl
    · have hl' : ¬ j < σ'.length := by rw [h.1]; exact hl
      rw [List.getElem?_eq_none (l := σ') (by omega), List.getElem?_eq_none (l := σ) (by omega)]
  · rw [if_neg m, if_neg m]
    exact h.2 j fun z => m (hs j z)
/-- a target's rule -/
def STt (X : Cx) (C : Fc) (e : Expr) (t : Tg) : Prop := ∃ g, PG X e g ∧ ∀ (σ : L2.St) (H : Hp) (ρ : En) (v : V) (d : D) (u : Unit) (ρ' : En) (Q : L2.St → Hp → Prop), Rel C σ H ρ → Dat H (Pw C σ ρ) v d → t.put d ρ = .ok u ρ' →
  (∀ σ', Rel C σ' H ρ' → Evo (Pw C σ ρ) H (Pw C σ' ρ') H → Out t.slots σ σ' → Q σ' H) → g v σ H Q
def STs (X : Cx) (C : Fc) (es : List Expr) (t : Tg) : Prop := ∃ g, PGs X es g ∧ ∀ (σ : L2.St) (H : Hp) (ρ : En) (vs : List V) (ds : List D) (u : Unit) (ρ' : En) (Q : L2.St → Hp → Prop), Rel C σ H ρ → DatL H (Pw C σ ρ) vs ds → t.put (.tup ds) ρ = .ok u ρ' →
  (∀ σ', Rel C σ' H ρ' → Evo (Pw C σ ρ) H (Pw C σ' ρ') H → Out t.slots σ σ' → Q σ' H) → g vs σ H Q
theorem Tput_exc : ∀ {t : Tg} {d : D} {ρ ρ' : En} {c : Str} {x : D}, t.put d ρ ≠ .exc c x ρ'
  | .nm i, d, ρ, ρ', c, x => put_exc
  | .nl, .tup [], _, _, _, _ => fun z => nomatch z
  | .nl, .tup (_ :: _), _, _, _, _ => fun z => nomatch z
  | .nl, .non, _, _, _, _ => fun z => nomatch z
  | .nl, .bl _, _, _, _, _ => fun z => nomatch z
  | .nl, .int _, _, _, _, _ => fun z => nomatch z
  | .nl, .str _, _, _, _, _ => fun z => nomatch z
  | .nl, .lst _, _, _, _, _ => fun z => nomatch z
  | .nl, .obj _ _, _, _, _, _ => fun z => nomatch z
  | .tp a r, .tup [], _, _, _, _ => fun z => nomatch z
  | .tp a r, .tup (d :: ds), ρ, ρ', c, x => fun z => by
    have z : (a.put d ρ).bind (fun _ ρ => r.put (.tup ds) ρ) = .exc c x ρ' := z
    cases q : a.put d ρ with
    | ok u ρ1 => rw [q] at z; exact Tput_exc (show r.put (.tup ds) ρ1 = .exc c x ρ' from z)
    | exc _ _ _ => exact Tput_exc q
    | bad => rw [q] at z; cases z
  | .tp _ _, .non, _, _, _, _ => fun z => nomatch z
  | .tp _ _, .bl _, _, _, _, _ => fun z => nomatch z
  | .tp _ _, .int _, _, _, _, _ => fun z => nomatch z
  | .tp _ _, .str _, _, _, _, _ => fun z => nomatch z
  | .tp _ _, .lst _, _, _, _, _ => fun z => nomatch z
  | .tp _ _, .obj _ _, _, _, _, _ => fun z => nomatch z
theorem stt_nm {i : Nat} {x : Str} {pos : Pos} (hN : X.N.Nodup) (hi : X.N[i]? = some x) (hx : Loc X.env.scope x) (hf : X.fn x = true ∨ X.env.scope.names.lookup x = some .local) : STt X C (.Name x pos) (.nm i) := by
  refine ⟨_, pg_name hN hi hx hf, fun σ H ρ v d u ρ' Q R hd h q => ?_⟩
  obtain ⟨r, ev⟩ := R.putD h hd
  refine q _ r ev ⟨by rw [List.length_set], fun j n => setV_ne fun z => n (by rw [z]; exact List.mem_cons_self)⟩
theorem sts_nl : STs X C [] .nl := by
  refine ⟨_, pgs_nil, fun σ H ρ vs ds u ρ' Q R hd h q => ?_⟩
  cases ds with
  | nil =>
    cases hd
    cases h
    exact ⟨rfl, q σ R (.refl _ _) ⟨rfl, fun _ _ => rfl⟩⟩
  | cons d ds => cases h
theorem sts_tp {e : Expr} {es : List Expr} {a r : Tg} (h1 : STt X C e a) (h2 : STs X C es r) (hs : (assignEach (e :: es) X.env).map (·.2) = assign e X.env :: (assignEach es X.env).map (·.2)) : STs X C (e :: es) (.tp a r) := by
  obtain ⟨g, g1, g2⟩ := h1
  obtain ⟨k, k1, k2⟩ := h2
  refine ⟨_, pgs_cons g1 k1 hs, fun σ H ρ vs ds u ρ' Q R hd h q => ?_⟩
  cases ds with
  | nil => cases h
  | cons d ds =>
    cases hd with
    | cons x t =>
      rename_i v vs
      obtain ⟨u1, ρ1, e1, e2⟩ := ok_of_bind (show (a.put d ρ).bind (fun _ ρ => r.put (.tup ds) ρ) = .ok u ρ' from h)
      have e2 : r.put (.tup ds) ρ1 = .ok u ρ' := e2
      exact ⟨v, vs, rfl, g2 σ H ρ v d u1 ρ1 _ R x e1 fun σ1 R1 ev1 o1 => k2 σ1 H ρ1 vs ds u ρ' Q R1 (t.evo ev1) e2 fun σ2 R2 ev2 o2 => q σ2 R2 (ev1.trans ev2) (o1.trans o2 (fun j z => List.mem_append_left _ z) fun j z => List.mem_append_right _ z)⟩
/-- a target that is a row of targets -/
def Tg.isRow : Tg → Bool
  | .nm _ => false
  | .tp _ r => r.isRow
  | .nl => true
theorem row_len : ∀ {t : Tg} {ds : List D} {ρ ρ' : En} {u : Unit}, t.isRow = true → t.put (.tup ds) ρ = .ok u ρ' → ds.length = t.len
  | .nm _, _, _, _, _, h, _ => by cases h
  | .nl, [], _, _, _, _, _ => rfl
  | .nl, _ :: _, _, _, _, _, h => by cases h
  | .tp a r, [], _, _, _, _, h => by cases h
  | .tp a r, d :: ds, ρ, ρ', u, hr, h => by
    obtain ⟨u1, ρ1, e1, e2⟩ := ok_of_bind (show (a.put d ρ).bind (fun _ ρ => r.put (.tup ds) ρ) = .ok u ρ' from h)
    exact congrArg Nat.succ (row_len (t := r) hr e2)
theorem stt_tup {es : List Expr} {k : Nat} {pos : Pos} {t : Tg} (hK : C.K = X.K) (hc : X.calm = true) (h : STs X C es t) (hr : t.isRow = true) (hl : (assignEach es X.env).length = t.len) (hst : (assignEach es X.env).findIdx? (·.1) = none) : STt X C (.Tuple es k pos) t := by
  obtain ⟨g, g1, g2⟩ := h
  refine ⟨_, pg_tup hc g1 hl hst, fun σ H ρ v d u ρ' Q R hd h q => ?_⟩
  cases d with
  | tup ds =>
    have e := row_len hr h
    cases hd with
    | tup h1 n l => exact ⟨_, _, rfl, hK ▸ .of h1, l.length.trans e, g2 σ H ρ _ ds u ρ' Q R l h q⟩
  | _ => cases t <;> first | (cases hr; done) | (cases h; done)
/-! ### locks -/
def Sl.core : Sl → Sl
  | .lk ds => .own ds
  | .lki ds => .io ds
  | s => s
theorem core_own (s : Sl) : s.core.isOwn = s.isOwn := by cases s <;> rfl
theorem core_io (s : Sl) : s.core.isIo = s.isIo := by cases s <;> rfl
theorem core_ok {P : Ow} {o : Option (Option V)} (s : Sl) : SlOk C H P o s.core = SlOk C H P o s := by cases s <;> rfl
theorem core_lock (s : Sl) : s.lock.core = s.core := by cases s <;> rfl
theorem lock_lock (s : Sl) : s.lock.lock = s.lock := by cases s <;> rfl
theorem core_unlock (s t : Sl) : (s.unlock t).core = t.core := by cases s <;> cases t <;> rfl
/-- the slots but for their locks -/
def SameC (ρ ρ' : En) : Prop := ∀ (j : Nat), (ρ'[j]?).map Sl.core = (ρ[j]?).map Sl.core
theorem SameC.get (h : SameC ρ ρ') {j : Nat} {s : Sl} (e : ρ[j]? = some s) : ∃ t, ρ'[j]? = some t ∧ t.core = s.core := by
  have q := h j
  rw [e] at q
  exact Option.map_eq_some_iff.mp q
theorem SameC.symm (h : SameC ρ ρ') : SameC ρ' ρ := fun j => (h j).symm
theorem SameC.own (h : SameC ρ ρ') {a : Addr} (o : OwnAt σ ρ a) : OwnAt σ ρ' a := by
  obtain ⟨i, s, e, o, q⟩ := o
  obtain ⟨t, e2, k⟩ := h.get e
  exact ⟨i, t, e2, by rw [← core_own, k, core_own]; exact o, q⟩
theorem SameC.pw {C' : Fc} (h : SameC ρ ρ') (hO : C'.Ox = C.Ox) : Pw C' σ ρ' = Pw C σ ρ := by
  funext a
  unfold Pw
  rw [hO]
  exact propext ⟨fun z => z.imp id h.symm.own, fun z => z.imp id h.own⟩
theorem SameC.len (h : SameC ρ ρ') : ρ'.length = ρ.length := by
  refine Nat.le_antisymm ?_ ?_
  · refine Nat.le_of_not_lt fun q => ?_
    obtain ⟨t, e, _⟩ := h.symm.get (List.getElem?_eq_getElem q)
    exact absurd (List.getElem?_eq_some_iff.mp e).1 (Nat.lt_irrefl _)
  · refine Nat.le_of_not_lt fun q => ?_
    obtain ⟨t, e, _⟩ := h.get (List.getElem?_eq_getElem q)
    exact absurd (List.getElem?_eq_some_iff.mp e).1 (Nat.lt_irrefl _)
/-- the walked slots of a frame are others -/
def Fc.atL (C : Fc) (l : List (Nat × Sl × V)) : Fc := { C with L := l }
theorem Rel.core (R : Rel C σ H ρ) (h : SameC ρ ρ') {l : List (Nat × Sl × V)} (hl : ∀ p ∈ l, p.2.1.isLk = true ∧ ρ'[p.1]? = some p.2.1 ∧ σ[p.1]? = some (some p.2.2)) : Rel (C.atL l) σ H ρ' := by
  have eP : Pw (C.atL l) σ ρ' = Pw C σ ρ := h.pw rfl
  refine ⟨⟨R.ok.ox, R.ok.bx, fun p hp => (hl p hp).1⟩, by rw [h.len]; exact R.len, fun j s e => ?_, fun i j s t a e1 e2 o1 o2 => ?_, R.frm, by rw [eP]; exact R.evo, fun p hp => ?_, fun i s e o => ?_, R.lim, fun p hp => (hl p hp).2, R.bld, fun p hp o => R.bown p hp (h.symm.own o)⟩
  · obtain ⟨t, e2, k⟩ := h.symm.get e
    have z := R.slot j t e2
    rw [eP]
    have z2 : SlOk C H (Pw C σ ρ) σ[j]? s := by rw [← core_ok, ← k, core_ok]; exact z
    cases s <;> exact z2
  · obtain ⟨s', e3, k3⟩ := h.symm.get e1
    obtain ⟨t', e4, k4⟩ := h.symm.get e2
    exact R.inj i j s' t' a e3 e4 (by rw [← core_own, k3, core_own]; exact o1) (by rw [← core_own, k4, core_own]; exact o2)
  · obtain ⟨h1, s, h2, h3⟩ := R.io p hp
    obtain ⟨t, e, k5⟩ := h.get h2
    exact ⟨h1, t, e, by rw [← core_io, k5, core_io]; exact h3⟩
  · obtain ⟨t, e2, k5⟩ := h.symm.get e
    exact R.ioI i t e2 (by rw [← core_io, k5, core_io]; exact o)
theorem lockE_get : ∀ (vs : List Nat) (ρ : En) (j : Nat), (lockE ρ vs)[j]? = if j ∈ vs then (ρ[j]?).map Sl.lock else ρ[j]?
  | [], ρ, j => by simp [lockE]
  | v :: vs, ρ, j => by
    unfold lockE
    have ih := lockE_get vs ρ
    by_cases e : j = v
    · subst e
      rw [if_pos List.mem_cons_self]
      by_cases hl : j < (lockE ρ vs).length
      · rw [List.getElem?_set_self hl]
        have ihj := ih j
        rw [List.getElem?_eq_getElem hl] at ihj
        rw [List.getD_eq_getElem?_getD, List.getElem?_eq_getElem hl, Option.getD_some]
        by_cases m : j ∈ vs
        · rw [if_pos m] at ihj
          obtain ⟨s, h1, h2⟩ := Option.map_eq_some_iff.mp ihj.symm
          rw [h1, ← h2, lock_lock]
          rfl
        · rw [if_neg m] at ihj
          rw [← ihj]
          rfl
      · have ihj := ih j
        rw [List.getElem?_eq_none (by omega)] at ihj
        rw [List.getElem?_eq_none (by rw [List.length_set]; omega)]
        by_cases m : j ∈ vs
        · rw [if_pos m] at ihj
          exact ihj
        · rw [if_neg m] at ihj
          rw [← ihj]
          rfl
    · rw [setV_ne e, ih j]
      by_cases m : j ∈ vs
      · rw [if_pos m, if_pos (List.mem_cons_of_mem _ m)]
      · rw [if_neg m, if_neg fun z => (List.mem_cons.mp z).elim e m]
theorem lockE_core (vs : List Nat) (ρ : En) : SameC ρ (lockE ρ vs) := fun j => by
  rw [lockE_get]
  by_cases m : j ∈ vs
  · rw [if_pos m]
    cases ρ[j]? with
    | none => rfl
    | some s => exact congrArg some (core_lock s)
  · rw [if_neg m]
theorem unlockE_core (ρ0 : En) : ∀ (vs : List Nat) (ρ : En), SameC ρ (unlockE ρ ρ0 vs)
  | [], ρ => fun j => rfl
  | v :: vs, ρ => fun j => by
    unfold unlockE
    have ih := unlockE_core ρ0 vs ρ j
    by_cases e : j = v
    · subst e
      by_cases hl : j < (unlockE ρ ρ0 vs).length
      · rw [List.getElem?_set_self hl, List.getD_eq_getElem?_getD, List.getD_eq_getElem?_getD, List.getElem?_eq_getElem hl, Option.getD_some]
        rw [List.getElem?_eq_getElem hl] at ih
        rw [← ih]
        exact congrArg some (core_unlock _ _)
      · rw [List.getElem?_eq_none (by rw [List.length_set]; omega)]
        rw [List.getElem?_eq_none (by omega)] at ih
        exact ih
    · rw [setV_ne e]
      exact ih
theorem unlock_unlock (t s : Sl) : t.unlock (t.unlock s) = t.unlock s := by cases t <;> cases s <;> rfl
theorem unlockE_get (ρ0 : En) : ∀ (vs : List Nat) (ρ : En) (j : Nat), (unlockE ρ ρ0 vs)[j]? = if j ∈ vs then (ρ[j]?).map (fun s => (ρ0.getD j .un).unlock s) else ρ[j]?
  | [], ρ, j => by simp [unlockE]
  | v :: vs, ρ, j => by
    unfold unlockE
    have ih := unlockE_get ρ0 vs ρ
    by_cases e : j = v
    · subst e
      rw [if_pos List.mem_cons_self]
      by_cases hl : j < (unlockE ρ ρ0 vs).length
      · rw [List.getElem?_set_self hl]
        have ihj := ih j
        rw [List.getElem?_eq_getElem hl] at ihj
        rw [List.getD_eq_getElem?_getD (l := unlockE ρ ρ0 vs), List.getElem?_eq_getElem hl, Option.getD_some]
        by_cases m : j ∈ vs
        · rw [if_pos m] at ihj
          obtain ⟨s, h1, h2⟩ := Option.map_eq_some_iff.mp ihj.symm
          rw [h1, ← h2, unlock_unlock]
          rfl
        · rw [if_neg m] at ihj
          rw [← ihj]
          rfl
      · have ihj := ih j
        rw [List.getElem?_eq_none (by omega)] at ihj
        rw [List.getElem?_eq_none (by rw [List.length_set]; omega)]
        by_cases m : j ∈ vs
        · rw [if_pos m] at ihj
          exact ihj
        · rw [if_neg m] at ihj
          rw [← ihj]
          rfl
    · rw [setV_ne e, ih j]
      by_cases m : j ∈ vs
      · rw [if_pos m, if_pos (List.mem_cons_of_mem _ m)]
      · rw [if_neg m, if_neg fun z => (List.mem_cons.mp z).elim e m]
/-- what is walked, as locked slots -/
def lockL (σ : L2.St) (ρ : En) (vs : List Nat) : List (Nat × Sl × V) := vs.filterMap fun i => match ρ[i]?, σ[i]? with
  | some s, some (some v) => if s.isLk = true then some (i, s, v) else none
  | _, _ => none
theorem mem_lockL {vs : List Nat} {p : Nat × Sl × V} : p ∈ lockL σ ρ vs ↔ p.1 ∈ vs ∧ ρ[p.1]? = some p.2.1 ∧ σ[p.1]? = some (some p.2.2) ∧ p.2.1.isLk = true := by
  obtain ⟨i, s, v⟩ := p
  unfold lockL
  rw [List.mem_filterMap]
  constructor
  · rintro ⟨j, hj, e⟩
    split at e
    · rename_i s' v' h1 h2
      split at e
      · rename_i hk
        cases e
        exact ⟨hj, h1, h2, hk⟩
      · cases e
    · cases e
  · rintro ⟨h1, h2, h3, h4⟩
    have h2 : ρ[i]? = some s := h2
    have h3 : σ[i]? = some (some v) := h3
    have h4 : s.isLk = true := h4
    refine ⟨i, h1, ?_⟩
    rw [h2, h3]
    show (if s.isLk = true then some (i, s, v) else none) = _
    rw [if_pos h4]
/-- the frame while vs are walked -/
def Fc.lock (C : Fc) (σ : L2.St) (ρ : En) (vs : List Nat) : Fc := C.atL (C.L ++ lockL σ (lockE ρ vs) vs)
theorem Rel.lock (R : Rel C σ H ρ) (vs : List Nat) : Rel (C.lock σ ρ vs) σ H (lockE ρ vs) := R.core (lockE_core vs ρ) fun p hp => by
  rcases List.mem_append.mp hp with hp | hp
  · obtain ⟨h1, h2⟩ := R.lk p hp
    have h3 := R.ok.lk p hp
    refine ⟨h3, ?_, h2⟩
    rw [lockE_get, h1]
    have : p.2.1.lock = p.2.1 := by cases h : p.2.1 <;> first | rfl | (rw [h] at h3; cases h3)
    by_cases m : p.1 ∈ vs
    · rw [if_pos m]; exact congrArg some this
    · rw [if_neg m]
  · obtain ⟨_, h1, h2, h3⟩ := mem_lockL.mp hp
    exact ⟨h3, h1, h2⟩
theorem lock_pw (vs : List Nat) : Pw (C.lock σ ρ vs) σ (lockE ρ vs) = Pw C σ ρ := (lockE_core vs ρ).pw rfl
/-- behind the walk -/
theorem Rel.unlock {σ2 : L2.St} {H2 : Hp} {ρ2 : En} (R0 : Rel C σ H ρ) (vs : List Nat) (R : Rel (C.lock σ ρ vs) σ2 H2 ρ2) : Rel C σ2 H2 (unlockE ρ2 ρ vs) := by
  have r := R.core (unlockE_core ρ vs ρ2) (l := C.L) fun p hp => ⟨R.ok.lk p (List.mem_append_left _ hp), ?_, (R.lk p (List.mem_append_left _ hp)).2⟩
  · exact r
  · obtain ⟨h1, _⟩ := R.lk p (List.mem_append_left _ hp)
    obtain ⟨h2, _⟩ := R0.lk p hp
    have h3 := R0.ok.lk p hp
    rw [unlockE_get]
    by_cases m : p.1 ∈ vs
    · rw [if_pos m, h1]
      have e : ρ.getD p.1 .un = p.2.1 := by rw [List.getD_eq_getElem?_getD, h2]; rfl
      rw [e]
      have : p.2.1.unlock p.2.1 = p.2.1 := by cases h : p.2.1 <;> first | rfl | (rw [h] at h3; cases h3)
      exact congrArg some this
    · rw [if_neg m]; exact h1
theorem unlock_pw {σ2 : L2.St} {ρ2 : En} (vs : List Nat) : Pw C σ2 (unlockE ρ2 ρ vs) = Pw (C.lock σ ρ vs) σ2 ρ2 := (unlockE_core ρ vs ρ2).pw rfl
end
end Sm
end

section
set_option Elab.async false
set_option linter.all false
set_option autoImplicit false
set_option maxRecDepth 100000
/-! SmE: enumerate of a tuple. -/
namespace Sm
open PySem PySem.Spec PyProof.Rows L2 RZ
set_option maxHeartbeats 1000000 in
theorem meets_enumT {v : Value} {o : Obj} {H : Heap → Prop} (B : Begins v o H) :
    Meets (Builtin.«enumerate.__new__» ⟨[.type "enumerate", v], []⟩) (fun _ R s => H s.heap ∧
      R (.ok (.ret (.ref (s.heap.push o).objs.size))) { s with heap := (s.heap.push o).push { cls := .type "enumerate", data := .fields #[.none, .bool false, .ref s.heap.objs.size, rawInt 0, .none, .none] } }) :=
  .of_wp fun prog w A R s h => by
    obtain ⟨hp, g, d, tk, os⟩ := s; obtain ⟨h1, h⟩ := h
    have hsub := sub_enumerate
    have q1 : ∀ {A' : Around} {E : Value → Shared → Prop} {Q : Value → Shared → Prop}, Q (.ref hp.objs.size) ⟨hp.push o, g, d, tk, os⟩ → wpAny (model prog w) A' (pyIter v) Q E ⟨hp, g, d, tk, os⟩ :=
      fun q => B.iter prog w _ _ ⟨hp, g, d, tk, os⟩ _ h1 q
    wp_walk using q1
    refine wpAny_stack_any fun st => wpAny_pure ?_
    split
    · rename_i c _ _ _ _ _
      cases (c == Value.type "enumerate")
      · wp_walk using q1
        exact ⟨_, rfl, h⟩
      · wp_walk using q1
        exact ⟨_, rfl, h⟩
    · wp_walk using q1
      exact ⟨_, rfl, h⟩
theorem call_enumT {prog : Program} {w : World} {A : Around} {E : Value → Shared → Prop} {s : Shared} {t : Addr} {items : Array Value} {Q : Value → Shared → Prop} (hL : s.heap.IsTuple t items)
    (h : ∀ h', IsEnum h' (s.heap.objs.size + 1) s.heap.objs.size 0 .none → h'.IsTupleIter s.heap.objs.size t 0 → h'.objs.size = s.heap.objs.size + 2 →
      (∀ b o, s.heap.get? b = some o → h'.get? b = some o) → Q (.ref (s.heap.objs.size + 1)) { s with heap := h' }) :
    wpAny (model prog w) A (call (.type "enumerate") [.ref t]) Q E s := by
  refine callType_new F.called_enumerate (by decide) (F.typeCall_enumerate_1 _) (F.newCall_enumerate_1 _) (fun obj => F.args_object_init_2 obj _) F.entry_enumerate_new
    (meets_enumT (begins_tuple t items)) ⟨hL, ?_⟩
  have hz : (s.heap.push { cls := .type "tuple_iterator", data := .fields #[.ref t, .int 0 0] }).objs.size = s.heap.objs.size + 1 := Heap.size_push ..
  show _ ∧ _
  rw [hz]
  have he : IsEnum ((s.heap.push { cls := .type "tuple_iterator", data := .fields #[.ref t, .int 0 0] }).push
      { cls := .type "enumerate", data := .fields #[.none, .bool false, .ref s.heap.objs.size, rawInt 0, .none, .none] }) (s.heap.objs.size + 1) s.heap.objs.size 0 .none := by
    have := Heap.get?_push_size (s.heap.push { cls := .type "tuple_iterator", data := .fields #[.ref t, .int 0 0] })
      (o := { cls := .type "enumerate", data := .fields #[.none, .bool false, .ref s.heap.objs.size, rawInt 0, .none, .none] }) rfl
    rw [hz] at this; exact this
  refine ⟨⟨_, he, rfl⟩, h _ he ⟨_, Heap.get?_push_of_some _ (Heap.get?_push_size _ rfl), rfl, rfl⟩ (by rw [Heap.size_push, hz]) fun b o x => Heap.get?_push_of_some _ (Heap.get?_push_of_some _ x)⟩
theorem wpAny_pyNext_enum_endT {prog : Program} {w : World} {A : Around} {E : Value → Shared → Prop} {s : Shared} {e it t : Addr} {i : Nat} {items : Array Value} {old : Value} {Q : Option Value → Shared → Prop} (hh : A.handled = none)
    (he : IsEnum s.heap e it i old) (hit : s.heap.IsTupleIter it t i) (hl : s.heap.IsTuple t items) (hx : items[i]? = none)
    (hQ : ∀ h', Heap.ExtBut it s.heap h' → Q none { s with heap := h' }) : wpAny (model prog w) A (pyNext (.ref e)) Q E s := by
  have hT : s.TypeIs (.ref e) "enumerate" := ⟨_, he, rfl⟩
  unfold pyNext
  refine wpAny_bind (wpAny_attempt (wpAny_callSpecial?_slot (name := Str.ofString "__next__") hT F.slot_enumerate_next
    (wpAny_call_entry F.slot_enumerate_next hT F.entry_enumerate_next ?_ (F.args_enumerate_next_1 _))))
  show wpAny _ _ (field (.ref e) 2 >>= _) _ _ _
  refine wpAny_bind (wpAny_field he rfl (x := .ref it) rfl ?_)
  refine wpAny_bind (wpAny_nextOf_tuple_end (by exact hh) hit hl hx fun h' x he' hx' => ?_)
  obtain ⟨o, ho, hc⟩ := hx'
  refine wpAny_bind (wpAny_isInstance (T := "StopIteration") (b := true) ⟨o, ho, hc⟩ isSubtype_stop ?_)
  exact wpAny_pure (hQ _ he')
/-- the tuple at a as it stands at each turn, each item in a new pair -/
def IteT (K : PySem.W.Frag) (a : Addr) : L2.It :=
  ⟨fun i H => ∃ (xs : List V) (x : V), SqT K H a xs ∧ xs[i]? = some x, fun i H v H' => ∃ T x, v = .ref T ∧ H T = none ∧ H' = upd H T (.tup [.int (i : Nat), x]) ∧ ∀ xs, SqT K H a xs → xs[i]? = some x, fun i H => ∃ xs : List V, SqT K H a xs ∧ xs.length ≤ i⟩
theorem turn_enumT {P : Program} {w : World} {K : PySem.W.Frag} {elts : List Expr} {kk : Nat} {tpos : Pos} {a e it : Addr} (hat : a ≠ it) (hae : e ≠ a) :
    Turn P w K (.Tuple elts kk tpos) (IteT K a) [e, it] e (fun i h => (∃ old, IsEnum h e it ((i : Nat) : Int) old) ∧ h.IsTupleIter it a i ∧ e ≠ it) where
  mem := by simp
  obj := fun i h st b hb => by
    obtain ⟨⟨old, he⟩, ⟨o, ho, hc, hd⟩, _⟩ := st
    have e' : b = e ∨ b = it := by simpa using hb
    rcases e' with z | z
    · rw [z]; exact ⟨_, he, fun v q => nomatch q⟩
    · rw [z]; exact ⟨o, ho, fun v q => by rw [hd] at q; cases q⟩
  keep := fun i h h' st k => let ⟨⟨old, he⟩, hi, hne⟩ := st; ⟨⟨old, k e (by simp) _ he⟩, hi.at fun o q => k it (by simp) o q, hne⟩
  item := by
    intro X hP hw hK hc i pins s σ H E I hf st hg
    subst hP hw hK
    obtain ⟨⟨old, he⟩, hit, hne⟩ := st
    obtain ⟨xs, x, hq, hx⟩ := hg
    obtain ⟨its, rv, p, hz⟩ := I.tuple hq
    obtain ⟨u, hu, ru⟩ := rv.get hx
    have p' : s.heap.IsTuple a its.toArray := p
    have hel : e < s.heap.objs.size := Heap.lt_size he
    have hil : it < s.heap.objs.size := by obtain ⟨_, q, _⟩ := hit; exact Heap.lt_size q
    have hlt : i < its.toArray.size := by
      have := (List.getElem?_eq_some_iff.mp hu).1
      simpa using this
    refine wpAny_pyNext_enum_itemD (Draws.tuple (by exact (I.ok.hd hc)) it a hat its.toArray) he ⟨hit, p'⟩ hlt hne (by simp [hne, hae]) fun y h' tk hy ho st' hT hsz hk => ?_
    obtain ⟨hit', _⟩ := st'
    have hyu : y = u := by
      have h1 : its.toArray[i]? = some u := by simpa using hu
      rw [h1] at hy
      exact (Option.some.inj hy).symm
    subst hyu
    refine ⟨_, rfl, wpAny_letOwnedTupleGo_enum (s := { s with heap := h', toks := tk + 1 }) ho fun h'' he' sb => ?_⟩
    have hT2 : h''.get? s.heap.objs.size = some { cls := .type "tuple", data := .seq #[.int i tk, y] } := (sb.2 _ (Nat.ne_of_gt hel)).trans hT
    have new : ObjOk X.prog X.w (upd H s.heap.objs.size (.tup [.int (i : Nat), x])) h'' s.heap.objs.size (.tup [.int (i : Nat), x]) :=
      ⟨by show 2 ≤ sizeLine; decide, [.int i tk, y], .cons ⟨_, rfl⟩ (.cons ru .nil), ⟨_, hT2, rfl, _, rfl⟩⟩
    have I1 : Inv X pins σ (upd H s.heap.objs.size (.tup [.int (i : Nat), x])) { s with heap := h'', toks := tk + 1 } :=
      I.turnedNew (ch := [e, it]) (fun b ob hb q => (sb.2 b (fun z => hb (by simp [z]))).trans (hk b ob (fun z => hb (by simp [z])) (fun z => hb (by simp [z])) q)) hf (Nat.le_refl _) new
    refine ⟨.ref s.heap.objs.size, _, I1, rfl, ⟨_, x, rfl, I.hok.fresh (Nat.le_refl _), rfl, fun ys hy => by rw [I.tuple_inj hy hq]; exact hx⟩, ⟨⟨y, ?_⟩, hit'.at fun o q => (sb.2 it (Ne.symm hne)).trans q, hne⟩, fun b hb => ?_⟩
    · have e1 : ((i + 1 : Nat) : Int) = (i : Int) + 1 := by omega
      rw [e1]; exact he'
    · have hb' : b < s.heap.objs.size := by
        have e' : b = e ∨ b = it := by simpa using hb
        rcases e' with z | z
        · rw [z]; exact hel
        · rw [z]; exact hil
      rw [upd_ne (Nat.ne_of_lt hb')]
      exact (hf b hb).1
  done := by
    intro X hP hw hK hc i pins s σ H E I hf st hg
    subst hP hw hK
    obtain ⟨⟨old, he⟩, hit, hne⟩ := st
    obtain ⟨xs, hq, hx⟩ := hg
    obtain ⟨its, rv, p, hz⟩ := I.tuple hq
    have p' : s.heap.IsTuple a its.toArray := p
    have hl := rv.length
    obtain ⟨f0, f1, f2, f3, f4, f5⟩ := hf it (by simp)
    refine wpAny_pyNext_enum_endT (I.ok.hd hc) he hit p' (by simp; omega) fun h' eb => ⟨rfl, I.turned (t' := s.toks) (fun b o hb q => eb b o hb q) f0 f1 f3 f4 f5⟩
  self := fun A i s Q E st h => let ⟨⟨_, he⟩, _⟩ := st; wpAny_pyIter_enum he h
def iEnumA (K : PySem.W.Frag) (ta : TA) : TI := fun σ H R => ta σ H fun vs H1 => ∃ a xs, vs = [.ref a] ∧ ((SqL K H1 a xs ∧ R (Ite K a) H1) ∨ (SqT K H1 a xs ∧ R (IteT K a) H1))
theorem pi_enumA {X : Cx} {e : Expr} {ta : TA} {p pos tpos : Pos} {elts : List Expr} {kk : Nat} (hg : Gl X "enumerate") (hm : X.mg "enumerate" = none) (ha : PA X [e] ta) (hs : starEach [e] X.env = [(false, eval e X.env)] := by rfl) :
    PI X (.Tuple elts kk tpos) (.Call (.Name "enumerate" p) [e] [] pos) (iEnumA X.K ta) := by
  refine ⟨fun pins s σ H R I h => ?_⟩
  refine Call_ (ld_blt I hg hm boot_enumerate (PyProof.Rows.callWith_type1 (thn (ha.run pos pins s σ H _ I h) fun us s1 ⟨vs, H1, I1, r1, q1⟩ => ?_) hs rfl))
  obtain ⟨a, xs, ex, q1⟩ := q1
  subst ex
  cases r1 with
  | cons r rr =>
    cases rr
    cases r
    have fp : ∀ b ∈ [s1.heap.objs.size + 1, s1.heap.objs.size], FpOk X pins H1 b := fun b hb => by
      have e' : b = s1.heap.objs.size + 1 ∨ b = s1.heap.objs.size := by simpa using hb
      have hle : s1.heap.objs.size ≤ b := by
        rcases e' with z | z
        · rw [z]; exact Nat.le_add_right _ _
        · rw [z]; exact Nat.le_refl _
      exact I1.fpOk hle (I1.hok.fresh hle)
    rcases q1 with ⟨hq, q⟩ | ⟨hq, q⟩
    · obtain ⟨its, rv, p', hz⟩ := I1.list hq
      refine call_enumerate_list p'.isList fun h' he hit hsz hk => wpAny_pyIter_enum he ?_
      have I2 : Inv X pins σ H1 { s1 with heap := h' } := I1.kept (t' := s1.toks) hk
      exact ⟨s1.heap.objs.size + 1, [s1.heap.objs.size + 1, s1.heap.objs.size], _, _, H1, rfl, I2, turn_enum a (s1.heap.objs.size + 1) s1.heap.objs.size, ⟨⟨.none, he⟩, hit, Nat.succ_ne_self _⟩, fp, q⟩
    · obtain ⟨its, rv, p', hz⟩ := I1.tuple hq
      obtain ⟨o1, ho1, _⟩ := id p'
      have hlt := Heap.lt_size ho1
      refine call_enumT (show s1.heap.IsTuple a its.toArray from p') fun h' he hit hsz hk => wpAny_pyIter_enum he ?_
      have I2 : Inv X pins σ H1 { s1 with heap := h' } := I1.kept (t' := s1.toks) hk
      exact ⟨s1.heap.objs.size + 1, [s1.heap.objs.size + 1, s1.heap.objs.size], _, _, H1, rfl, I2, turn_enumT (a := a) (e := s1.heap.objs.size + 1) (it := s1.heap.objs.size) (Nat.ne_of_lt hlt) (Nat.ne_of_gt (Nat.lt_succ_of_lt hlt)), ⟨⟨.none, he⟩, hit, Nat.succ_ne_self _⟩, fp, q⟩
end Sm
end

section
set_option Elab.async false
set_option linter.all false
set_option autoImplicit false
set_option maxRecDepth 100000
/-! Sm11: what a for and a comprehension walk. -/
namespace Sm
open PySem PySem.Spec PyProof.Rows L2 RZ
section
variable {X : Cx} {C C' : Fc} {W : WX} {σ : L2.St} {H H' : Hp} {ρ ρ' : En}
/-- C'' is C' with more that is walked and built -/
structure Fc.Le (C C' : Fc) : Prop where
  K : C'.K = C.K
  mg : C'.mg = C.mg
  H0 : C'.H0 = C.H0
  I : C'.I = C.I
  L : ∀ p ∈ C.L, p ∈ C'.L
  ox : ∀ a, C.Ox a → C'.Ox a
  xo : ∀ a, C'.Ox a → C.Ox a ∨ C.H0 a = none
theorem Fc.Le.refl (C : Fc) : C.Le C := ⟨rfl, rfl, rfl, rfl, fun _ h => h, fun _ h => h, fun _ h => .inl h⟩
theorem BorV.le (l : C.Le C') {v : V} {d : D} (h : BorV C v d) : BorV C' v d := by
  have ev : Evo C.Ox C.H0 C'.Ox C.H0 := ⟨fun _ _ _ e => e, l.xo, fun _ e => e⟩
  unfold BorV
  rw [l.H0, l.I]
  exact h.imp (fun h => h.evo ev) fun ⟨a, xs, ds, h1, h2, h3, h4, h5⟩ => ⟨a, xs, ds, h1, h2, h3, h4, h5.evo ev⟩
/-- J yields the items ds, wherever the frame C' is behind (σ, H, ρ) -/
def ItemsAt (C' : Fc) (J : L2.It) (σ : L2.St) (H : Hp) (ρ : En) (ds : List D) : Prop := ∀ (C'' : Fc) (σ' : L2.St) (H' : Hp) (ρ' : En), C'.Le C'' → Rel C'' σ' H' ρ' → Evo (Pw C' σ ρ) H (Pw C'' σ' ρ') H' →
  (∀ (i : Nat) (d : D), ds[i]? = some d → J.go i H' ∧ ∀ x H'', J.yld i H' x H'' → Rel C'' σ' H'' ρ' ∧ Evo (Pw C'' σ' ρ') H' (Pw C'' σ' ρ') H'' ∧ Dat H'' (Pw C'' σ' ρ') x d) ∧ J.stop ds.length H'
def ListAt (C' : Fc) (σ : L2.St) (H : Hp) (ρ : En) (a : Addr) (ds : List D) : Prop := ∀ (C'' : Fc) (σ' : L2.St) (H' : Hp) (ρ' : En), C'.Le C'' → Rel C'' σ' H' ρ' → Evo (Pw C' σ ρ) H (Pw C'' σ' ρ') H' → ∃ xs, H' a = some (.lst xs) ∧ DatL H' (Pw C'' σ' ρ') xs ds
def TupAt (C' : Fc) (σ : L2.St) (H : Hp) (ρ : En) (a : Addr) (ds : List D) : Prop := ∀ (C'' : Fc) (σ' : L2.St) (H' : Hp) (ρ' : En), C'.Le C'' → Rel C'' σ' H' ρ' → Evo (Pw C' σ ρ) H (Pw C'' σ' ρ') H' → ∃ xs, H' a = some (.tup xs) ∧ DatL H' (Pw C'' σ' ρ') xs ds
theorem tupAt_of (R : Rel C σ H ρ) {vs : List Nat} {v : V} {ds : List D} (h : BorN H (Pw C σ ρ) v (.tup ds)) : ∃ a, v = .ref a ∧ (∃ xs, H a = some (.tup xs) ∧ DatL H (Pw C σ ρ) xs ds) ∧ TupAt (C.lock σ ρ vs) σ H (lockE ρ vs) a ds := by
  obtain ⟨a, xs, rfl, h1, h2, h3⟩ := h.tup
  refine ⟨a, rfl, ⟨xs, h1, h3⟩, fun C'' σ' H' ρ' le R' ev => ?_⟩
  rw [lock_pw] at ev
  exact ⟨xs, ev.keep _ _ h2 h1, h3.evo ev⟩
theorem listAt_of (R : Rel C σ H ρ) {vs : List Nat} {v : V} {ds : List D} {h : Hd} (e : h.look ρ = .ok (.lst ds) ρ') (r : HdR σ H (Pw C σ ρ) v h) (hv : ∀ i, h = .b i → i ∈ vs) :
    ∃ a, v = .ref a ∧ (∃ xs, H a = some (.lst xs) ∧ DatL H (Pw C σ ρ) xs ds) ∧ ListAt (C.lock σ ρ vs) σ H (lockE ρ vs) a ds := by
  have dat : ∀ {v}, Dat H (Pw C σ ρ) v (.lst ds) → ∃ a, v = .ref a ∧ (∃ xs, H a = some (.lst xs) ∧ DatL H (Pw C σ ρ) xs ds) ∧ ListAt (C.lock σ ρ vs) σ H (lockE ρ vs) a ds := fun {v} x => by
    cases x with
    | lst h1 h2 h3 =>
      refine ⟨_, rfl, ⟨_, h1, h3⟩, fun C'' σ' H' ρ' le R' ev => ?_⟩
      rw [lock_pw] at ev
      exact ⟨_, ev.keep _ _ h2 h1, h3.evo ev⟩
  cases h with
  | d x => cases e; exact dat r
  | o i => cases e
  | s i => cases e
  | b i =>
    obtain ⟨_, s, e2, e3⟩ := rdB_ok e
    have r : σ[i]? = some (some v) := r
    have z := R.slot i s e2
    have hm := hv i rfl
    have locked : ∀ (a : Addr) (xs : List V), s.lock.isLk = true → (s = .own ds ∨ s = .io ds ∨ s = .lk ds ∨ s = .lki ds) → v = .ref a → H a = some (.lst xs) → DatL H (Pw C σ ρ) xs ds →
        ∃ a, v = .ref a ∧ (∃ xs, H a = some (.lst xs) ∧ DatL H (Pw C σ ρ) xs ds) ∧ ListAt (C.lock σ ρ vs) σ H (lockE ρ vs) a ds := fun a xs hk hs ev1 h1 h3 => by
      subst ev1
      refine ⟨a, rfl, ⟨xs, h1, h3⟩, fun C'' σ' H' ρ' le R' ev => ?_⟩
      have hL : (i, s.lock, V.ref a) ∈ (C.lock σ ρ vs).L := by
        refine List.mem_append_right _ (mem_lockL.mpr ⟨hm, ?_, r, hk⟩)
        rw [lockE_get, if_pos hm, e2]
        rfl
      obtain ⟨k1, k2⟩ := R'.lk _ (le.L _ hL)
      have w := R'.slot i _ k1
      rw [k2] at w
      rcases hs with rfl | rfl | rfl | rfl
      · obtain ⟨b, ys, w1, w2, w3, _⟩ := w; cases w1; exact ⟨ys, w2, w3⟩
      · obtain ⟨b, ys, w1, w2, w3, _⟩ := w; cases w1; exact ⟨ys, w2, w3⟩
      · obtain ⟨b, ys, w1, w2, w3, _⟩ := w; cases w1; exact ⟨ys, w2, w3⟩
      · obtain ⟨b, ys, w1, w2, w3, _⟩ := w; cases w1; exact ⟨ys, w2, w3⟩
    cases s with
    | un => cases e3
    | scr _ => cases e3
    | dat d =>
      cases e3
      obtain ⟨w, q1, q2⟩ := z
      rw [r] at q1
      cases q1
      exact dat q2
    | bor d =>
      cases e3
      obtain ⟨w, q1, q2⟩ := z
      rw [r] at q1
      cases q1
      rcases q2.now R with q3 | ⟨a, xs, es, rfl, q4, q5, q6⟩
      · exact dat q3
      · cases q4
        refine ⟨a, rfl, ⟨xs, q5, q6⟩, fun C'' σ' H' ρ' le R' ev => ?_⟩
        have b2 : BorV (C.lock σ ρ vs) (.ref a) (.lst ds) := q2
        obtain ⟨b, ys, w1, w2, w3⟩ := ((b2.le le).now R').lst
        cases w1
        exact ⟨ys, w2, w3⟩
    | own l => cases e3; obtain ⟨a, xs, q1, q2, q3, _⟩ := z; rw [r] at q1; cases q1; exact locked a xs rfl (.inl rfl) rfl q2 q3
    | io l => cases e3; obtain ⟨a, xs, q1, q2, q3, _⟩ := z; rw [r] at q1; cases q1; exact locked a xs rfl (.inr (.inl rfl)) rfl q2 q3
    | lk l => cases e3; obtain ⟨a, xs, q1, q2, q3, _⟩ := z; rw [r] at q1; cases q1; exact locked a xs rfl (.inr (.inr (.inl rfl))) rfl q2 q3
    | lki l => cases e3; obtain ⟨a, xs, q1, q2, q3, _⟩ := z; rw [r] at q1; cases q1; exact locked a xs rfl (.inr (.inr (.inr rfl))) rfl q2 q3
/-- what a source's rule hands on -/
abbrev ItR (C : Fc) (vs : List Nat) (σ : L2.St) : Hp → En → L2.It → List D → Prop := fun H ρ J ds => ItemsAt (C.lock σ ρ vs) J σ H (lockE ρ vs) ds
def SI (X : Cx) (C : Fc) (W : WX) (tg it : Expr) (vs : List Nat) (m : En → Res (List D)) : Prop := ∃ wi, PI X tg it wi ∧ Sim C W (ItR C vs) wi m
theorem itl_items {a : Addr} {ds : List D} (h : ListAt C' σ H ρ a ds) : ItemsAt C' (Itl X.K a) σ H ρ ds := fun C'' σ' H' ρ' le R' ev => by
  obtain ⟨xs, h1, h2⟩ := h C'' σ' H' ρ' le R' ev
  refine ⟨fun i d e => ?_, xs, .of h1, Nat.le_of_eq h2.length⟩
  obtain ⟨v, e1, e2⟩ := h2.get e
  refine ⟨⟨xs, v, .of h1, e1⟩, fun x H'' y => ?_⟩
  obtain ⟨rfl, y⟩ := y
  have q := y xs (.of h1)
  rw [e1] at q
  cases q
  exact ⟨R', .refl _ _, e2⟩
theorem itt_items {a : Addr} {ds : List D} (h : TupAt C' σ H ρ a ds) : ItemsAt C' (Itt X.K a) σ H ρ ds := fun C'' σ' H' ρ' le R' ev => by
  obtain ⟨xs, h1, h2⟩ := h C'' σ' H' ρ' le R' ev
  refine ⟨fun i d e => ?_, xs, .of h1, Nat.le_of_eq h2.length⟩
  obtain ⟨v, e1, e2⟩ := h2.get e
  refine ⟨⟨xs, v, .of h1, e1⟩, fun x H'' y => ?_⟩
  obtain ⟨rfl, y⟩ := y
  have q := y xs (.of h1)
  rw [e1] at q
  cases q
  exact ⟨R', .refl _ _, e2⟩
theorem rangeD_get {lo c : Int} {n i : Nat} {d : D} (h : (rangeD lo c n)[i]? = some d) : i < n ∧ d = .int (lo + (i : Int) * c) := by
  unfold rangeD at h
  rw [List.getElem?_map] at h
  obtain ⟨k, h1, h2⟩ := Option.map_eq_some_iff.mp h
  have hl := (List.getElem?_eq_some_iff.mp h1).1
  rw [List.length_range] at hl
  rw [List.getElem?_range hl] at h1
  cases h1
  exact ⟨hl, h2.symm⟩
theorem rangeD_len {lo c : Int} {n : Nat} : (rangeD lo c n).length = n := by unfold rangeD; rw [List.length_map, List.length_range]
theorem itr_items {lo : Int} {n : Nat} : ItemsAt C' (Itr lo n) σ H ρ (rangeD lo 1 n) := fun C'' σ' H' ρ' le R' ev => by
  refine ⟨fun i d e => ?_, by show n ≤ (rangeD lo 1 n).length; rw [rangeD_len]; exact Nat.le_refl _⟩
  obtain ⟨h1, rfl⟩ := rangeD_get e
  refine ⟨h1, fun x H'' y => ?_⟩
  obtain ⟨rfl, rfl⟩ := y
  refine ⟨R', .refl _ _, ?_⟩
  rw [Int.mul_one]
  exact .int _
theorem itc_items {lo c : Int} {n : Nat} : ItemsAt C' (Itc lo c n) σ H ρ (rangeD lo c n) := fun C'' σ' H' ρ' le R' ev => by
  refine ⟨fun i d e => ?_, by show n ≤ (rangeD lo c n).length; rw [rangeD_len]; exact Nat.le_refl _⟩
  obtain ⟨h1, rfl⟩ := rangeD_get e
  refine ⟨h1, fun x H'' y => ?_⟩
  obtain ⟨rfl, rfl⟩ := y
  exact ⟨R', .refl _ _, .int _⟩
theorem pi_or {tg it : Expr} {w1 w2 : TI} (h1 : PI X tg it w1) (h2 : PI X tg it w2) : PI X tg it (fun σ H R => w1 σ H R ∨ w2 σ H R) := ⟨fun pins s σ H R I h => h.elim (fun h => h1.run pins s σ H R I h) fun h => h2.run pins s σ H R I h⟩
theorem zipD_get : ∀ {xs ys : List D} {i : Nat} {d : D}, (zipD xs ys)[i]? = some d → ∃ x y, xs[i]? = some x ∧ ys[i]? = some y ∧ d = .tup [x, y]
  | [], _, _, _, h => by simp [zipD] at h
  | _ :: _, [], _, _, h => by simp [zipD] at h
  | x :: xs, y :: ys, 0, d, h => by simp [zipD] at h; exact ⟨x, y, rfl, rfl, h.symm⟩
  | x :: xs, y :: ys, i + 1, d, h => by
    have h : (zipD xs ys)[i]? = some d := by simpa [zipD] using h
    obtain ⟨a, b, h1, h2, h3⟩ := zipD_get (xs := xs) (ys := ys) (i := i) (d := d) h
    exact ⟨a, b, by simpa using h1, by simpa using h2, h3⟩
theorem zipD_len : ∀ {xs ys : List D}, (zipD xs ys).length = min xs.length ys.length
  | [], ys => by simp [zipD]
  | x :: xs, [] => by simp [zipD]
  | x :: xs, y :: ys => by simp only [zipD, List.length_cons, zipD_len]; omega
theorem enumD_get : ∀ {xs : List D} {k i : Nat} {d : D}, (enumD k xs)[i]? = some d → ∃ x, xs[i]? = some x ∧ d = .tup [.int ((k + i : Nat) : Int), x]
  | [], _, _, _, h => by simp [enumD] at h
  | x :: xs, k, 0, d, h => by simp [enumD] at h; exact ⟨x, rfl, h.symm⟩
  | x :: xs, k, i + 1, d, h => by
    have h : (enumD (k + 1) xs)[i]? = some d := by simpa [enumD] using h
    obtain ⟨y, h1, h2⟩ := enumD_get (xs := xs) (k := k + 1) (i := i) (d := d) h
    refine ⟨y, by simpa using h1, ?_⟩
    rw [h2]
    have : k + 1 + i = k + (i + 1) := by omega
    rw [this]
theorem enumD_len : ∀ {xs : List D} {k : Nat}, (enumD k xs).length = xs.length
  | [], _ => rfl
  | x :: xs, k => by simp only [enumD, List.length_cons, enumD_len]
/-- a new pair -/
theorem pair_new (R : Rel C' σ H ρ) {T : Addr} {x y : V} {d e : D} (hT : H T = none) (hx : Dat H (Pw C' σ ρ) x d) (hy : Dat H (Pw C' σ ρ) y e) :
    Rel C' σ (upd H T (.tup [x, y])) ρ ∧ Evo (Pw C' σ ρ) H (Pw C' σ ρ) (upd H T (.tup [x, y])) ∧ Dat (upd H T (.tup [x, y])) (Pw C' σ ρ) (.ref T) (.tup [d, e]) :=
  R.newT hT (by show 2 ≤ sizeLine; rw [sizeLine_eq]; omega) (.cons hx (.cons hy .nil))
theorem itz_items {a b : Addr} {ds es : List D} (h : ListAt C' σ H ρ a ds) (g : ListAt C' σ H ρ b es) : ItemsAt C' (Itz X.K a b) σ H ρ (zipD ds es) := fun C'' σ' H' ρ' le R' ev => by
  obtain ⟨xs, h1, h2⟩ := h C'' σ' H' ρ' le R' ev
  obtain ⟨ys, g1, g2⟩ := g C'' σ' H' ρ' le R' ev
  refine ⟨fun i d e => ?_, xs, ys, .of h1, .of g1, ?_⟩
  · obtain ⟨dx, dy, e1, e2, rfl⟩ := zipD_get e
    obtain ⟨v, v1, v2⟩ := h2.get e1
    obtain ⟨w, w1, w2⟩ := g2.get e2
    refine ⟨⟨xs, ys, v, w, .of h1, .of g1, v1, w1⟩, fun x H'' y => ?_⟩
    obtain ⟨T, p, q, rfl, hT, rfl, y1, y2⟩ := y
    have q1 := y1 xs (.of h1)
    have q2 := y2 ys (.of g1)
    rw [v1] at q1
    rw [w1] at q2
    cases q1
    cases q2
    exact pair_new R' hT v2 w2
  · rw [zipD_len, ← h2.length, ← g2.length]
    omega
theorem itzT_items {a b : Addr} {ds es : List D} (h : TupAt C' σ H ρ a ds) (g : TupAt C' σ H ρ b es) : ItemsAt C' (ItzT X.K a b) σ H ρ (zipD ds es) := fun C'' σ' H' ρ' le R' ev => by
  obtain ⟨xs, h1, h2⟩ := h C'' σ' H' ρ' le R' ev
  obtain ⟨ys, g1, g2⟩ := g C'' σ' H' ρ' le R' ev
  refine ⟨fun i d e => ?_, xs, ys, .of h1, .of g1, ?_⟩
  · obtain ⟨dx, dy, e1, e2, rfl⟩ := zipD_get e
    obtain ⟨v, v1, v2⟩ := h2.get e1
    obtain ⟨w, w1, w2⟩ := g2.get e2
    refine ⟨⟨xs, ys, v, w, .of h1, .of g1, v1, w1⟩, fun x H'' y => ?_⟩
    obtain ⟨T, p, q, rfl, hT, rfl, y1, y2⟩ := y
    have q1 := y1 xs (.of h1)
    have q2 := y2 ys (.of g1)
    rw [v1] at q1
    rw [w1] at q2
    cases q1
    cases q2
    exact pair_new R' hT v2 w2
  · rw [zipD_len, ← h2.length, ← g2.length]
    omega
theorem ite_items {a : Addr} {ds : List D} (h : ListAt C' σ H ρ a ds) : ItemsAt C' (Ite X.K a) σ H ρ (enumD 0 ds) := fun C'' σ' H' ρ' le R' ev => by
  obtain ⟨xs, h1, h2⟩ := h C'' σ' H' ρ' le R' ev
  refine ⟨fun i d e => ?_, xs, .of h1, by rw [enumD_len, h2.length]; exact Nat.le_refl _⟩
  obtain ⟨dx, e1, rfl⟩ := enumD_get e
  obtain ⟨v, v1, v2⟩ := h2.get e1
  refine ⟨⟨xs, v, .of h1, v1⟩, fun x H'' y => ?_⟩
  obtain ⟨T, p, rfl, hT, rfl, y1⟩ := y
  have q1 := y1 xs (.of h1)
  rw [v1] at q1
  cases q1
  rw [Nat.zero_add]
  exact pair_new R' hT (.int _) v2
theorem iteT_items {a : Addr} {ds : List D} (h : TupAt C' σ H ρ a ds) : ItemsAt C' (IteT X.K a) σ H ρ (enumD 0 ds) := fun C'' σ' H' ρ' le R' ev => by
  obtain ⟨xs, h1, h2⟩ := h C'' σ' H' ρ' le R' ev
  refine ⟨fun i d e => ?_, xs, .of h1, by rw [enumD_len, h2.length]; exact Nat.le_refl _⟩
  obtain ⟨dx, e1, rfl⟩ := enumD_get e
  obtain ⟨v, v1, v2⟩ := h2.get e1
  refine ⟨⟨xs, v, .of h1, v1⟩, fun x H'' y => ?_⟩
  obtain ⟨T, p, rfl, hT, rfl, y1⟩ := y
  have q1 := y1 xs (.of h1)
  rw [v1] at q1
  cases q1
  rw [Nat.zero_add]
  exact pair_new R' hT (.int _) v2
theorem itv_items {a : Addr} {ds : List D} (h : ListAt C' σ H ρ a ds) : ItemsAt C' (Itv X.K a ds.length) σ H ρ ds.reverse := fun C'' σ' H' ρ' le R' ev => by
  obtain ⟨xs, h1, h2⟩ := h C'' σ' H' ρ' le R' ev
  refine ⟨fun i d e => ?_, by show ds.length ≤ ds.reverse.length; rw [List.length_reverse]; exact Nat.le_refl _⟩
  have hl := (List.getElem?_eq_some_iff.mp e).1
  rw [List.length_reverse] at hl
  rw [List.getElem?_reverse hl] at e
  obtain ⟨v, v1, v2⟩ := h2.get e
  refine ⟨⟨hl, xs, v, .of h1, v1⟩, fun x H'' y => ?_⟩
  obtain ⟨rfl, y1⟩ := y
  have q1 := y1 xs (.of h1)
  rw [v1] at q1
  cases q1
  exact ⟨R', .refl _ _, v2⟩
theorem Post.look2 {α β : Type} {R : Hp → En → β → α → Prop} {Q : β → Hp → Prop} {h : Hd} {v : V} {f : D → En → Res α} (p : Post C W σ H ρ R Q ((h.look ρ).bind f)) (Re : Rel C σ H ρ) (r : HdR σ H (Pw C σ ρ) v h) :
    ∃ x, h.look ρ = .ok x ρ ∧ BorN H (Pw C σ ρ) v x ∧ Post C W σ H ρ R Q (f x ρ) := by
  obtain ⟨x, ρ1, e, q⟩ := p.pure fun _ _ _ => look_exc
  obtain ⟨e1, b⟩ := look_ok Re e r
  subst e1
  exact ⟨x, e, b, q⟩
/-- x in e -/
theorem si_seq {tg e : Expr} {m : En → Res Hd} {vs : List Nat} (h : SH X C W e m) (hv : ∀ ρ i ρ', m ρ = .ok (.b i) ρ' → i ∈ vs) :
    SI X C W tg e vs (fun ρ => (m ρ).bind fun h ρ => (h.look ρ).bind fun x ρ => opt x.items ρ) := by
  obtain ⟨t, h1, h2⟩ := h
  refine ⟨_, pi_or (pi_list h1) (pi_tup h1), fun σ H ρ Q R h => ?_⟩
  replace h : Post C W σ H ρ (ItR C vs σ) Q ((m ρ).bind fun h ρ => (h.look ρ).bind fun x ρ => opt x.items ρ) := h
  have h2' := h2 σ H ρ
  cases q : m ρ with
  | bad => rw [q] at h; exact h.elim
  | exc c x ρ1 =>
    rw [q] at h h2'
    exact .inl (h2' _ R h)
  | ok hd ρ1 =>
    rw [q] at h h2'
    cases q2 : hd.look ρ1 with
    | bad => simp only [q2, Res.bind] at h; exact h.elim
    | exc c x ρ2 => exact absurd q2 look_exc
    | ok x ρ2 =>
      simp only [q2, Res.bind] at h
      cases x with
      | lst ds =>
        refine .inl (h2' _ R ?_)
        intro v H1 R1 e1 d1
        obtain ⟨e8, b1⟩ := look_ok R1 q2 d1
        subst e8
        obtain ⟨a, e3, ⟨xs, e4, e5⟩, e6⟩ := listAt_of R1 (vs := vs) q2 d1 fun i e => hv ρ i _ (by rw [q, e])
        refine ⟨a, e3, ⟨xs, .of e4⟩, ?_⟩
        exact h _ H1 R1 e1 (itl_items e6)
      | tup ds =>
        refine .inr (h2' _ R ?_)
        intro v H1 R1 e1 d1
        obtain ⟨e8, b1⟩ := look_ok R1 q2 d1
        subst e8
        obtain ⟨a, e3, ⟨xs, e4, e5⟩, e6⟩ := tupAt_of R1 (vs := vs) b1
        refine ⟨a, e3, ⟨xs, .of e4⟩, ?_⟩
        exact h _ H1 R1 e1 (itt_items e6)
      | _ => exact h.elim
theorem smallI_ok {i : Int} (h : smallI i = true) : -(2 ^ 62) ≤ i ∧ i < 2 ^ 62 := by
  unfold smallI at h
  rw [Nat.blt_eq] at h
  omega
theorem rng1D_some {a : D} {x : List D} (h : rng1D a = some x) : ∃ j, a = .int j ∧ smallI j = true ∧ x = rangeD 0 1 j.toNat := by
  cases a with
  | int j =>
    by_cases hj : smallI j = true
    · simp only [rng1D, if_pos hj] at h; cases h; exact ⟨j, rfl, hj, rfl⟩
    · simp only [rng1D, if_neg hj] at h; cases h
  | _ => simp [rng1D] at h
theorem rng2D_some {a b : D} {x : List D} (h : rng2D a b = some x) : ∃ i j, a = .int i ∧ b = .int j ∧ (smallI i = true ∧ smallI j = true) ∧ x = rangeD i 1 (j - i).toNat := by
  cases a with
  | int i =>
    cases b with
    | int j =>
      by_cases hj : smallI i = true ∧ smallI j = true
      · simp only [rng2D, if_pos hj] at h; cases h; exact ⟨i, j, rfl, rfl, hj, rfl⟩
      · simp only [rng2D, if_neg hj] at h; cases h
    | _ => simp [rng2D] at h
  | _ => simp [rng2D] at h
theorem rng3D_some {a b c : D} {x : List D} (h : rng3D a b c = some x) : ∃ i j, a = .int i ∧ b = .int j ∧ c = .int (-1) ∧ (smallI i = true ∧ smallI j = true) ∧ x = rangeD i (-1) (i - j).toNat := by
  cases a with
  | int i =>
    cases b with
    | int j =>
      cases c with
      | int c =>
        by_cases hj : smallI i = true ∧ smallI j = true ∧ c = -1
        · simp only [rng3D, if_pos hj] at h; cases h; exact ⟨i, j, rfl, rfl, by rw [hj.2.2], ⟨hj.1, hj.2.1⟩, rfl⟩
        · simp only [rng3D, if_neg hj] at h; cases h
      | _ => simp [rng3D] at h
    | _ => simp [rng3D] at h
  | _ => simp [rng3D] at h
theorem si_rng1 {tg e : Expr} {p pos : Pos} {m : En → Res D} {vs : List Nat} (hg : Gl X "range") (hm : X.mg "range" = none) (h : SE X C W e m) (hs : starEach [e] X.env = [(false, eval e X.env)]) :
    SI X C W tg (.Call (.Name "range" p) [e] [] pos) vs (fun ρ => (m ρ).bind fun x ρ => opt (rng1D x) ρ) := by
  obtain ⟨t, h1, h2⟩ := h
  refine ⟨_, pi_range1 hg hm (pa_cons h1 pa_nil hs) hs, fun σ H ρ Q R h => ?_⟩
  refine h2 σ H ρ _ R (h.bind fun a ρ1 b H1 R1 e1 d1 h => ?_)
  obtain ⟨x, e2, h⟩ := h.opt1
  obtain ⟨j, rfl, hj, rfl⟩ := rng1D_some e2
  obtain ⟨j1, j2⟩ := smallI_ok hj
  cases d1
  exact ⟨j, rfl, j1, j2, h.here R1 itr_items⟩
theorem si_rng2 {tg e e2 : Expr} {p pos : Pos} {m m2 : En → Res D} {vs : List Nat} (hg : Gl X "range") (hm : X.mg "range" = none) (h : SE X C W e m) (h' : SE X C W e2 m2)
    (hs : starEach [e, e2] X.env = (false, eval e X.env) :: starEach [e2] X.env) (hs2 : starEach [e2] X.env = [(false, eval e2 X.env)]) :
    SI X C W tg (.Call (.Name "range" p) [e, e2] [] pos) vs (fun ρ => (m ρ).bind fun x ρ => (m2 ρ).bind fun y ρ => opt (rng2D x y) ρ) := by
  obtain ⟨t, h1, h2⟩ := h
  obtain ⟨u, g1, g2⟩ := h'
  refine ⟨_, pi_range2 hg hm (pa_cons h1 (pa_cons g1 pa_nil hs2) hs) (by rw [hs, hs2]) hs2, fun σ H ρ Q R h => ?_⟩
  refine h2 σ H ρ _ R (h.bind fun a ρ1 v H1 R1 e1 d1 h => ?_)
  refine g2 σ H1 ρ1 _ R1 (h.bind fun b ρ2 w H2 R2 e2 d2 h => ?_)
  obtain ⟨x, e3, h⟩ := h.opt1
  obtain ⟨i, j, rfl, rfl, hj, rfl⟩ := rng2D_some e3
  obtain ⟨i1, i2⟩ := smallI_ok hj.1
  obtain ⟨j1, j2⟩ := smallI_ok hj.2
  cases d1
  cases d2
  exact ⟨i, j, rfl, ⟨i1, i2, j1, j2⟩, h.here R2 itr_items⟩
theorem si_rng3 {tg e e2 e3 : Expr} {p pos : Pos} {m m2 m3 : En → Res D} {vs : List Nat} (hg : Gl X "range") (hm : X.mg "range" = none) (h : SE X C W e m) (h' : SE X C W e2 m2) (h'' : SE X C W e3 m3)
    (hs : starEach [e, e2, e3] X.env = (false, eval e X.env) :: starEach [e2, e3] X.env) (hs2 : starEach [e2, e3] X.env = (false, eval e2 X.env) :: starEach [e3] X.env) (hs3 : starEach [e3] X.env = [(false, eval e3 X.env)]) :
    SI X C W tg (.Call (.Name "range" p) [e, e2, e3] [] pos) vs (fun ρ => (m ρ).bind fun x ρ => (m2 ρ).bind fun y ρ => (m3 ρ).bind fun z ρ => opt (rng3D x y z) ρ) := by
  obtain ⟨t, h1, h2⟩ := h
  obtain ⟨u, g1, g2⟩ := h'
  obtain ⟨w, k1, k2⟩ := h''
  refine ⟨_, pi_range3 hg hm (pa_cons h1 (pa_cons g1 (pa_cons k1 pa_nil hs3) hs2) hs) hs (by rw [hs2, hs3]; rfl), fun σ H ρ Q R h => ?_⟩
  refine h2 σ H ρ _ R (h.bind fun a ρ1 v H1 R1 e1 d1 h => ?_)
  refine g2 σ H1 ρ1 _ R1 (h.bind fun b ρ2 w H2 R2 e2 d2 h => ?_)
  refine k2 σ H2 ρ2 _ R2 (h.bind fun c ρ3 w H3 R3 e3 d3 h => ?_)
  obtain ⟨x, e4, h⟩ := h.opt1
  obtain ⟨i, j, rfl, rfl, rfl, hj, rfl⟩ := rng3D_some e4
  obtain ⟨i1, i2⟩ := smallI_ok hj.1
  obtain ⟨j1, j2⟩ := smallI_ok hj.2
  cases d1
  cases d2
  cases d3
  exact ⟨i, j, -1, _, rfl, RgC.neg i1 i2 j1 j2, h.here R3 itc_items⟩
/-- zip of two -/
theorem si_zip {elts : List Expr} {kk : Nat} {tpos : Pos} {e e2 : Expr} {p pos : Pos} {m m2 : En → Res Hd} {vs : List Nat} (hg : Gl X "zip") (hm : X.mg "zip" = none) (h : SH X C W e m) (h' : SH X C W e2 m2)
    (hv : ∀ ρ i ρ', m ρ = .ok (.b i) ρ' → i ∈ vs) (hv2 : ∀ ρ i ρ', m2 ρ = .ok (.b i) ρ' → i ∈ vs)
    (hs : starEach [e, e2] X.env = (false, eval e X.env) :: starEach [e2] X.env) (hs2 : starEach [e2] X.env = [(false, eval e2 X.env)]) :
    SI X C W (.Tuple elts kk tpos) (.Call (.Name "zip" p) [e, e2] [] pos) vs (fun ρ => (m ρ).bind fun h ρ => (m2 ρ).bind fun g ρ => (h.look ρ).bind fun x ρ => (g.look ρ).bind fun y ρ => opt (zipO x y) ρ) := by
  obtain ⟨t, h1, h2⟩ := h
  obtain ⟨u, g1, g2⟩ := h'
  refine ⟨_, pi_zipA hg hm (pa_cons h1 (pa_cons g1 pa_nil hs2) hs) hs (by rw [hs2]; rfl), fun σ H ρ Q R h => ?_⟩
  replace h : Post C W σ H ρ (ItR C vs σ) Q ((m ρ).bind fun h ρ => (m2 ρ).bind fun g ρ => (h.look ρ).bind fun x ρ => (g.look ρ).bind fun y ρ => opt (zipO x y) ρ) := h
  have h2' := h2 σ H ρ
  cases q : m ρ with
  | bad => rw [q] at h; exact h.elim
  | exc c x ρ1 =>
    rw [q] at h h2'
    exact h2' _ R h
  | ok hd ρ1 =>
    rw [q] at h h2'
    simp only [Res.bind] at h
    refine h2' _ R fun v H1 R1 e1 d1 => ?_
    have h := Post.from e1 h
    have g2' := g2 σ H1 ρ1
    cases q2 : m2 ρ1 with
    | bad => rw [q2] at h; exact h.elim
    | exc c x ρ2 =>
      rw [q2] at h g2'
      exact g2' _ R1 h
    | ok gd ρ2 =>
      rw [q2] at h g2'
      simp only [Res.bind] at h
      refine g2' _ R1 fun w H2 R2 e2 d2 => ?_
      have h := Post.from e2 h
      have d1' := HdR.evo e2 d1
      obtain ⟨x, l1, b1, h⟩ := h.look2 R2 d1'
      obtain ⟨y, l2, b2, h⟩ := h.look2 R2 d2
      obtain ⟨z, e3, h⟩ := h.opt1
      cases x with
      | lst xs =>
        cases y with
        | lst ys =>
          cases e3
          obtain ⟨a, rfl, ⟨us, a2, a3⟩, a4⟩ := listAt_of R2 (vs := vs) l1 d1' fun i e => hv ρ i _ (by rw [q, e])
          obtain ⟨b, rfl, ⟨ws, c2, c3⟩, c4⟩ := listAt_of R2 (vs := vs) l2 d2 fun i e => hv2 ρ1 i _ (by rw [q2, e])
          exact ⟨a, b, us, ws, rfl, .inl ⟨.of a2, .of c2, h.here R2 (itz_items a4 c4)⟩⟩
        | _ => cases e3
      | tup xs =>
        cases y with
        | tup ys =>
          cases e3
          obtain ⟨a, rfl, ⟨us, a2, a3⟩, a4⟩ := tupAt_of R2 (vs := vs) b1
          obtain ⟨b, rfl, ⟨ws, c2, c3⟩, c4⟩ := tupAt_of R2 (vs := vs) b2
          exact ⟨a, b, us, ws, rfl, .inr ⟨.of a2, .of c2, h.here R2 (itzT_items a4 c4)⟩⟩
        | _ => cases e3
      | _ => cases e3
/-- enumerate, reversed: of a list -/
theorem si_enum {elts : List Expr} {kk : Nat} {tpos : Pos} {e : Expr} {p pos : Pos} {m : En → Res Hd} {vs : List Nat} (hg : Gl X "enumerate") (hm : X.mg "enumerate" = none) (h : SH X C W e m)
    (hv : ∀ ρ i ρ', m ρ = .ok (.b i) ρ' → i ∈ vs) (hs : starEach [e] X.env = [(false, eval e X.env)]) :
    SI X C W (.Tuple elts kk tpos) (.Call (.Name "enumerate" p) [e] [] pos) vs (fun ρ => (m ρ).bind fun h ρ => (h.look ρ).bind fun x ρ => opt (x.items.map (enumD 0)) ρ) := by
  obtain ⟨t, h1, h2⟩ := h
  refine ⟨_, pi_enumA hg hm (pa_cons h1 pa_nil hs) hs, fun σ H ρ Q R h => ?_⟩
  replace h : Post C W σ H ρ (ItR C vs σ) Q ((m ρ).bind fun h ρ => (h.look ρ).bind fun x ρ => opt (x.items.map (enumD 0)) ρ) := h
  have h2' := h2 σ H ρ
  cases q : m ρ with
  | bad => rw [q] at h; exact h.elim
  | exc c x ρ1 =>
    rw [q] at h h2'
    exact h2' _ R h
  | ok hd ρ1 =>
    rw [q] at h h2'
    simp only [Res.bind] at h
    refine h2' _ R fun v H1 R1 e1 d1 => ?_
    have h := Post.from e1 h
    obtain ⟨x, l1, b1, h⟩ := h.look2 R1 d1
    obtain ⟨z, e3, h⟩ := h.opt1
    cases x with
    | lst xs =>
      cases e3
      obtain ⟨a, rfl, ⟨us, a2, a3⟩, a4⟩ := listAt_of R1 (vs := vs) l1 d1 fun i e => hv ρ i _ (by rw [q, e])
      exact ⟨a, us, rfl, .inl ⟨.of a2, h.here R1 (ite_items a4)⟩⟩
    | tup xs =>
      cases e3
      obtain ⟨a, rfl, ⟨us, a2, a3⟩, a4⟩ := tupAt_of R1 (vs := vs) b1
      exact ⟨a, us, rfl, .inr ⟨.of a2, h.here R1 (iteT_items a4)⟩⟩
    | _ => cases e3
theorem si_rev {tg e : Expr} {p pos : Pos} {m : En → Res Hd} {vs : List Nat} (hg : Gl X "reversed") (hm : X.mg "reversed" = none) (h : SH X C W e m)
    (hv : ∀ ρ i ρ', m ρ = .ok (.b i) ρ' → i ∈ vs) (hs : starEach [e] X.env = [(false, eval e X.env)]) :
    SI X C W tg (.Call (.Name "reversed" p) [e] [] pos) vs (fun ρ => (m ρ).bind fun h ρ => (h.look ρ).bind fun x ρ => opt ((asListO x).map List.reverse) ρ) := by
  obtain ⟨t, h1, h2⟩ := h
  refine ⟨_, pi_reversed hg hm (pa_cons h1 pa_nil hs) hs, fun σ H ρ Q R h => ?_⟩
  replace h : Post C W σ H ρ (ItR C vs σ) Q ((m ρ).bind fun h ρ => (h.look ρ).bind fun x ρ => opt ((asListO x).map List.reverse) ρ) := h
  have h2' := h2 σ H ρ
  cases q : m ρ with
  | bad => rw [q] at h; exact h.elim
  | exc c x ρ1 =>
    rw [q] at h h2'
    exact h2' _ R h
  | ok hd ρ1 =>
    rw [q] at h h2'
    simp only [Res.bind] at h
    refine h2' _ R fun v H1 R1 e1 d1 => ?_
    have h := Post.from e1 h
    obtain ⟨x, l1, b1, h⟩ := h.look2 R1 d1
    obtain ⟨z, e3, h⟩ := h.opt1
    cases x with
    | lst xs =>
      cases e3
      obtain ⟨a, rfl, ⟨us, a2, a3⟩, a4⟩ := listAt_of R1 (vs := vs) l1 d1 fun i e => hv ρ i _ (by rw [q, e])
      refine ⟨a, us, rfl, .of a2, ?_⟩
      rw [a3.length]
      exact h.here R1 (itv_items a4)
    | _ => cases e3
end
end Sm
end

section
set_option Elab.async false
set_option linter.all false
set_option autoImplicit false
set_option maxRecDepth 100000
/-! Sm12: a list comprehension. -/
namespace Sm
open PySem PySem.Spec PyProof.Rows L2
abbrev W0 : WX := fun _ _ _ _ => False
section
variable {X : Cx} {C C' : Fc} {W : WX} {σ : L2.St} {H H' : Hp} {ρ ρ' : En}
/-- one reading for a family of contexts and frames -/
theorem SE.all {ι κ : Type} {X : ι → Cx} {C : κ → Fc} {e : Expr} {m : En → Res D} (h : ∀ i j, SE (X i) (C j) W e m) : ∃ t, (∀ i, PE (X i) e t) ∧ ∀ j, Sim (C j) W (DatR (C j)) t m :=
  ⟨fun σ H Q => ∃ j, ∀ i, (h i j).choose σ H Q, fun i => ⟨fun pins s σ H Q I ⟨j, q⟩ => (h i j).choose_spec.1.run pins s σ H Q I (q i)⟩, fun j σ H ρ Q R p => ⟨j, fun i => (h i j).choose_spec.2 σ H ρ Q R p⟩⟩
/-- the tests of a comprehension -/
def SIf (X : Cx) (C : Fc) (W : WX) (es : List Expr) (m : En → Res Bool) : Prop := ∃ t, PTs X es t ∧ Sim C W (fun _ => BoolR) t m
theorem sif_nil : SIf X C W [] (fun ρ => .ok true ρ) := ⟨_, pts_nil, fun σ H ρ Q R h => h.here R rfl⟩
theorem sif_one {e : Expr} {m : En → Res Bool} (h : ST X C W e m) : SIf X C W [e] m := let ⟨t, h1, h2⟩ := h; ⟨t, pts_one h1, h2⟩
theorem SIf.all {ι κ : Type} {X : ι → Cx} {C : κ → Fc} {e : List Expr} {m : En → Res Bool} (h : ∀ i j, SIf (X i) (C j) W e m) : ∃ t, (∀ i, PTs (X i) e t) ∧ ∀ j, Sim (C j) W (fun _ => BoolR) t m :=
  ⟨fun σ H Q => ∃ j, ∀ i, (h i j).choose σ H Q, fun i => ⟨fun pins s σ H Q I ⟨j, q⟩ => (h i j).choose_spec.1.run pins s σ H Q I (q i)⟩, fun j σ H ρ Q R p => ⟨j, fun i => (h i j).choose_spec.2 σ H ρ Q R p⟩⟩
/-- what a target's reading does -/
def GOk (C : Fc) (t : Tg) (g : TG) : Prop := ∀ (σ : L2.St) (H : Hp) (ρ : En) (v : V) (d : D) (u : Unit) (ρ' : En) (Q : L2.St → Hp → Prop), Rel C σ H ρ → Dat H (Pw C σ ρ) v d → t.put d ρ = .ok u ρ' →
  (∀ σ', Rel C σ' H ρ' → Evo (Pw C σ ρ) H (Pw C σ' ρ') H → Out t.slots σ σ' → Q σ' H) → g v σ H Q
theorem STt.all {ι κ : Type} {X : ι → Cx} {C : κ → Fc} {e : Expr} {t : Tg} (h : ∀ i j, STt (X i) (C j) e t) : ∃ g, (∀ i, PG (X i) e g) ∧ ∀ j, GOk (C j) t g :=
  ⟨fun v σ H Q => ∃ j, ∀ i, (h i j).choose v σ H Q, fun i => ⟨fun pins s σ H v u Q I r ⟨j, q⟩ => (h i j).choose_spec.1.run pins s σ H v u Q I r (q i)⟩, fun j σ H ρ v d u ρ' Q R hd hp k => ⟨j, fun i => (h i j).choose_spec.2 σ H ρ v d u ρ' Q R hd hp k⟩⟩
/-! ### slots forgotten -/
theorem wipeE_get : ∀ (vs : List Nat) (ρ : En) (j : Nat), (wipeE ρ vs)[j]? = if j ∈ vs then (ρ[j]?).map (fun _ => .un) else ρ[j]?
  | [], ρ, j => by simp [wipeE]
  | v :: vs, ρ, j => by
    unfold wipeE
    have ih := wipeE_get vs ρ
    have hl : ∀ ws : List Nat, (wipeE ρ ws).length = ρ.length := fun ws => by
      induction ws with
      | nil => rfl
      | cons w ws ih => unfold wipeE; rw [List.length_set, ih]
    by_cases e : j = v
    · subst e
      rw [if_pos List.mem_cons_self]
      by_cases h : j < ρ.length
      · rw [List.getElem?_set_self (by rw [hl]; exact h), List.getElem?_eq_getElem h]
        rfl
      · rw [List.getElem?_eq_none (by rw [List.length_set, hl]; omega), List.getElem?_eq_none (by omega)]
        rfl
    · rw [setV_ne e, ih j]
      by_cases m : j ∈ vs
      · rw [if_pos m, if_pos (List.mem_cons_of_mem _ m)]
      · rw [if_neg m, if_neg fun z => (List.mem_cons.mp z).elim e m]
theorem wipeE_some {vs : List Nat} {j : Nat} {s : Sl} (h : (wipeE ρ vs)[j]? = some s) : (j ∈ vs ∧ s = .un) ∨ (j ∉ vs ∧ ρ[j]? = some s) := by
  rw [wipeE_get] at h
  by_cases m : j ∈ vs
  · rw [if_pos m] at h
    obtain ⟨_, _, h2⟩ := Option.map_eq_some_iff.mp h
    exact .inl ⟨m, h2.symm⟩
  · rw [if_neg m] at h
    exact .inr ⟨m, h⟩
theorem wipeE_length {vs : List Nat} : (wipeE ρ vs).length = ρ.length := by
  induction vs with
  | nil => rfl
  | cons w ws ih => unfold wipeE; rw [List.length_set, ih]
theorem wipe_out {vs : List Nat} {j : Nat} (h : j ∉ vs) : (wipe σ vs)[j]? = σ[j]? := by rw [wipe_get, if_neg h]
theorem wipe_wipe {vs : List Nat} : wipe (wipe σ vs) vs = wipe σ vs := by
  apply List.ext_getElem?
  intro j
  rw [wipe_get]
  by_cases m : j ∈ vs
  · rw [if_pos m, wipe_get, if_pos m]
    cases σ[j]? <;> rfl
  · rw [if_neg m]
theorem wipe_own {vs : List Nat} {a : Addr} (o : OwnAt (wipe σ vs) (wipeE ρ vs) a) : OwnAt σ ρ a := by
  obtain ⟨i, s, e, o, q⟩ := o
  rcases wipeE_some e with ⟨_, rfl⟩ | ⟨m, e⟩
  · cases o
  · exact ⟨i, s, e, o, by rw [wipe_out m] at q; exact q⟩
theorem Rel.wipe (R : Rel C σ H ρ) {vs : List Nat} (hI : ∀ p ∈ C.I, p.1 ∉ vs) (hL : ∀ p ∈ C.L, p.1 ∉ vs) :
    Rel C (L2.wipe σ vs) H (wipeE ρ vs) ∧ Evo (Pw C σ ρ) H (Pw C (L2.wipe σ vs) (wipeE ρ vs)) H := by
  have ev : Evo (Pw C σ ρ) H (Pw C (L2.wipe σ vs) (wipeE ρ vs)) H := .less fun b z => z.imp id wipe_own
  refine ⟨⟨R.ok, by rw [wipe_length, wipeE_length]; exact R.len, fun j s e => ?_, fun i j s t a e1 e2 o1 o2 g1 g2 => ?_, R.frm, R.evo.trans ev, fun p hp => ?_, fun i s e o => ?_, R.lim, fun p hp => ?_, R.bld, fun p hp o => R.bown p hp (wipe_own o)⟩, ev⟩
  · rcases wipeE_some e with ⟨_, rfl⟩ | ⟨m, e'⟩
    · trivial
    · rw [wipe_out m]
      have z := R.slot j s e'
      cases s with
      | un => exact z
      | dat d => obtain ⟨v, e1, e2⟩ := z; exact ⟨v, e1, e2.evo ev⟩
      | own ds => obtain ⟨a, xs, e1, e2, e3, e4⟩ := z; exact ⟨a, xs, e1, e2, e3.evo ev, e4⟩
      | lk ds => obtain ⟨a, xs, e1, e2, e3, e4⟩ := z; exact ⟨a, xs, e1, e2, e3.evo ev, e4⟩
      | io ds => obtain ⟨a, xs, e1, e2, e3, e4⟩ := z; exact ⟨a, xs, e1, e2, e3.evo ev, e4⟩
      | lki ds => obtain ⟨a, xs, e1, e2, e3, e4⟩ := z; exact ⟨a, xs, e1, e2, e3.evo ev, e4⟩
      | bor d => exact z
      | scr d => exact z
  · rcases wipeE_some e1 with ⟨_, rfl⟩ | ⟨m1, e1'⟩
    · cases o1
    · rcases wipeE_some e2 with ⟨_, rfl⟩ | ⟨m2, e2'⟩
      · cases o2
      · rw [wipe_out m1] at g1
        rw [wipe_out m2] at g2
        exact R.inj i j s t a e1' e2' o1 o2 g1 g2
  · obtain ⟨h1, s, h2, h3⟩ := R.io p hp
    have m := hI p hp
    exact ⟨by rw [wipe_out m]; exact h1, s, by rw [wipeE_get, if_neg m]; exact h2, h3⟩
  · rcases wipeE_some e with ⟨_, rfl⟩ | ⟨m, e'⟩
    · cases o
    · exact R.ioI i s e' o
  · obtain ⟨h1, h2⟩ := R.lk p hp
    have m := hL p hp
    exact ⟨by rw [wipeE_get, if_neg m]; exact h1, by rw [wipe_out m]; exact h2⟩
theorem backE_get (ρ0 : En) : ∀ (vs : List Nat) (ρ : En) (j : Nat), (backE ρ ρ0 vs)[j]? = if j ∈ vs then (ρ[j]?).map (fun _ => ρ0.getD j .un) else ρ[j]?
  | [], ρ, j => by simp [backE]
  | v :: vs, ρ, j => by
    unfold backE
    have ih := backE_get ρ0 vs ρ
    have hl : ∀ ws : List Nat, (backE ρ ρ0 ws).length = ρ.length := fun ws => by
      induction ws with
      | nil => rfl
      | cons w ws ih => unfold backE; rw [List.length_set, ih]
    by_cases e : j = v
    · subst e
      rw [if_pos List.mem_cons_self]
      by_cases h : j < ρ.length
      · rw [List.getElem?_set_self (by rw [hl]; exact h), List.getElem?_eq_getElem h]
        rfl
      · rw [List.getElem?_eq_none (by rw [List.length_set, hl]; omega), List.getElem?_eq_none (by omega)]
        rfl
    · rw [setV_ne e, ih j]
      by_cases m : j ∈ vs
      · rw [if_pos m, if_pos (List.mem_cons_of_mem _ m)]
      · rw [if_neg m, if_neg fun z => (List.mem_cons.mp z).elim e m]
theorem backE_length {ρ0 : En} {ws : List Nat} : (backE ρ ρ0 ws).length = ρ.length := by
  induction ws with
  | nil => rfl
  | cons w ws ih => unfold backE; rw [List.length_set, ih]
theorem backE_some {ρ0 : En} {vs : List Nat} {j : Nat} {s : Sl} (hl : ρ.length = ρ0.length) (h : (backE ρ ρ0 vs)[j]? = some s) : (j ∈ vs ∧ ρ0[j]? = some s) ∨ (j ∉ vs ∧ ρ[j]? = some s) := by
  rw [backE_get] at h
  by_cases m : j ∈ vs
  · rw [if_pos m] at h
    obtain ⟨x, h1, h2⟩ := Option.map_eq_some_iff.mp h
    have hj := (List.getElem?_eq_some_iff.mp h1).1
    rw [hl] at hj
    rw [List.getD_eq_getElem?_getD, List.getElem?_eq_getElem hj] at h2
    refine .inl ⟨m, ?_⟩
    rw [List.getElem?_eq_getElem hj]
    exact congrArg some h2
  · rw [if_neg m] at h
    exact .inr ⟨m, h⟩
theorem ownFree_get {vs : List Nat} (h : ownFree ρ vs = true) {j : Nat} (m : j ∈ vs) : ∃ s, ρ[j]? = some s ∧ s.isOwn = false ∧ (s = .un ∨ (∃ d, s = .dat d) ∨ ∃ d, s = .bor d) := by
  have q := List.all_eq_true.mp h j m
  split at q
  · rename_i e; exact ⟨_, e, rfl, .inl rfl⟩
  · rename_i d e; exact ⟨_, e, rfl, .inr (.inl ⟨d, rfl⟩)⟩
  · rename_i d e; exact ⟨_, e, rfl, .inr (.inr ⟨d, rfl⟩)⟩
  · cases q
/-- behind a block: its own slots as they were ahead of it -/
theorem back_own {ρ0 : En} {vs : List Nat} (hl : ρ.length = ρ0.length) (f : ownFree ρ0 vs = true) (a : Addr) : OwnAt σ (backE ρ ρ0 vs) a ↔ OwnAt (L2.wipe σ vs) ρ a := by
  constructor
  · rintro ⟨i, s, e, o, q⟩
    rcases backE_some hl e with ⟨m, e'⟩ | ⟨m, e'⟩
    · obtain ⟨t, e2, o2, _⟩ := ownFree_get f m
      rw [e'] at e2
      cases e2
      rw [o] at o2
      cases o2
    · exact ⟨i, s, e', o, by rw [wipe_out m]; exact q⟩
  · rintro ⟨i, s, e, o, q⟩
    obtain ⟨q1, m⟩ := wipe_some q
    exact ⟨i, s, by rw [backE_get, if_neg m]; exact e, o, q1⟩
theorem back_pw {ρ0 : En} {vs : List Nat} (hl : ρ.length = ρ0.length) (f : ownFree ρ0 vs = true) : Pw C σ (backE ρ ρ0 vs) = Pw C (L2.wipe σ vs) ρ := by
  funext a
  exact propext ⟨fun z => z.imp id (back_own hl f a).mp, fun z => z.imp id (back_own hl f a).mpr⟩
theorem Rel.back {H0 : Hp} {ρ0 : En} {vs : List Nat} (R0 : Rel C σ H0 ρ0) (R : Rel C (L2.wipe σ vs) H ρ) (f : ownFree ρ0 vs = true) (ev : Evo (Pw C σ ρ0) H0 (Pw C (L2.wipe σ vs) ρ) H) : Rel C σ H (backE ρ ρ0 vs) := by
  have hl : ρ.length = ρ0.length := by rw [← R.len, wipe_length, R0.len]
  have eP : Pw C σ (backE ρ ρ0 vs) = Pw C (L2.wipe σ vs) ρ := back_pw hl f
  refine ⟨R.ok, by rw [backE_length, hl]; exact R0.len, fun j s e => ?_, fun i j s t a e1 e2 o1 o2 g1 g2 => ?_, R.frm, by rw [eP]; exact R.evo, fun p hp => ?_, fun i s e o => ?_, R.lim, fun p hp => ?_, R.bld, fun p hp o => R.bown p hp ((back_own hl f _).mp o)⟩
  · rw [eP]
    rcases backE_some hl e with ⟨m, e'⟩ | ⟨m, e'⟩
    · obtain ⟨t, e2, o2, k⟩ := ownFree_get f m
      rw [e'] at e2
      cases e2
      have z := R0.slot j s e'
      rcases k with rfl | ⟨d, rfl⟩ | ⟨d, rfl⟩
      · trivial
      · obtain ⟨v, z1, z2⟩ := z; exact ⟨v, z1, z2.evo ev⟩
      · exact z
    · have z := R.slot j s e'
      rw [wipe_out m] at z
      exact z
  · rcases backE_some hl e1 with ⟨m1, e1'⟩ | ⟨m1, e1'⟩
    · obtain ⟨t', q1, q2, _⟩ := ownFree_get f m1
      rw [e1'] at q1; cases q1; rw [o1] at q2; cases q2
    · rcases backE_some hl e2 with ⟨m2, e2'⟩ | ⟨m2, e2'⟩
      · obtain ⟨t', q1, q2, _⟩ := ownFree_get f m2
        rw [e2'] at q1; cases q1; rw [o2] at q2; cases q2
      · exact R.inj i j s t a e1' e2' o1 o2 (by rw [wipe_out m1]; exact g1) (by rw [wipe_out m2]; exact g2)
  · obtain ⟨h1, s, h2, h3⟩ := R.io p hp
    obtain ⟨h4, m⟩ := wipe_some h1
    exact ⟨h4, s, by rw [backE_get, if_neg m]; exact h2, h3⟩
  · rcases backE_some hl e with ⟨m1, e'⟩ | ⟨m1, e'⟩
    · obtain ⟨t', q1, q2, _⟩ := ownFree_get f m1
      rw [e'] at q1; cases q1
      have : s.isOwn = true := by cases s <;> first | rfl | cases o
      rw [this] at q2; cases q2
    · exact R.ioI i s e' o
  · obtain ⟨h1, h2⟩ := R.lk p hp
    obtain ⟨h4, m⟩ := wipe_some h2
    exact ⟨by rw [backE_get, if_neg m]; exact h1, h4⟩
/-! ### the list that is built -/
def Fc.bld (C : Fc) (D : Addr) (ws : List V) : Fc := { C with Ox := fun a => C.Ox a ∨ a = D, B := (D, ws) :: C.B }
theorem bld_le {D : Addr} {ws : List V} (h : C.H0 D = none) : C.Le (C.bld D ws) := ⟨rfl, rfl, rfl, rfl, fun _ h => h, fun _ h => .inl h, fun a z => z.imp id fun z => by rw [z]; exact h⟩
theorem bld_pw {D : Addr} {ws : List V} : Pw (C.bld D ws) σ ρ = fun b => Pw C σ ρ b ∨ b = D := by
  funext a
  exact propext ⟨fun z => z.elim (fun z => z.elim (fun z => .inl (.inl z)) .inr) fun z => .inl (.inr z), fun z => z.elim (fun z => z.elim (fun z => .inl (.inl z)) .inr) fun z => .inl (.inr z)⟩
theorem Rel.bldNew (R : Rel C σ H ρ) {D : Addr} (h : H D = none) : Rel (C.bld D []) σ (upd H D (.lst [])) ρ ∧ Evo (Pw C σ ρ) H (Pw (C.bld D []) σ ρ) (upd H D (.lst [])) := by
  have hD := R.h0 h
  have nO : ¬ OwnAt σ ρ D := fun o => R.dom (.inr o) h
  have ev : Evo (Pw C σ ρ) H (Pw (C.bld D []) σ ρ) (upd H D (.lst [])) := .new h fun b z => by rw [bld_pw] at z; exact z
  have ne : ∀ {a : Addr} {u : HO}, H a = some u → (upd H D (.lst [])) a = some u := fun {a u} e => by rw [upd_ne (ne_of_none e h)]; exact e
  have l : C.Le (C.bld D []) := bld_le hD
  have ev0 : Evo C.Ox C.H0 (C.bld D []).Ox C.H0 := ⟨fun _ _ _ e => e, l.xo, fun _ e => e⟩
  refine ⟨⟨⟨fun a z => ?_, fun p hp => ?_, R.ok.lk⟩, R.len, fun i s e => ?_, R.inj, fun b u e n => ne (R.frm b u e n), ?_, R.io, R.ioI, R.lim.new fun xs z => by rcases z with z | z <;> cases z; exact Nat.zero_le _, R.lk, fun p hp => ?_, fun p hp o => ?_⟩, ev⟩
  · rcases z with z | rfl
    · exact (R.ok.ox a z).imp id fun ⟨p, hp, q⟩ => ⟨p, List.mem_cons_of_mem _ hp, q⟩
    · exact .inr ⟨_, List.mem_cons_self, rfl⟩
  · rcases List.mem_cons.mp hp with rfl | hp
    · exact .inr rfl
    · exact .inl (R.ok.bx p hp)
  · have z := R.slot i s e
    cases s with
    | un => exact z
    | dat d => obtain ⟨v, e1, e2⟩ := z; exact ⟨v, e1, e2.evo ev⟩
    | own ds => obtain ⟨a, xs, e1, e2, e3, e4⟩ := z; exact ⟨a, xs, e1, ne e2, e3.evo ev, e4⟩
    | lk ds => obtain ⟨a, xs, e1, e2, e3, e4⟩ := z; exact ⟨a, xs, e1, ne e2, e3.evo ev, e4⟩
    | io ds => obtain ⟨a, xs, e1, e2, e3, e4⟩ := z; exact ⟨a, xs, e1, ne e2, e3.evo ev, .inl e4⟩
    | lki ds => obtain ⟨a, xs, e1, e2, e3, e4⟩ := z; exact ⟨a, xs, e1, ne e2, e3.evo ev, .inl e4⟩
    | bor d => obtain ⟨v, e1, e2⟩ := z; exact ⟨v, e1, e2.le l⟩
    | scr d => obtain ⟨hz, a, xs, e1, e2, e3, e4⟩ := z; exact ⟨hz, a, xs, e1, e2, e3, e4.evo ev0⟩
  · have q := R.evo.trans ev
    exact ⟨fun b o n e => q.keep b o (fun z => n (.inl z)) e, fun b z => (q.own b z).imp .inl id, q.dom⟩
  · rcases List.mem_cons.mp hp with rfl | hp
    · exact upd_same
    · exact ne (R.bld p hp)
  · rcases List.mem_cons.mp hp with rfl | hp
    · exact nO o
    · exact R.bown p hp o
theorem Rel.bldApp {D : Addr} {ws ws' : List V} (R : Rel (C.bld D ws) σ H ρ) (hB : ∀ p ∈ C.B, p.1 ≠ D) (hD : C.H0 D = none) (hl : ws'.length ≤ sizeLine) :
    Rel (C.bld D ws') σ (upd H D (.lst ws')) ρ ∧ Evo (Pw (C.bld D ws) σ ρ) H (Pw (C.bld D ws') σ ρ) (upd H D (.lst ws')) := by
  have ev : Evo (Pw (C.bld D ws) σ ρ) H (Pw (C.bld D ws') σ ρ) (upd H D (.lst ws')) := .chg (.inl (.inr rfl))
  have nO : ¬ OwnAt σ ρ D := R.bown (D, ws) List.mem_cons_self
  have ne : ∀ {i : Nat} {s : Sl} {a : Addr} {u : HO}, ρ[i]? = some s → s.isOwn = true → σ[i]? = some (some (.ref a)) → H a = some u → (upd H D (.lst ws')) a = some u := fun {i s a u} h1 h2 h3 e => by
    rw [upd_ne fun z => nO (by rw [← z]; exact ⟨i, s, h1, h2, h3⟩)]; exact e
  refine ⟨⟨⟨fun a z => ?_, fun p hp => ?_, R.ok.lk⟩, R.len, fun i s e => ?_, R.inj, fun b u e n => ?_, R.evo.trans ev, R.io, R.ioI, R.lim.new fun xs z => by rcases z with z | z <;> cases z; exact hl, R.lk, fun p hp => ?_, fun p hp o => ?_⟩, ev⟩
  · rcases R.ok.ox a z with z | ⟨p, hp, z⟩
    · exact .inl z
    · rcases List.mem_cons.mp hp with rfl | hp
      · exact .inr ⟨(D, ws'), List.mem_cons_self, z⟩
      · exact .inr ⟨p, List.mem_cons_of_mem _ hp, z⟩
  · rcases List.mem_cons.mp hp with rfl | hp
    · exact .inr rfl
    · exact R.ok.bx p (List.mem_cons_of_mem _ hp)
  · have z := R.slot i s e
    cases s with
    | un => exact z
    | dat d => obtain ⟨v, e1, e2⟩ := z; exact ⟨v, e1, e2.evo ev⟩
    | own ds => obtain ⟨a, xs, e1, e2, e3, e4⟩ := z; exact ⟨a, xs, e1, ne e rfl e1 e2, e3.evo ev, e4⟩
    | lk ds => obtain ⟨a, xs, e1, e2, e3, e4⟩ := z; exact ⟨a, xs, e1, ne e rfl e1 e2, e3.evo ev, e4⟩
    | io ds => obtain ⟨a, xs, e1, e2, e3, e4⟩ := z; exact ⟨a, xs, e1, ne e rfl e1 e2, e3.evo ev, e4⟩
    | lki ds => obtain ⟨a, xs, e1, e2, e3, e4⟩ := z; exact ⟨a, xs, e1, ne e rfl e1 e2, e3.evo ev, e4⟩
    | bor d => exact z
    | scr d => exact z
  · have q := R.frm b u e n
    have hne : b ≠ D := fun z => by
      have e' : C.H0 b = some u := e
      rw [z, hD] at e'
      cases e'
    rw [upd_ne hne]
    exact q
  · rcases List.mem_cons.mp hp with rfl | hp
    · exact upd_same
    · rw [upd_ne (hB p hp)]
      exact R.bld p (List.mem_cons_of_mem _ hp)
  · rcases List.mem_cons.mp hp with rfl | hp
    · exact nO o
    · exact R.bown p (List.mem_cons_of_mem _ hp) o
/-- the list is done: the rest does not lean on it -/
theorem Rel.bldEnd {G : Addr} {ws : List V} (ok : C.Ok) (R : Rel (C.bld G ws) σ H ρ) (hB : ∀ p ∈ C.B, p.1 ≠ G) (hD : C.H0 G = none) : Rel C σ (del H G) ρ := by
  have nO : ¬ OwnAt σ ρ G := R.bown (G, ws) List.mem_cons_self
  have off : ∀ {v : V} {d : D}, Dat H (Pw (C.bld G ws) σ ρ) v d → Dat (del H G) (Pw C σ ρ) v d := fun {v d} h => by rw [bld_pw] at h; exact h.off
  have offL : ∀ {v : List V} {d : List D}, DatL H (Pw (C.bld G ws) σ ρ) v d → DatL (del H G) (Pw C σ ρ) v d := fun {v d} h => by rw [bld_pw] at h; exact h.off
  have nD : ∀ {i : Nat} {s : Sl} {a : Addr}, ρ[i]? = some s → s.isOwn = true → σ[i]? = some (some (.ref a)) → a ≠ G := fun {i s a} h1 h2 h3 z => nO (by rw [← z]; exact ⟨i, s, h1, h2, h3⟩)
  have ne : ∀ {i : Nat} {s : Sl} {a : Addr} {u : HO}, ρ[i]? = some s → s.isOwn = true → σ[i]? = some (some (.ref a)) → H a = some u → (del H G) a = some u := fun {i s a u} h1 h2 h3 e => by
    rw [del_ne (nD h1 h2 h3)]; exact e
  have h0 : ∀ {b : Addr}, C.H0 b ≠ none → b ≠ G := fun {b} h z => h (by rw [z]; exact hD)
  have ev0 : Evo (C.bld G ws).Ox C.H0 C.Ox C.H0 := .less fun b z => .inl z
  refine ⟨ok, R.len, fun i s e => ?_, R.inj, fun b u e n => ?_, ⟨fun b o n e => ?_, fun b z => ?_, fun b e => ?_⟩, R.io, R.ioI, fun a xs e => R.lim a xs (e.imp del_some del_some), R.lk, fun p hp => ?_, fun p hp o => R.bown p (List.mem_cons_of_mem _ hp) o⟩
  · have z := R.slot i s e
    cases s with
    | un => exact z
    | dat d => obtain ⟨v, e1, e2⟩ := z; exact ⟨v, e1, off e2⟩
    | own ds => obtain ⟨a, xs, e1, e2, e3, e4⟩ := z; exact ⟨a, xs, e1, ne e rfl e1 e2, offL e3, e4⟩
    | lk ds => obtain ⟨a, xs, e1, e2, e3, e4⟩ := z; exact ⟨a, xs, e1, ne e rfl e1 e2, offL e3, e4⟩
    | io ds => obtain ⟨a, xs, e1, e2, e3, e4⟩ := z; exact ⟨a, xs, e1, ne e rfl e1 e2, offL e3, e4.elim id fun z => absurd z (nD e rfl e1)⟩
    | lki ds => obtain ⟨a, xs, e1, e2, e3, e4⟩ := z; exact ⟨a, xs, e1, ne e rfl e1 e2, offL e3, e4.elim id fun z => absurd z (nD e rfl e1)⟩
    | bor d =>
      obtain ⟨v, e1, e2⟩ := z
      exact ⟨v, e1, e2.imp (fun h => h.evo ev0) fun ⟨a, xs, ds, h1, h2, h3, h4, h5⟩ => ⟨a, xs, ds, h1, h2, h3, h4, h5.evo ev0⟩⟩
    | scr d => obtain ⟨hz, a, xs, e1, e2, e3, e4⟩ := z; exact ⟨hz, a, xs, e1, e2, e3, e4.evo ev0⟩
  · have e' : C.H0 b = some u := e
    rw [del_ne (h0 (by rw [e']; exact fun z => nomatch z))]
    exact R.frm b u e n
  · have nb : b ≠ G := h0 (by rw [e]; exact fun z => nomatch z)
    rw [del_ne nb]
    exact R.evo.keep b o (fun z => z.elim n nb) e
  · have z' : Pw (C.bld G ws) σ ρ b := by rw [bld_pw]; exact .inl z
    rcases R.evo.own b z' with z1 | z1
    · rcases z1 with z1 | rfl
      · exact .inl z1
      · exact .inr hD
    · exact .inr z1
  · rw [del_ne (h0 e)]
    exact R.evo.dom b e
  · rw [del_ne (hB p hp)]
    exact R.bld p (List.mem_cons_of_mem _ hp)
/-! ### the loop -/
theorem nox_ok {α : Type} {r : Res α} {a : α} {ρ : En} (h : r.nox = .ok a ρ) : r = .ok a ρ := by
  cases r with
  | ok b ρ' => exact h
  | exc c x ρ' => cases h
  | bad => cases h
theorem nox_exc {α : Type} {r : Res α} {c : Str} {x : D} {ρ : En} : r.nox ≠ .exc c x ρ := by
  cases r with
  | ok b ρ' => exact fun z => nomatch z
  | exc c x ρ' => exact fun z => nomatch z
  | bad => exact fun z => nomatch z
theorem bind_exc {α β : Type} {r : Res α} {f : α → En → Res β} {c : Str} {x : D} {ρ : En} (h : r.bind f = .exc c x ρ) (n : ∀ ρ', r ≠ .exc c x ρ') : ∃ a ρ', r = .ok a ρ' ∧ f a ρ' = .exc c x ρ := by
  cases r with
  | ok a ρ' => exact ⟨a, ρ', rfl, h⟩
  | exc c' x' ρ' => cases h; exact absurd rfl (n _)
  | bad => cases h
theorem lcLoop_exc {tg : Tg} {own : List Nat} {mc : En → Res Bool} {me : En → Res D} (hc : ∀ ρ c x ρ', mc ρ ≠ .exc c x ρ') (he : ∀ ρ c x ρ', me ρ ≠ .exc c x ρ') :
    ∀ {xs acc : List D} {ρ : En} {c : Str} {x : D} {ρ' : En}, lcLoop tg own mc me xs acc ρ ≠ .exc c x ρ'
  | [], acc, ρ, c, x, ρ', h => by cases h
  | d :: r, acc, ρ, c, x, ρ', h => by
    unfold lcLoop at h
    obtain ⟨u, ρ1, e1, h1⟩ := bind_exc h fun _ => Tput_exc
    obtain ⟨b, ρ2, e2, h2⟩ := bind_exc h1 fun _ => hc _ _ _ _
    cases b with
    | true =>
      obtain ⟨y, ρ3, e3, h3⟩ := bind_exc h2 fun _ => he _ _ _ _
      split at h3
      · exact lcLoop_exc hc he (xs := r) h3
      · cases h3
    | false => exact lcLoop_exc hc he (xs := r) h2
theorem Post.nox {α β : Type} {R : Hp → En → β → α → Prop} {Q : β → Hp → Prop} {r : Res α} (h : Post C W σ H ρ R Q r.nox) : Post C W0 σ H ρ R Q r := by
  cases r with
  | ok a ρ' => exact h
  | exc c x ρ' => exact h.elim
  | bad => exact h
/-- where a comprehension stands ahead of a turn -/
structure LcAt (C : Fc) (σw : L2.St) (P1 : Ow) (H1 : Hp) (G : Addr) (H : Hp) (ρ : En) (acc : List D) : Prop where
  at_ : ∃ ws, Rel (C.bld G ws) σw H ρ ∧ Evo P1 H1 (Pw (C.bld G ws) σw ρ) H ∧ DatL H (Pw (C.bld G ws) σw ρ) ws acc
theorem sim_lc {t : Tg} {vs os : List Nat} {wi : TI} {g : TG} {tt : TT} {te : TE} {src : En → Res (List D)} {mc : En → Res Bool} {me : En → Res D}
    (hi : Sim C W (ItR C vs) wi src) (ht : ∀ C', C'.K = C.K → C'.mg = C.mg → GOk C' t g) (hc : ∀ C', C'.K = C.K → C'.mg = C.mg → Sim C' W0 (fun _ => BoolR) tt mc) (he : ∀ C', C'.K = C.K → C'.mg = C.mg → Sim C' W0 (DatR C') te me) (hs : ∀ j, j ∈ t.slots → j ∈ os) :
    SimF C W (tLc wi g tt te os) (fun ρ => (src ρ).bind fun xs ρ => if ownFree ρ os = true then
      (lcLoop t os (fun ρ => (mc ρ).nox) (fun ρ => (me ρ).nox) xs [] (wipeE (lockE ρ vs) os)).bind fun ys ρ2 => .ok (.lst ys) (backE (unlockE ρ2 ρ vs) ρ os) else .bad) := fun σ H ρ0 Q R h => by
  refine hi σ H ρ0 _ R (h.bind fun xs ρ J H1 R1 e1 items h => ?_)
  by_cases f : ownFree ρ os = true
  · rw [if_pos f] at h
    obtain ⟨ys, ρ2, el, h⟩ := h.pure fun _ _ _ => lcLoop_exc (fun _ _ _ _ => nox_exc) fun _ _ _ _ => nox_exc
    intro G hG
    have hG0 := R1.h0 hG
    have RL := R1.lock vs
    have hB : ∀ p ∈ C.B, p.1 ≠ G := fun p hp z => by
      have q := R1.bld p hp
      rw [z, hG] at q
      cases q
    have fL : ∀ j, j ∈ os → ∀ s, (lockE ρ vs)[j]? = some s → s.isOwn = false := fun j m s e => by
      obtain ⟨t, q1, q2, q3⟩ := ownFree_get f m
      obtain ⟨s', q4, q5⟩ := (lockE_core vs ρ).get q1
      rw [e] at q4
      cases q4
      rw [← core_own, q5, core_own]
      exact q2
    have hI : ∀ p ∈ (C.lock σ ρ vs).I, p.1 ∉ os := fun p hp m => by
      obtain ⟨_, s, q1, q2⟩ := RL.io p hp
      have z := fL _ m s q1
      have : s.isOwn = true := by cases s <;> first | rfl | cases q2
      rw [this] at z; cases z
    have hL : ∀ p ∈ (C.lock σ ρ vs).L, p.1 ∉ os := fun p hp m => by
      obtain ⟨q1, _⟩ := RL.lk p hp
      have q2 := RL.ok.lk p hp
      have z := fL _ m _ q1
      have : p.2.1.isOwn = true := by cases h : p.2.1 <;> rw [h] at q2 <;> first | rfl | cases q2
      rw [this] at z; cases z
    have P1 : Pw (C.lock σ ρ vs) σ (lockE ρ vs) = Pw C σ ρ := lock_pw vs
    obtain ⟨RW, evW⟩ := RL.wipe hI hL
    obtain ⟨RB, evB⟩ := RW.bldNew hG
    have le : ∀ ws, (C.lock σ ρ vs).Le ((C.lock σ ρ vs).bld G ws) := fun ws => bld_le hG0
    refine ⟨fun i m H => m = xs.length - i ∧ i ≤ xs.length ∧ ∃ (ρi : En) (acc : List D), LcAt (C.lock σ ρ vs) (wipe σ os) (Pw C σ ρ) H1 G H ρi acc ∧
        lcLoop t os (fun ρ => (mc ρ).nox) (fun ρ => (me ρ).nox) (xs.drop i) acc ρi = .ok ys ρ2, ⟨xs.length, rfl, Nat.zero_le _, _, [], ⟨⟨[], RB, ?_, .nil⟩⟩, el⟩, ?_⟩
    · rw [← P1]; exact evW.trans evB
    rintro i m Hn ⟨rfl, hi, ρi, acc, ⟨ws, Rn, evn, dn⟩, en⟩
    have it := items _ (wipe σ os) Hn ρi (le ws) Rn (by rw [P1]; exact evn)
    by_cases hlt : i < xs.length
    · -- a turn
      obtain ⟨go, yl⟩ := it.1 i _ (List.getElem?_eq_getElem hlt)
      refine .inr ⟨go, fun H' => ∃ (ρi : En) (acc : List D), LcAt (C.lock σ ρ vs) (wipe σ os) (Pw C σ ρ) H1 G H' ρi acc ∧ lcLoop t os (fun ρ => (mc ρ).nox) (fun ρ => (me ρ).nox) (xs.drop (i + 1)) acc ρi = .ok ys ρ2, fun H' nx => ⟨xs.length - (i + 1), by omega, rfl, hlt, nx⟩, fun x H' y => ?_⟩
      obtain ⟨Ry, evy, dy⟩ := yl x H' y
      rw [List.drop_eq_getElem_cons hlt] at en
      unfold lcLoop at en
      obtain ⟨u, ρa, ea, en⟩ := ok_of_bind en
      refine ht ((C.lock σ ρ vs).bld G ws) rfl rfl (wipe σ os) H' ρi x _ u ρa _ Ry dy ea fun σ2 R2 ev2 o2 => ⟨by rw [o2.wipe hs, wipe_wipe], ?_⟩
      have w2 : wipe σ2 os = wipe σ os := by rw [o2.wipe hs, wipe_wipe]
      have fin : ∀ {H3 : Hp} {ρb : En} {ws' : List V} {acc' : List D}, Rel ((C.lock σ ρ vs).bld G ws') σ2 H3 ρb → Evo (Pw C σ ρ) H1 (Pw ((C.lock σ ρ vs).bld G ws') σ2 ρb) H3 → DatL H3 (Pw ((C.lock σ ρ vs).bld G ws') σ2 ρb) ws' acc' → LcAt (C.lock σ ρ vs) (wipe σ os) (Pw C σ ρ) H1 G H3 (wipeE ρb os) acc' := fun {H3 ρb ws' acc'} r e d => by
        obtain ⟨rw', ev'⟩ := r.wipe hI hL
        rw [w2] at rw' ev'
        exact ⟨⟨ws', rw', e.trans ev', d.evo ev'⟩⟩
      obtain ⟨b, ρb, eb, en⟩ := ok_of_bind en
      refine hc ((C.lock σ ρ vs).bld G ws) rfl rfl σ2 H' ρa _ R2 ?_
      rw [nox_ok eb]
      rintro c H3 R3 ev3 rfl
      have ev13 := ((evn.trans evy).trans ev2).trans ev3
      have d3 := ((dn.evo evy).evo ev2).evo ev3
      cases c with
      | false =>
        simp only [Bool.false_eq_true, if_false]
        exact ⟨_, acc, fin R3 ev13 d3, en⟩
      | true =>
        simp only [if_true]
        obtain ⟨z, ρc, ec, en⟩ := ok_of_bind en
        refine he ((C.lock σ ρ vs).bld G ws) rfl rfl σ2 H3 ρb _ R3 ?_
        rw [nox_ok ec]
        intro v H4 R4 ev4 d4
        by_cases hz : acc.length < sizeLine
        · rw [if_pos hz] at en
          have hw : ws.length < sizeLine := by rw [dn.length]; exact hz
          refine ⟨ws, R4.bld (G, ws) List.mem_cons_self, hw, ?_⟩
          obtain ⟨R5, ev5⟩ := R4.bldApp (ws' := ws ++ [v]) hB hG0 (by rw [List.length_append]; exact hw)
          exact ⟨_, acc ++ [z], fin R5 ((ev13.trans ev4).trans ev5) (((d3.evo ev4).append (.one d4)).evo ev5), en⟩
        · rw [if_neg hz] at en
          cases en
    · -- the end
      have ei : i = xs.length := by omega
      subst ei
      refine .inl ⟨it.2, ?_⟩
      rw [List.drop_length] at en
      unfold lcLoop at en
      cases en
      have RE := Rel.bldEnd RW.ok Rn hB hG0
      have RU := Rel.unlock R1 vs RE
      have eU : Pw C (wipe σ os) (unlockE ρ2 ρ vs) = Pw (C.lock σ ρ vs) (wipe σ os) ρ2 := unlock_pw vs
      have hGn : Hn G = some (.lst ws) := Rn.bld (G, ws) List.mem_cons_self
      have evD : Evo (Pw C σ ρ) H1 (Pw C (wipe σ os) (unlockE ρ2 ρ vs)) (del Hn G) := by
        rw [eU]
        refine ⟨fun b o n e => ?_, fun b z => evn.own b (by rw [bld_pw]; exact .inl z), fun b e => ?_⟩
        · rw [del_ne (ne_of_none e hG)]
          exact evn.keep b o n e
        · rw [del_ne fun z => e (by rw [z]; exact hG)]
          exact evn.dom b e
      have RK := Rel.back R1 RU f evD
      have lU : (unlockE ρ2 ρ vs).length = ρ.length := by rw [← RU.len, wipe_length, R1.len]
      have eK : Pw C σ (backE (unlockE ρ2 ρ vs) ρ os) = Pw (C.lock σ ρ vs) (wipe σ os) ρ2 := (back_pw lU f).trans eU
      have hlen : ws.length ≤ sizeLine := Rn.lim.lst hGn
      have dK : DatL (del Hn G) (Pw C σ (backE (unlockE ρ2 ρ vs) ρ os)) ws ys := by
        rw [eK]
        rw [bld_pw] at dn
        exact dn.off
      obtain ⟨a1, a2, a3⟩ := RK.newF (del_same (H := Hn)) hlen dK
      rw [upd_del hGn] at a1 a2 a3
      rw [eU, ← eK] at evD
      exact h _ _ a1 (evD.trans a2) (a3 H (e1.none _ hG))
  · rw [if_neg f] at h
    exact h.elim
/-- the parts of a comprehension -/
def LcP (X : Cx) (C : Fc) (W : WX) (e : Expr) (m : En → Res D) : Prop := ∃ (elt tg iter : Expr) (ifs : List Expr) (scope : Scope) (own : List (Str × Nat)) (pos : Pos) (wi : TI) (g : TG) (tt : TT) (te : TE),
  e = .ListComp elt [⟨tg, iter, ifs, 0⟩] scope pos ∧ PI X tg iter wi ∧ BlkOk X.N X.env.scope scope own ∧ (∀ (s : Shared) (H : Hp) (c : Addr) (cl : List (Str × Addr)) (fp : List Addr), PG (X.blk s H scope (compEnvC scope cl c X.env) fp) tg g) ∧
    (∀ (s : Shared) (H : Hp) (c : Addr) (cl : List (Str × Addr)) (fp : List Addr), PTs (X.blk s H scope (compEnvC scope cl c X.env) fp) ifs tt) ∧ (∀ (s : Shared) (H : Hp) (c : Addr) (cl : List (Str × Addr)) (fp : List Addr), PE (X.blk s H scope (compEnvC scope cl c X.env) fp) elt te) ∧
    (∀ x, foldedSetIterable iter X.env x = pure x) ∧ SimF C W (tLc wi g tt te (own.map (·.2))) m
section
variable {elt tg iter : Expr} {ifs : List Expr} {scope : Scope} {own : List (Str × Nat)} {pos : Pos} {t : Tg} {vs : List Nat} {src : En → Res (List D)} {mc : En → Res Bool} {me : En → Res D}
theorem lcP_of (ok : BlkOk X.N X.env.scope scope own) (hi : SI X C W tg iter vs src)
    (ht : ∀ (s : Shared) (H : Hp) (c : Addr) (cl : List (Str × Addr)) (fp : List Addr) (C' : Fc), C'.K = C.K → C'.mg = C.mg → STt (X.blk s H scope (compEnvC scope cl c X.env) fp) C' tg t)
    (hc : ∀ (s : Shared) (H : Hp) (c : Addr) (cl : List (Str × Addr)) (fp : List Addr) (C' : Fc), C'.K = C.K → C'.mg = C.mg → SIf (X.blk s H scope (compEnvC scope cl c X.env) fp) C' W0 ifs mc)
    (he : ∀ (s : Shared) (H : Hp) (c : Addr) (cl : List (Str × Addr)) (fp : List Addr) (C' : Fc), C'.K = C.K → C'.mg = C.mg → SE (X.blk s H scope (compEnvC scope cl c X.env) fp) C' W0 elt me)
    (hs : ∀ j, j ∈ t.slots → j ∈ own.map (·.2)) (hfs : ∀ x, foldedSetIterable iter X.env x = pure x) :
    LcP X C W (.ListComp elt [⟨tg, iter, ifs, 0⟩] scope pos) (fun ρ => (src ρ).bind fun xs ρ => if ownFree ρ (own.map (·.2)) = true then
      (lcLoop t (own.map (·.2)) (fun ρ => (mc ρ).nox) (fun ρ => (me ρ).nox) xs [] (wipeE (lockE ρ vs) (own.map (·.2)))).bind fun ys ρ2 => .ok (.lst ys) (backE (unlockE ρ2 ρ vs) ρ (own.map (·.2))) else .bad) := by
  obtain ⟨wi, i1, i2⟩ := hi
  obtain ⟨g, g1, g2⟩ := STt.all (ι := Shared × Hp × Addr × List (Str × Addr) × List Addr) (κ := {C' : Fc // C'.K = C.K ∧ C'.mg = C.mg}) (C := fun j => j.1) fun i j => ht i.1 i.2.1 i.2.2.1 i.2.2.2.1 i.2.2.2.2 j.1 j.2.1 j.2.2
  obtain ⟨tt, t1, t2⟩ := SIf.all (ι := Shared × Hp × Addr × List (Str × Addr) × List Addr) (κ := {C' : Fc // C'.K = C.K ∧ C'.mg = C.mg}) (C := fun j => j.1) fun i j => hc i.1 i.2.1 i.2.2.1 i.2.2.2.1 i.2.2.2.2 j.1 j.2.1 j.2.2
  obtain ⟨te, u1, u2⟩ := SE.all (ι := Shared × Hp × Addr × List (Str × Addr) × List Addr) (κ := {C' : Fc // C'.K = C.K ∧ C'.mg = C.mg}) (C := fun j => j.1) fun i j => he i.1 i.2.1 i.2.2.1 i.2.2.2.1 i.2.2.2.2 j.1 j.2.1 j.2.2
  exact ⟨elt, tg, iter, ifs, scope, own, pos, wi, g, tt, te, rfl, i1, ok, fun s H c cl fp => g1 (s, H, c, cl, fp), fun s H c cl fp => t1 (s, H, c, cl, fp), fun s H c cl fp => u1 (s, H, c, cl, fp), hfs,
    sim_lc i2 (fun C' h1 h2 => g2 ⟨C', h1, h2⟩) (fun C' h1 h2 => t2 ⟨C', h1, h2⟩) (fun C' h1 h2 => u2 ⟨C', h1, h2⟩) hs⟩
end
/-- [elt for tg in iter if ..] -/
theorem LcP.sf {e : Expr} {m : En → Res D} (hcm : X.calm = true) (hN : X.N.Nodup) (h : LcP X C W e m) : SF X C W e m := by
  obtain ⟨elt, tg, iter, ifs, scope, own, pos, wi, g, tt, te, rfl, i1, ok, g1, t1, u1, hfs, hm⟩ := h
  exact ⟨_, pe_lc hcm hN i1 ok g1 t1 u1 hfs, hm⟩
end
end Sm
end

section
set_option Elab.async false
set_option linter.all false
set_option autoImplicit false
set_option maxRecDepth 100000
/-! Sm13: statements. -/
namespace Sm
open PySem PySem.Spec PyProof.Rows L2
/-- what a def hands back -/
def RetR (own : Bool) (C : Fc) (σ : L2.St) (H : Hp) (ρ : En) (v : V) (d : D) : Prop := match own with
  | false => Dat H (Pw C σ ρ) v d
  | true => (∃ ds, d = .lst ds) ∧ Dat H (Pw C σ ρ) v d ∧ ∀ ds, d = .lst ds → ∃ a xs, v = .ref a ∧ H a = some (.lst xs) ∧ Rel C σ (del H a) ρ ∧ DatL (del H a) (Pw C σ ρ) xs ds
/-- what is wanted behind a statement -/
def PostS (C : Fc) (W : WX) (own : Bool) (σ : L2.St) (H : Hp) (ρ : En) (D : Ends) : Res Fl → Prop
  | .ok .nx ρ' => ∀ σ' H', Rel C σ' H' ρ' → Evo (Pw C σ ρ) H (Pw C σ' ρ') H' → D.nx σ' H'
  | .ok .bk ρ' => ∀ σ' H', Rel C σ' H' ρ' → Evo (Pw C σ ρ) H (Pw C σ' ρ') H' → D.bk σ' H'
  | .ok .ct ρ' => ∀ σ' H', Rel C σ' H' ρ' → Evo (Pw C σ ρ) H (Pw C σ' ρ') H' → D.ct σ' H'
  | .ok (.rt d) ρ' => ∀ σ' H' v, Rel C σ' H' ρ' → Evo (Pw C σ ρ) H (Pw C σ' ρ') H' → RetR own C σ' H' ρ' v d → D.rt v H'
  | .exc c x ρ' => ∀ cl d σ' H', Rel C σ' H' ρ' → Evo (Pw C σ ρ) H (Pw C σ' ρ') H' → ExcAt C H' c x cl d → W cl d σ' H'
  | .bad => False
def SimS (C : Fc) (W : WX) (own : Bool) (t : TS) (m : En → Res Fl) : Prop := ∀ (σ : L2.St) (H : Hp) (ρ : En) (D : Ends), Rel C σ H ρ → PostS C W own σ H ρ D (m ρ) → t D σ H
def SS (X : Cx) (C : Fc) (W : WX) (own : Bool) (st : Stmt) (m : En → Res Fl) : Prop := ∃ t, PS X st t ∧ SimS C W own t m
def SSs (X : Cx) (C : Fc) (W : WX) (own : Bool) (sts : List Stmt) (m : En → Res Fl) : Prop := ∃ t, PSs X sts t ∧ SimS C W own t m
section
variable {X : Cx} {C : Fc} {W : WX} {own : Bool} {σ σ1 : L2.St} {H H1 : Hp} {ρ ρ1 : En} {D : Ends}
theorem PostS.from {r : Res Fl} (e : Evo (Pw C σ ρ) H (Pw C σ1 ρ1) H1) (h : PostS C W own σ H ρ D r) : PostS C W own σ1 H1 ρ1 D r := by
  cases r with
  | ok f ρ' =>
    cases f with
    | nx => exact fun σ' H' x y => h σ' H' x (e.trans y)
    | bk => exact fun σ' H' x y => h σ' H' x (e.trans y)
    | ct => exact fun σ' H' x y => h σ' H' x (e.trans y)
    | rt d => exact fun σ' H' v x y z => h σ' H' v x (e.trans y) z
  | exc c x ρ' => exact fun cl d σ' H' x y z => h cl d σ' H' x (e.trans y) z
  | bad => exact h
theorem PostS.bind {β γ δ : Type} {R1 : Hp → En → δ → γ → Prop} {K : δ → Hp → Prop} {r : Res γ} {f : γ → En → Res Fl} (h : PostS C W own σ H ρ D (r.bind f))
    (k : ∀ a ρ1 b H1, Rel C σ H1 ρ1 → Evo (Pw C σ ρ) H (Pw C σ ρ1) H1 → R1 H1 ρ1 b a → PostS C W own σ H1 ρ1 D (f a ρ1) → K b H1) : Post C W σ H ρ R1 K r := by
  cases r with
  | ok a ρ' => exact fun b H' x y z => k a ρ' b H' x y z (PostS.from y h)
  | exc c x ρ' => exact fun cl d H' x y z => h cl d σ H' x y z
  | bad => exact h
theorem PostS.pure {γ : Type} {r : Res γ} {f : γ → En → Res Fl} (h : PostS C W own σ H ρ D (r.bind f)) (hb : ∀ c x ρ', r ≠ .exc c x ρ') : ∃ a ρ1, r = .ok a ρ1 ∧ PostS C W own σ H ρ D (f a ρ1) := by
  cases r with
  | ok a ρ' => exact ⟨a, ρ', rfl, h⟩
  | exc c x ρ' => exact absurd rfl (hb c x ρ')
  | bad => exact h.elim
theorem PostS.opt {γ : Type} {o : Option γ} {f : γ → En → Res Fl} (h : PostS C W own σ H ρ D ((Sm.opt o ρ1).bind f)) : ∃ a, o = some a ∧ PostS C W own σ H ρ D (f a ρ1) := by
  cases o with
  | none => exact h.elim
  | some a => exact ⟨a, rfl, h⟩
theorem PostS.nx {r : Res Unit} (h : PostS C W own σ H ρ D (Sm.nx r)) (hb : ∀ c x ρ', r ≠ .exc c x ρ') : ∃ u ρ1, r = .ok u ρ1 ∧ PostS C W own σ H ρ D (.ok .nx ρ1) := PostS.pure h hb
theorem PostS.rdO {i : Nat} {f : List Sm.D → En → Res Fl} (h : PostS C W own σ H ρ D ((Sm.rdO i ρ1).bind f)) : ∃ l, (ρ1[i]? = some (.own l) ∨ ρ1[i]? = some (.io l)) ∧ PostS C W own σ H ρ D (f l ρ1) := by
  obtain ⟨l, ρ', e, h9⟩ := h.pure fun _ _ _ => rdO_exc
  obtain ⟨e1, e2⟩ := rdO_ok e
  subst e1
  exact ⟨l, e2, h9⟩
/-! ### rows of statements -/
theorem sss_nil : SSs X C W own [] (fun ρ => .ok .nx ρ) := ⟨_, pss_nil, fun σ H ρ D R h => h σ H R (.refl _ _)⟩
theorem sim_seq {t u : TS} {m n : En → Res Fl} (h1 : SimS C W own t m) (h2 : SimS C W own u n) : SimS C W own (tSeq t u) (fun ρ => (m ρ).bind fun f ρ => match f with
    | .nx => n ρ
    | .rt d => .ok (.rt d) ρ
    | .bk => .ok .bk ρ
    | .ct => .ok .ct ρ) := fun σ H ρ D R h => by
  refine h1 σ H ρ _ R ?_
  cases q : m ρ with
  | ok f ρ1 =>
    simp only [q, Res.bind] at h
    cases f with
    | nx => exact fun σ' H' r ev => h2 σ' H' ρ1 D r (PostS.from ev h)
    | rt d => exact h
    | bk => exact h
    | ct => exact h
  | exc c x ρ1 => simp only [q, Res.bind] at h; exact h
  | bad => simp only [q, Res.bind] at h; exact h.elim
theorem sss_cons {st : Stmt} {rest : List Stmt} {m n : En → Res Fl} (h1 : SS X C W own st m) (h2 : SSs X C W own rest n) : SSs X C W own (st :: rest) (fun ρ => (m ρ).bind fun f ρ => match f with
    | .nx => n ρ
    | .rt d => .ok (.rt d) ρ
    | .bk => .ok .bk ρ
    | .ct => .ok .ct ρ) := by
  obtain ⟨t, a1, a2⟩ := h1
  obtain ⟨u, b1, b2⟩ := h2
  exact ⟨_, pss_cons a1 b1, sim_seq a2 b2⟩
theorem ss_pass {pos : Pos} : SS X C W own (.Pass pos) (fun ρ => .ok .nx ρ) := ⟨_, ps_pass, fun σ H ρ D R h => h σ H R (.refl _ _)⟩
theorem ss_brk {pos : Pos} : SS X C W own (.Break pos) (fun ρ => .ok .bk ρ) := ⟨_, ps_break, fun σ H ρ D R h => h σ H R (.refl _ _)⟩
theorem ss_cnt {pos : Pos} : SS X C W own (.Continue pos) (fun ρ => .ok .ct ρ) := ⟨_, ps_continue, fun σ H ρ D R h => h σ H R (.refl _ _)⟩
theorem ss_doc {x : Str} {j : Nat} {pos pos' : Pos} : SS X C W own (.Expr (.Constant (.str x) j pos) pos') (fun ρ => .ok .nx ρ) := ⟨_, ps_doc, fun σ H ρ D R h => h σ H R (.refl _ _)⟩
theorem ss_never {st : Stmt} : SS X C W own st (fun _ => .bad) := ⟨_, ps_never, fun σ H ρ D R h => h.elim⟩
theorem ss_ex {e : Expr} {pos : Pos} {m : En → Res Sm.D} (h : SE X C W e m) (hs : swapsWith e none pos.line X.env = pure false) : SS X C W own (.Expr e pos) (fun ρ => (m ρ).bind fun _ ρ => .ok .nx ρ) := by
  obtain ⟨t, h1, h2⟩ := h
  exact ⟨_, ps_expr h1 hs, fun σ H ρ D R h => h2 σ H ρ _ R (h.bind (β := V) fun a ρ1 b H1 R1 e1 d1 h => h σ H1 R1 (.refl _ _))⟩
theorem ss_ret {e : Expr} {pos : Pos} {m : En → Res Sm.D} (h : SE X C W e m) : SS X C W false (.Return (some e) pos) (fun ρ => (m ρ).bind fun x ρ => .ok (.rt x) ρ) := by
  obtain ⟨t, h1, h2⟩ := h
  exact ⟨_, ps_ret h1, fun σ H ρ D R h => h2 σ H ρ _ R (h.bind (β := V) fun a ρ1 b H1 R1 e1 d1 h => h σ H1 b R1 (.refl _ _) d1)⟩
theorem ss_retN {pos : Pos} : SS X C W false (.Return none pos) (fun ρ => .ok (.rt .non) ρ) := ⟨_, ps_retN, fun σ H ρ D R h => h σ H .non R (.refl _ _) .non⟩
theorem asListO_some {x : Sm.D} {l : List Sm.D} (h : asListO x = some l) : x = .lst l := by
  cases x with
  | lst ds => cases h; rfl
  | _ => cases h
theorem ss_retO {e : Expr} {pos : Pos} {m : En → Res Sm.D} (h : SF X C W e m) : SS X C W own (.Return (some e) pos) (fun ρ => (m ρ).bind fun x ρ => (opt (asListO x) ρ).bind fun l ρ => .ok (.rt (.lst l)) ρ) := by
  obtain ⟨t, h1, h2⟩ := h
  refine ⟨_, ps_ret h1, fun σ H ρ D R h => h2 σ H ρ _ R (h.bind (β := V) fun a ρ1 b H1 R1 e1 d1 h => ?_)⟩
  obtain ⟨l, e2, h⟩ := h.opt
  cases asListO_some e2
  refine h σ H1 b R1 (.refl _ _) ?_
  cases own with
  | false => exact d1.dat
  | true => exact ⟨⟨l, rfl⟩, d1.dat, fun ds e => let ⟨a, xs, q1, q2, q3, q4, _⟩ := d1.fr ds e; ⟨a, xs, q1, q2, q3, q4⟩⟩
theorem ss_ite {c : Expr} {a b : List Stmt} {pos : Pos} {mc : En → Res Bool} {ma mb : En → Res Fl} (hc : ST X C W c mc) (ha : SSs X C W own a ma) (hb : SSs X C W own b mb) :
    SS X C W own (.If c a b pos) (fun ρ => (mc ρ).bind fun k ρ => match k with
      | true => ma ρ
      | false => mb ρ) := by
  obtain ⟨t, h1, h2⟩ := hc
  obtain ⟨u, a1, a2⟩ := ha
  obtain ⟨w, b1, b2⟩ := hb
  refine ⟨_, ps_if h1 a1 b1, fun σ H ρ D R h => h2 σ H ρ _ R (h.bind (β := V) fun k ρ1 k' H1 R1 e1 d1 h => ?_)⟩
  cases d1
  cases k with
  | true => exact a2 σ H1 ρ1 D R1 h
  | false => exact b2 σ H1 ρ1 D R1 h
/-! ### a name is stored -/
theorem put_nx {i : Nat} {s : Sl} (h : PostS C W own σ H ρ D (nx (put i s ρ1))) : ∃ ρ2, put i s ρ1 = .ok () ρ2 ∧ PostS C W own σ H ρ D (.ok .nx ρ2) := by
  obtain ⟨u, ρ2, e, h⟩ := h.nx fun _ _ _ => put_exc
  exact ⟨ρ2, e, h⟩
theorem set_sim {i : Nat} {te : TE} {m : En → Res Sm.D} (h2 : Sim C W (DatR C) te m) : SimS C W own (tAsg te (gName i)) (fun ρ => (m ρ).bind fun x ρ => nx (put i (.dat x) ρ)) := fun σ H ρ D R h => by
  refine h2 σ H ρ _ R (h.bind (β := V) fun x ρ1 v H1 R1 e1 d1 h => ?_)
  obtain ⟨ρ2, e2, h⟩ := put_nx h
  obtain ⟨R2, ev⟩ := R1.putD e2 d1
  exact h _ H1 R2 ev
theorem setO_sim {i : Nat} {te : TE} {m : En → Res Sm.D} (h2 : SimF C W te m) : SimS C W own (tAsg te (gName i)) (fun ρ => (m ρ).bind fun x ρ => (opt (asListO x) ρ).bind fun l ρ => nx (put i (.own l) ρ)) := fun σ H ρ D R h => by
  replace h : PostS C W own σ H ρ D ((m ρ).bind fun x ρ => (opt (asListO x) ρ).bind fun l ρ => nx (put i (.own l) ρ)) := h
  have key : ∀ x ρ1 v H1, Rel C σ H1 ρ1 → Evo (Pw C σ ρ) H (Pw C σ ρ1) H1 → DatF C σ H H1 ρ1 v x → PostS C W own σ H ρ D ((opt (asListO x) ρ1).bind fun l ρ => nx (put i (.own l) ρ)) → D.nx (σ.set i (some v)) H1 := fun x ρ1 v H1 R1 e1 d1 h => by
    obtain ⟨l, e2, h8⟩ := h.opt
    cases asListO_some e2
    obtain ⟨ρ2, e3, h9⟩ := put_nx h8
    obtain ⟨a, rfl, R2, ev, hn⟩ := R1.putOwn e3 d1.fr
    refine h9 _ H1 R2 ⟨e1.keep, fun b z => ?_, e1.dom⟩
    rcases ev.own b z with z1 | z1
    · exact e1.own b z1
    · by_cases q : b = a
      · rw [q]; exact .inr hn
      · rw [del_ne q] at z1
        exact .inr (e1.none b z1)
  have h2' := h2 σ H ρ (fun x H1 => gName i x σ H1 D.nx) R
  cases q : m ρ with
  | ok x ρ1 => rw [q] at h h2'; exact h2' fun v H1 R1 e1 d1 => key x ρ1 v H1 R1 e1 d1 h
  | exc c x ρ1 => rw [q] at h h2'; exact h2' fun cl d H' x y z => h cl d σ H' x y z
  | bad => rw [q] at h; exact h.elim
theorem ss_set {i : Nat} {x : Str} {e : Expr} {pos pos' : Pos} {m : En → Res Sm.D} (hN : X.N.Nodup) (hi : X.N[i]? = some x) (hx : Loc X.env.scope x) (hf : X.fn x = true) (h : SE X C W e m) (hs : swapsWith e (some (.Name x pos')) pos.line X.env = pure false) :
    SS X C W own (.Assign [.Name x pos'] e pos) (fun ρ => (m ρ).bind fun x ρ => nx (put i (.dat x) ρ)) := let ⟨_, h1, h2⟩ := h; ⟨_, ps_set hN hi hx h1 hs (.inl hf), set_sim h2⟩
theorem ss_setO {i : Nat} {x : Str} {e : Expr} {pos pos' : Pos} {m : En → Res Sm.D} (hN : X.N.Nodup) (hi : X.N[i]? = some x) (hx : Loc X.env.scope x) (hf : X.fn x = true) (h : SF X C W e m) (hs : swapsWith e (some (.Name x pos')) pos.line X.env = pure false) :
    SS X C W own (.Assign [.Name x pos'] e pos) (fun ρ => (m ρ).bind fun x ρ => (opt (asListO x) ρ).bind fun l ρ => nx (put i (.own l) ρ)) := let ⟨_, h1, h2⟩ := h; ⟨_, ps_set hN hi hx h1 hs (.inl hf), setO_sim h2⟩
/-- a tuple target -/
theorem ss_unp {tg e : Expr} {t : Tg} {pos : Pos} {m : En → Res Sm.D} (h : SE X C W e m) (hg : STt X C tg t) (hs : swapsWithSole [tg] e pos.line X.env = pure false) (hw : swappedStores [tg] e X.env = pure none) (ha : (assignEach [tg] X.env).map (·.2) = [assign tg X.env]) :
    SS X C W own (.Assign [tg] e pos) (fun ρ => (m ρ).bind fun x ρ => nx (t.put x ρ)) := by
  obtain ⟨u, h1, h2⟩ := h
  obtain ⟨g, g1, g2⟩ := hg
  refine ⟨_, ps_asg h1 g1 hs hw ha, fun σ H ρ D R h => h2 σ H ρ _ R (h.bind (β := V) fun x ρ1 v H1 R1 e1 d1 h => ?_)⟩
  obtain ⟨w, ρ2, e2, h⟩ := h.nx fun _ _ _ => Tput_exc
  exact g2 σ H1 ρ1 v x w ρ2 _ R1 d1 e2 fun σ' R2 ev _ => h σ' H1 R2 ev
theorem putPar_exc : ∀ (is : List (Nat × Bool)) (ds : List Sm.D) (ρ : En) c x ρ', (∀ p ∈ is, p.2 = false) → putPar is ds ρ ≠ .exc c x ρ' := fun is => by
  induction is with
  | nil => intro ds ρ c x ρ' _ z; cases ds <;> cases z
  | cons p is ih =>
    intro ds ρ c x ρ' hf z
    obtain ⟨n, b⟩ := p
    have hb : b = false := hf (n, b) List.mem_cons_self
    subst hb
    cases ds with
    | nil => cases z
    | cons d ds =>
      unfold putPar at z
      obtain ⟨_, _, _, z⟩ := bind_exc z fun _ => put_exc
      exact ih _ _ _ _ _ (fun p hp => hf p (List.mem_cons_of_mem _ hp)) z
/-- a, b = x, y with plain names on one line -/
theorem ss_par2 {i j : Nat} {x y : Str} {a b : Expr} {px py pt pos : Pos} {kt k2 : Nat} {pt2 : Pos} {m : En → Res (List Sm.D)} (hc : X.calm = true) (hN : X.N.Nodup) (hi : X.N[i]? = some x) (hj : X.N[j]? = some y) (hij : i ≠ j)
    (hx : X.env.scope.names.lookup x = some .local) (hy : X.env.scope.names.lookup y = some .local) (ha : SEs X C W [a, b] m)
    (hw : swappedStores [.Tuple [.Name x px, .Name y py] kt pt] (.Tuple [a, b] k2 pt2) X.env = pure (some [x, y])) (hs : swapsWithSole [.Tuple [.Name x px, .Name y py] kt pt] (.Tuple [a, b] k2 pt2) pos.line X.env = pure false) :
    SS X C W own (.Assign [.Tuple [.Name x px, .Name y py] kt pt] (.Tuple [a, b] k2 pt2) pos) (fun ρ => (m ρ).bind fun xs ρ => nx (putPar [(i, false), (j, false)] xs ρ)) := by
  obtain ⟨t, h1, h2⟩ := ha
  refine ⟨_, ps_par hc hN hi hj hij hx hy h1 hw hs, fun σ H ρ D R h => h2 σ H ρ _ R (h.bind (β := List V) fun ds ρ1 vs H1 R1 e1 d1 h => ?_)⟩
  obtain ⟨_, ρ3, e, h9⟩ := PostS.nx h fun c x ρ' => putPar_exc _ _ _ _ _ _ (by simp)
  cases d1 with
  | nil => cases e
  | cons q1 d1 =>
    unfold putPar at e
    obtain ⟨_, ρ2, p1, e⟩ := ok_of_bind e
    cases d1 with
    | nil => cases e
    | cons q2 d1 =>
      unfold putPar at e
      obtain ⟨_, ρ4, p2, e⟩ := ok_of_bind e
      obtain ⟨R2, ev2⟩ := R1.putD p1 q1
      obtain ⟨R3, ev3⟩ := R2.putD p2 (q2.evo ev2)
      cases d1 with
      | nil =>
        unfold putPar at e
        cases e
        exact ⟨_, _, rfl, h9 _ H1 R3 (ev2.trans ev3)⟩
      | cons _ _ => cases e
theorem ss_par3 {i j l : Nat} {x y z : Str} {a b c : Expr} {px py pz pt pos : Pos} {kt k2 : Nat} {pt2 : Pos} {m : En → Res (List Sm.D)} (hc : X.calm = true) (hN : X.N.Nodup) (hi : X.N[i]? = some x) (hj : X.N[j]? = some y) (hl : X.N[l]? = some z) (hij : i ≠ j) (hil : i ≠ l) (hjl : j ≠ l)
    (hx : X.env.scope.names.lookup x = some .local) (hy : X.env.scope.names.lookup y = some .local) (hz : X.env.scope.names.lookup z = some .local) (ha : SEs X C W [a, b, c] m)
    (hw : swappedStores [.Tuple [.Name x px, .Name y py, .Name z pz] kt pt] (.Tuple [a, b, c] k2 pt2) X.env = pure (some [x, y, z])) (hs : swapsWithSole [.Tuple [.Name x px, .Name y py, .Name z pz] kt pt] (.Tuple [a, b, c] k2 pt2) pos.line X.env = pure false) :
    SS X C W own (.Assign [.Tuple [.Name x px, .Name y py, .Name z pz] kt pt] (.Tuple [a, b, c] k2 pt2) pos) (fun ρ => (m ρ).bind fun xs ρ => nx (putPar [(i, false), (j, false), (l, false)] xs ρ)) := by
  obtain ⟨t, h1, h2⟩ := ha
  refine ⟨_, ps_par3 hc hN hi hj hl hij hil hjl hx hy hz h1 hw hs, fun σ H ρ D R h => h2 σ H ρ _ R (h.bind (β := List V) fun ds ρ1 vs H1 R1 e1 d1 h => ?_)⟩
  obtain ⟨_, ρ3, e, h9⟩ := PostS.nx h fun c x ρ' => putPar_exc _ _ _ _ _ _ (by simp)
  cases d1 with
  | nil => cases e
  | cons q1 d1 =>
    unfold putPar at e
    obtain ⟨_, ρ2, p1, e⟩ := ok_of_bind e
    cases d1 with
    | nil => cases e
    | cons q2 d1 =>
      unfold putPar at e
      obtain ⟨_, ρ4, p2, e⟩ := ok_of_bind e
      cases d1 with
      | nil => cases e
      | cons q3 d1 =>
        unfold putPar at e
        obtain ⟨_, ρ5, p3, e⟩ := ok_of_bind e
        obtain ⟨R2, ev2⟩ := R1.putD p1 q1
        obtain ⟨R3, ev3⟩ := R2.putD p2 (q2.evo ev2)
        obtain ⟨R4, ev4⟩ := R3.putD p3 (q3.evo (ev2.trans ev3))
        cases d1 with
        | nil =>
          unfold putPar at e
          cases e
          exact ⟨_, _, _, rfl, h9 _ H1 R4 ((ev2.trans ev3).trans ev4)⟩
        | cons _ _ => cases e
/-! ### lists that change -/
theorem own_ref {i : Nat} {l : List Sm.D} (R : Rel C σ H ρ) (e : ρ[i]? = some (.own l) ∨ ρ[i]? = some (.io l)) : ∃ a xs, σ[i]? = some (some (.ref a)) ∧ H a = some (.lst xs) ∧ DatL H (Pw C σ ρ) xs l := by
  rcases e with e | e
  · obtain ⟨a, xs, q1, q2, q3, _⟩ := R.slot i _ e; exact ⟨a, xs, q1, q2, q3⟩
  · obtain ⟨a, xs, q1, q2, q3, _⟩ := R.slot i _ e; exact ⟨a, xs, q1, q2, q3⟩
theorem chg_nx {i : Nat} {l : List Sm.D} (h : PostS C W own σ H ρ D (nx (chg i l ρ1))) : ∃ ρ2, chg i l ρ1 = .ok () ρ2 ∧ PostS C W own σ H ρ D (.ok .nx ρ2) := by
  obtain ⟨u, ρ2, e, h⟩ := h.nx fun _ _ _ => chg_exc
  exact ⟨ρ2, e, h⟩
theorem stoD_ok {i : Nat} {k d : Sm.D} {ρ ρ2 : En} {u : Unit} (h : stoD i k d ρ = .ok u ρ2) : ∃ l z j, (ρ[i]? = some (.own l) ∨ ρ[i]? = some (.io l)) ∧ k = .int z ∧ ixN l.length z = some j ∧ chg i (l.set j d) ρ = .ok u ρ2 := by
  unfold stoD at h
  obtain ⟨l, ρ', e, h9⟩ := ok_of_bind h
  obtain ⟨e1, e2⟩ := rdO_ok e
  subst e1
  cases k with
  | int z =>
    simp only at h9
    cases q : ixN l.length z with
    | none => rw [q] at h9; cases h9
    | some j => rw [q] at h9; exact ⟨l, z, j, e2, rfl, q, h9⟩
  | _ => cases h9
theorem stoD_exc {i : Nat} {k d : Sm.D} {ρ ρ2 : En} {c : Str} {x : Sm.D} : stoD i k d ρ ≠ .exc c x ρ2 := fun z => by
  unfold stoD at z
  obtain ⟨l, ρ', e, z9⟩ := bind_exc z fun _ => rdO_exc
  cases k with
  | int k =>
    simp only at z9
    cases q : ixN l.length k with
    | none => rw [q] at z9; cases z9
    | some j => rw [q] at z9; exact chg_exc z9
  | _ => cases z9
/-- what a store into a list does -/
theorem sto_run {i : Nat} {k d : Sm.D} {ρ2 : En} {a : Addr} {v w : V} {Q : Hp → Prop} (R : Rel C σ H ρ) (ha : σ[i]? = some (some (.ref a))) (hk : Dat H (Pw C σ ρ) w k) (hd : Dat H (Pw C σ ρ) v d) (e : stoD i k d ρ = .ok () ρ2)
    (q : ∀ H', Rel C σ H' ρ2 → Evo (Pw C σ ρ) H (Pw C σ ρ2) H' → Q H') : rSetL (.ref a) w v H Q := by
  obtain ⟨l, z, j, e1, rfl, e2, e3⟩ := stoD_ok e
  obtain ⟨b, xs, q1, q2, q3⟩ := own_ref R e1
  rw [ha] at q1
  cases q1
  cases hk
  refine ⟨a, xs, z, j, rfl, rfl, q2, by rw [q3.length]; exact e2, ?_⟩
  obtain ⟨R2, ev⟩ := R.chgL e3 ha (by rw [List.length_set]; exact R.lim.lst q2) (q3.set hd j)
  exact q _ R2 ev
theorem ss_sto {i : Nat} {o k e : Expr} {pos tpos : Pos} {mk me : En → Res Sm.D} (ho : PE X o (tVar i)) (hk : SE X C W k mk) (he : SE X C W e me)
    (hs : swapsWithSole [.Subscript o k tpos] e pos.line X.env = pure false) (hw : swappedStores [.Subscript o k tpos] e X.env = pure none) (ha : (assignEach [.Subscript o k tpos] X.env).map (·.2) = [assign (.Subscript o k tpos) X.env])
    (has : ∀ v, assign (.Subscript o k tpos) X.env v = (do
      let ov ← holding [v] (eval o X.env)
      let iv ← holding [v, ov] (eval k X.env)
      standAt tpos
      holding [v, ov, iv] (setItem ov iv v)
      release [v, ov, iv] [])) :
    SS X C W own (.Assign [.Subscript o k tpos] e pos) (fun ρ => (me ρ).bind fun x ρ => (rdO i ρ).bind fun _ ρ => (mk ρ).bind fun z ρ => nx (stoD i z x ρ)) := by
  obtain ⟨t, h1, h2⟩ := he
  obtain ⟨u, g1, g2⟩ := hk
  refine ⟨_, ps_asg h1 (pg_sub ho g1 set_list has) hs hw ha, fun σ H ρ D R h => h2 σ H ρ _ R (h.bind (β := V) fun x ρ1 v H1 R1 e1 d1 h => ?_)⟩
  obtain ⟨l, e2, h⟩ := h.rdO
  obtain ⟨a, xs, q1, _⟩ := own_ref R1 e2
  refine ⟨_, q1, g2 σ H1 ρ1 _ R1 (h.bind (β := V) fun z ρ2 w H2 R2 e3 d2 h => ?_)⟩
  obtain ⟨_, ρ3, e4, h⟩ := h.nx fun _ _ _ => stoD_exc
  exact sto_run R2 q1 d2 (d1.evo e3) e4 fun H' R3 ev => h σ H' R3 ev
/-- x.append(e) -/
theorem ss_app {i : Nat} {o e : Expr} {pos apos cpos : Pos} {me : En → Res Sm.D} (ho : PE X o (tVar i)) (he : SE X C W e me)
    (hb : attributeBase o "append" X.env (eval o X.env) = eval o X.env) (hf : ((backTo cpos (starEach [e] X.env)).all (fun x => !x.1) && (backToKw cpos (keywordEach [] X.env)).all (fun x => x.1.isSome) && decide ([e].length + ([] : List Keyword).length + (if ([] : List Keyword).isEmpty then 0 else 1) < 30)) = true)
    (hl : (apos.endLine == cpos.line) = true) (hst : starEach [e] X.env = [(false, eval e X.env)]) (hs : swapsWith (.Call (.Attribute o "append" apos) [e] [] cpos) none pos.line X.env = pure false) :
    SS X C W own (.Expr (.Call (.Attribute o "append" apos) [e] [] cpos) pos) (fun ρ => (rdO i ρ).bind fun _ ρ => (me ρ).bind fun x ρ => (rdO i ρ).bind fun l ρ => if l.length < sizeLine then nx (chg i (l ++ [x]) ρ) else .bad) := by
  obtain ⟨t, h1, h2⟩ := he
  refine ⟨_, ps_expr (pe_bm PySem.F.plainAttrs_list PySem.F.slot_list_append PySem.F.type_list_append mt_append ho (pa_cons h1 pa_nil hst) hb hf hl hst rfl) hs, fun σ H ρ D R h => ?_⟩
  obtain ⟨l0, e0, h⟩ := PostS.rdO h
  obtain ⟨a, xs0, q1, q2, _⟩ := own_ref R e0
  refine ⟨_, q1, .inl ⟨rfl, _, .of q2⟩, h2 σ H ρ _ R (h.bind (β := V) fun x ρ1 v H1 R1 e1 d1 h => ?_)⟩
  obtain ⟨l, e2, h⟩ := h.rdO
  obtain ⟨a', xs, p1, p2, p3⟩ := own_ref R1 e2
  rw [q1] at p1
  cases p1
  by_cases hz : l.length < sizeLine
  · rw [if_pos hz] at h
    obtain ⟨ρ2, e3, h⟩ := chg_nx h
    have hz' : xs.length < sizeLine := by rw [p3.length]; exact hz
    obtain ⟨R2, ev⟩ := R1.chgL e3 q1 (xs := xs ++ [v]) (by rw [List.length_append]; exact hz') (p3.append (.one d1))
    exact ⟨a, xs, v, rfl, rfl, p2, hz', h σ _ R2 ev⟩
  · rw [if_neg hz] at h
    exact h.elim
/-- x.extend(e), e a list -/
theorem ss_ext {i : Nat} {o e : Expr} {pos apos cpos : Pos} {me : En → Res Sm.D} (ho : PE X o (tVar i)) (he : SE X C W e me)
    (hb : attributeBase o "extend" X.env (eval o X.env) = eval o X.env) (hf : ((backTo cpos (starEach [e] X.env)).all (fun x => !x.1) && (backToKw cpos (keywordEach [] X.env)).all (fun x => x.1.isSome) && decide ([e].length + ([] : List Keyword).length + (if ([] : List Keyword).isEmpty then 0 else 1) < 30)) = true)
    (hl : (apos.endLine == cpos.line) = true) (hst : starEach [e] X.env = [(false, eval e X.env)]) (hs : swapsWith (.Call (.Attribute o "extend" apos) [e] [] cpos) none pos.line X.env = pure false) :
    SS X C W own (.Expr (.Call (.Attribute o "extend" apos) [e] [] cpos) pos) (fun ρ => (rdO i ρ).bind fun _ ρ => (me ρ).bind fun x ρ => (rdO i ρ).bind fun l ρ => match x with
      | .lst l' => if l.length + l'.length ≤ sizeLine then nx (chg i (l ++ l') ρ) else .bad
      | _ => .bad) := by
  obtain ⟨t, h1, h2⟩ := he
  refine ⟨_, ps_expr (pe_bm PySem.F.plainAttrs_list PySem.F.slot_list_extend PySem.F.type_list_extend mt_extend ho (pa_cons h1 pa_nil hst) hb hf hl hst rfl) hs, fun σ H ρ D R h => ?_⟩
  obtain ⟨l0, e0, h⟩ := PostS.rdO h
  obtain ⟨a, xs0, q1, q2, _⟩ := own_ref R e0
  refine ⟨_, q1, .inl ⟨rfl, _, .of q2⟩, h2 σ H ρ _ R (h.bind (β := V) fun x ρ1 v H1 R1 e1 d1 h => ?_)⟩
  obtain ⟨l, e2, h⟩ := h.rdO
  obtain ⟨a', xs, p1, p2, p3⟩ := own_ref R1 e2
  rw [q1] at p1
  cases p1
  cases x with
  | lst l' =>
    by_cases hz : l.length + l'.length ≤ sizeLine
    · simp only [if_pos hz] at h
      obtain ⟨ρ2, e3, h⟩ := chg_nx h
      cases d1 with
      | lst w1 w2 w3 =>
        rename_i b zs
        have hz' : xs.length + zs.length ≤ sizeLine := by rw [p3.length, w3.length]; exact hz
        obtain ⟨R2, ev⟩ := R1.chgL e3 q1 (xs := xs ++ zs) (by rw [List.length_append]; exact hz') (p3.append w3)
        exact ⟨a, b, xs, zs, rfl, rfl, p2, w1, hz', h σ _ R2 ev⟩
    · simp only [if_neg hz] at h
      exact h.elim
  | _ => exact h.elim
/-- x op= e with ints -/
theorem ss_aug {i : Nat} {x : Str} {e : Expr} {op : Operator} {o : Bop} {g : Int → Int → Int} {pos pos' : Pos} {me : En → Res Sm.D} (hN : X.N.Nodup) (hi : X.N[i]? = some x) (hx : Loc X.env.scope x) (hf : X.fn x = true) (he : SE X C W e me) (hp : PIp X op (ipI g)) (ho : ∀ a b, o.ev (.int a) (.int b) = some (.int (g a b))) :
    SS X C W own (.AugAssign (.Name x pos') op e pos) (fun ρ => (rdE i ρ).bind fun x ρ => (me ρ).bind fun y ρ => (match x, y with
      | .int _, .int _ => opt (o.ev x y) ρ
      | _, _ => .bad).bind fun z ρ => nx (put i (.dat z) ρ)) := by
  obtain ⟨t, h1, h2⟩ := he
  refine ⟨_, ps_aug hN hi hx h1 hp (.inl hf), fun σ H ρ D R h => ?_⟩
  obtain ⟨d, ρ0, e0, h⟩ := PostS.pure h fun c x ρ' z => by unfold rdE at z; split at z <;> cases z
  unfold rdE at e0
  split at e0
  · rename_i d' e1
    cases e0
    obtain ⟨v, q1, q2⟩ := R.slot i _ e1
    refine ⟨v, q1, h2 σ H ρ _ R (h.bind (β := V) fun y ρ1 w H1 R1 ev d1 h => ?_)⟩
    cases q2 with
    | int a =>
      cases d1 with
      | int b =>
        simp only [ho] at h
        obtain ⟨z, ez, h⟩ := h.opt
        cases ez
        obtain ⟨ρ2, e3, h⟩ := put_nx h
        obtain ⟨R2, ev2⟩ := R1.putD e3 (.int (g a b))
        exact ⟨a, b, rfl, rfl, h _ H1 R2 ev2⟩
      | _ => exact h.elim
    | _ => exact h.elim
  · cases e0
/-- from here on a list of its own is a datum -/
theorem sss_frz {i : Nat} {sts : List Stmt} {n : En → Res Fl} (h : SSs X C W own sts n) : SSs X C W own sts (fun ρ => (frzE i ρ).bind fun f ρ => match f with
    | .nx => n ρ
    | .rt d => .ok (.rt d) ρ
    | .bk => .ok .bk ρ
    | .ct => .ok .ct ρ) := by
  obtain ⟨t, h1, h2⟩ := h
  refine ⟨t, h1, fun σ H ρ D R h => ?_⟩
  have key : (∃ ds, ρ[i]? = some (.own ds) ∧ frzE i ρ = .ok .nx (ρ.set i (.dat (.lst ds)))) ∨ frzE i ρ = .ok .nx ρ ∨ frzE i ρ = .bad := by
    unfold frzE
    split
    · rename_i ds e; exact .inl ⟨ds, e, rfl⟩
    · exact .inr (.inl rfl)
    · exact .inr (.inr rfl)
  rcases key with ⟨ds, e, q⟩ | q | q
  · simp only [q, Res.bind] at h
    obtain ⟨R2, ev⟩ := R.freeze e
    exact h2 σ H _ D R2 (PostS.from ev h)
  · simp only [q, Res.bind] at h
    exact h2 σ H ρ D R h
  · simp only [q, Res.bind] at h
    exact h.elim
/-! ### loops -/
theorem PostS.lock {vs : List Nat} {r : Res Fl} (R : Rel C σ H ρ) (h : PostS C W own σ H ρ D (r.bind fun f ρ2 => .ok f (unlockE ρ2 ρ vs))) : PostS (C.lock σ ρ vs) W own σ H (lockE ρ vs) D r := by
  have eP : Pw (C.lock σ ρ vs) σ (lockE ρ vs) = Pw C σ ρ := lock_pw vs
  have un : ∀ σ2 ρ2, Pw C σ2 (unlockE ρ2 ρ vs) = Pw (C.lock σ ρ vs) σ2 ρ2 := fun σ2 ρ2 => unlock_pw vs
  cases r with
  | bad => exact h
  | exc c x ρ2 =>
    intro cl d σ' H' R' ev ex
    rw [eP] at ev
    refine h cl d σ' H' ?_ ev ex
    exact ⟨⟨R'.ok.ox, R'.ok.bx, R.ok.lk⟩, R'.len, fun j s e => by have z := R'.slot j s e; cases s <;> exact z, R'.inj, R'.frm, R'.evo, R'.io, R'.ioI, R'.lim, fun p hp => R'.lk p (List.mem_append_left _ hp), R'.bld, R'.bown⟩
  | ok f ρ2 =>
    cases f with
    | nx => exact fun σ' H' R' ev => h σ' H' (R.unlock vs R') (by rw [un, ← eP]; exact ev)
    | bk => exact fun σ' H' R' ev => h σ' H' (R.unlock vs R') (by rw [un, ← eP]; exact ev)
    | ct => exact fun σ' H' R' ev => h σ' H' (R.unlock vs R') (by rw [un, ← eP]; exact ev)
    | rt d =>
      intro σ' H' v R' ev rr
      refine h σ' H' v (R.unlock vs R') (by rw [un, ← eP]; exact ev) ?_
      cases own with
      | false =>
        show Dat H' (Pw C σ' (unlockE ρ2 ρ vs)) v d
        rw [un]
        exact rr
      | true =>
        obtain ⟨hd, dt, fr⟩ := rr
        refine ⟨hd, by rw [un]; exact dt, fun ds e => ?_⟩
        obtain ⟨a, xs, h1, h2, h3, h4⟩ := fr ds e
        exact ⟨a, xs, h1, h2, R.unlock vs h3, by rw [un]; exact h4⟩
end
end Sm
end

section
set_option Elab.async false
set_option linter.all false
set_option autoImplicit false
set_option maxRecDepth 100000
/-! Sm14: loops; rows of targets. -/
namespace Sm
open PySem PySem.Spec PyProof.Rows L2
section
variable {X : Cx} {C : Fc} {W : WX} {own : Bool} {σ σ1 : L2.St} {H H1 : Hp} {ρ ρ1 : En} {D : Ends}
theorem for_sim {t : Tg} {vs : List Nat} {wi : TI} {g : TG} {tb : TS} {src : En → Res (List Sm.D)} {body : En → Res Fl} (hi : Sim C W (ItR C vs) wi src) (hg : ∀ C', C'.K = C.K → C'.mg = C.mg → GOk C' t g) (hb : ∀ C', C'.K = C.K → C'.mg = C.mg → SimS C' W own tb body) :
    SimS C W own (tFor wi g tb) (fun ρ => (src ρ).bind fun xs ρ => (forLoop t body xs (lockE ρ vs)).bind fun f ρ2 => .ok f (unlockE ρ2 ρ vs)) := fun σ H ρ0 D R h => by
  refine hi σ H ρ0 _ R (h.bind (β := L2.It) fun xs ρ J H1 R1 e1 items h => ?_)
  have hL := PostS.lock R1 h
  have RL := R1.lock vs
  refine ⟨fun i m σ' H' => m = xs.length - i ∧ i ≤ xs.length ∧ ∃ ρi, Rel (C.lock σ ρ vs) σ' H' ρi ∧ Evo (Pw (C.lock σ ρ vs) σ (lockE ρ vs)) H1 (Pw (C.lock σ ρ vs) σ' ρi) H' ∧ PostS (C.lock σ ρ vs) W own σ' H' ρi D (forLoop t body (xs.drop i) ρi),
    ⟨xs.length, rfl, Nat.zero_le _, _, RL, .refl _ _, hL⟩, ?_⟩
  rintro i m σi Hi ⟨rfl, hin, ρi, Ri, evi, pi⟩
  have it := items _ σi Hi ρi (.refl _) Ri evi
  by_cases hlt : i < xs.length
  · obtain ⟨go, yl⟩ := it.1 i _ (List.getElem?_eq_getElem hlt)
    refine .inr ⟨go, fun σ' H' => ∃ ρi, Rel (C.lock σ ρ vs) σ' H' ρi ∧ Evo (Pw (C.lock σ ρ vs) σ (lockE ρ vs)) H1 (Pw (C.lock σ ρ vs) σ' ρi) H' ∧ PostS (C.lock σ ρ vs) W own σ' H' ρi D (forLoop t body (xs.drop (i + 1)) ρi), fun σ' H' nx => ⟨xs.length - (i + 1), by omega, rfl, hlt, nx⟩, fun x H' y => ?_⟩
    obtain ⟨Ry, evy, dy⟩ := yl x H' y
    rw [List.drop_eq_getElem_cons hlt] at pi
    unfold forLoop at pi
    obtain ⟨u, ρa, ea, pi⟩ := PostS.pure pi fun _ _ _ => Tput_exc
    refine hg (C.lock σ ρ vs) rfl rfl σi H' ρi x _ u ρa _ Ry dy ea fun σ2 R2 ev2 o2 => ?_
    refine hb (C.lock σ ρ vs) rfl rfl σ2 H' ρa _ R2 ?_
    have ev02 := (evi.trans evy).trans ev2
    have p2 := PostS.from (evy.trans ev2) pi
    cases q : body ρa with
    | bad => simp only [q, Res.bind] at p2; exact p2.elim
    | exc c x ρb => simp only [q, Res.bind] at p2; exact p2
    | ok f ρb =>
      simp only [q, Res.bind] at p2
      cases f with
      | nx => exact fun σ' H' R' ev => ⟨ρb, R', ev02.trans ev, PostS.from ev p2⟩
      | ct => exact fun σ' H' R' ev => ⟨ρb, R', ev02.trans ev, PostS.from ev p2⟩
      | bk => exact p2
      | rt d => exact p2
  · have ei : i = xs.length := by omega
    subst ei
    rw [List.drop_length] at pi
    exact .inl ⟨it.2, pi σi Hi Ri (.refl _ _)⟩
theorem SS.all' {κ : Type} {C : κ → Fc} {sts : List Stmt} {m : En → Res Fl} (h : ∀ j, SSs X (C j) W own sts m) : ∃ t, PSs X sts t ∧ ∀ j, SimS (C j) W own t m :=
  ⟨fun D σ H => ∃ j, (h j).choose D σ H, ⟨fun pins s σ H D I ⟨j, q⟩ => (h j).choose_spec.1.run pins s σ H D I q⟩, fun j σ H ρ D R p => ⟨j, (h j).choose_spec.2 σ H ρ D R p⟩⟩
theorem ss_for {tg iter : Expr} {body : List Stmt} {pos : Pos} {t : Tg} {vs : List Nat} {src : En → Res (List Sm.D)} {mb : En → Res Fl} (hp : PassesOwn (model X.prog X.w) X.A X.env X.xe) (hc : X.calm = true) (hi : SI X C W tg iter vs src)
    (hg : ∀ C' : Fc, C'.K = C.K → C'.mg = C.mg → STt X C' tg t) (hb : ∀ C' : Fc, C'.K = C.K → C'.mg = C.mg → SSs X C' W own body mb) (hs : ∀ x, foldedSetIterable iter X.env x = pure x) :
    SS X C W own (.For tg iter body [] pos) (fun ρ => (src ρ).bind fun xs ρ => (forLoop t mb xs (lockE ρ vs)).bind fun f ρ2 => .ok f (unlockE ρ2 ρ vs)) := by
  obtain ⟨wi, i1, i2⟩ := hi
  obtain ⟨g, g1, g2⟩ := STt.all (ι := Unit) (X := fun _ => X) (κ := {C' : Fc // C'.K = C.K ∧ C'.mg = C.mg}) (C := fun j => j.1) fun _ j => hg j.1 j.2.1 j.2.2
  obtain ⟨tb, b1, b2⟩ := SS.all' (κ := {C' : Fc // C'.K = C.K ∧ C'.mg = C.mg}) (C := fun j => j.1) fun j => hb j.1 j.2.1 j.2.2
  exact ⟨_, ps_for hp hc i1 (g1 ()) b1 hs, for_sim i2 (fun C' h1 h2 => g2 ⟨C', h1, h2⟩) fun C' h1 h2 => b2 ⟨C', h1, h2⟩⟩
theorem ss_whl {c : Expr} {body : List Stmt} {pos : Pos} {mc : En → Res Bool} {mb : En → Res Fl} (hp : PassesOwn (model X.prog X.w) X.A X.env X.xe) (hc : ST X C W c mc) (hb : SSs X C W own body mb) (n : Nat) :
    SS X C W own (.While c body [] pos) (fun ρ => whlLoop mc mb n ρ) := by
  obtain ⟨t, h1, h2⟩ := hc
  obtain ⟨u, b1, b2⟩ := hb
  refine ⟨_, ps_while hp h1 b1, fun σ H ρ D R h => ⟨fun m σ' H' => ∃ ρ', Rel C σ' H' ρ' ∧ PostS C W own σ' H' ρ' D (whlLoop mc mb m ρ'), ⟨n, ρ, R, h⟩, ?_⟩⟩
  rintro m σi Hi ⟨ρi, Ri, pi⟩
  cases m with
  | zero => exact pi.elim
  | succ m =>
    unfold whlLoop at pi
    refine h2 σi Hi ρi _ Ri (pi.bind (β := V) fun b ρ1 b' H1 R1 e1 d1 p => ?_)
    cases d1
    cases b with
    | false =>
      simp only [Bool.false_eq_true, if_false]
      exact p σi H1 R1 (.refl _ _)
    | true =>
      simp only [if_true]
      refine ⟨fun σ' H' => ∃ ρ', Rel C σ' H' ρ' ∧ PostS C W own σ' H' ρ' D (whlLoop mc mb m ρ'), fun σ' H' z => ⟨m, Nat.lt_succ_self _, z⟩, b2 σi H1 ρ1 _ R1 ?_⟩
      cases q : mb ρ1 with
      | bad => simp only [q, Res.bind] at p; exact p.elim
      | exc c x ρb => simp only [q, Res.bind] at p; exact p
      | ok f ρb =>
        simp only [q, Res.bind] at p
        cases f with
        | nx => exact fun σ' H' R' ev => ⟨ρb, R', PostS.from ev p⟩
        | ct => exact fun σ' H' R' ev => ⟨ρb, R', PostS.from ev p⟩
        | bk => exact p
        | rt d => exact p
/-- a row of targets, items stored too -/
def SGs (X : Cx) (C : Fc) (W : WX) (es : List Expr) (m : List Sm.D → En → Res Unit) : Prop := ∃ g, PGs X es g ∧ ∀ (own : Bool) (σ : L2.St) (H : Hp) (ρ : En) (vs : List V) (ds : List Sm.D) (D : Ends), Rel C σ H ρ → DatL H (Pw C σ ρ) vs ds → PostS C W own σ H ρ D (nx (m ds ρ)) → g vs σ H D.nx
theorem bind_nx {α : Type} (r : Res α) (f : α → En → Res Unit) : nx (r.bind f) = r.bind fun a ρ => nx (f a ρ) := by cases r <;> rfl
theorem sgs_nil {F : Nat → List Ar → FRes} : SGs X C W [] (putS F []) := by
  refine ⟨_, pgs_nil, fun own σ H ρ vs ds D R hd h => ?_⟩
  cases hd with
  | nil => exact ⟨rfl, h σ H R (.refl _ _)⟩
  | cons _ _ => exact h.elim
theorem sgs_nm {F : Nat → List Ar → FRes} {i : Nat} {x : Str} {pos : Pos} {es : List Expr} {r : List STg} (hN : X.N.Nodup) (hi : X.N[i]? = some x) (hx : Loc X.env.scope x) (hf : X.fn x = true) (hr : SGs X C W es (putS F r))
    (hs : (assignEach (.Name x pos :: es) X.env).map (·.2) = assign (.Name x pos) X.env :: (assignEach es X.env).map (·.2)) : SGs X C W (.Name x pos :: es) (putS F (.nm i :: r)) := by
  obtain ⟨g, g1, g2⟩ := hr
  refine ⟨_, pgs_cons (pg_name hN hi hx (.inl hf)) g1 hs, fun own σ H ρ vs ds D R hd h => ?_⟩
  cases hd with
  | nil => exact h.elim
  | cons d1 dr =>
    unfold putS at h
    rw [bind_nx] at h
    obtain ⟨_, ρ1, e1, h9⟩ := h.pure fun _ _ _ => put_exc
    obtain ⟨R1, ev⟩ := R.putD e1 d1
    exact ⟨_, _, rfl, g2 own _ H ρ1 _ _ D R1 (dr.evo ev) (PostS.from ev h9)⟩
theorem sgs_sub {F : Nat → List Ar → FRes} {i : Nat} {o k : Expr} {ik : Ex} {pos : Pos} {es : List Expr} {r : List STg} (ho : PE X o (tVar i)) (hk : SE X C W k (evE F ik)) (hr : SGs X C W es (putS F r))
    (has : ∀ v, assign (.Subscript o k pos) X.env v = (do
      let ov ← holding [v] (eval o X.env)
      let iv ← holding [v, ov] (eval k X.env)
      standAt pos
      holding [v, ov, iv] (setItem ov iv v)
      release [v, ov, iv] []))
    (hs : (assignEach (.Subscript o k pos :: es) X.env).map (·.2) = assign (.Subscript o k pos) X.env :: (assignEach es X.env).map (·.2)) : SGs X C W (.Subscript o k pos :: es) (putS F (.sub i ik :: r)) := by
  obtain ⟨g, g1, g2⟩ := hr
  obtain ⟨t, h1, h2⟩ := hk
  refine ⟨_, pgs_cons (pg_sub ho h1 set_list has) g1 hs, fun own σ H ρ vs ds D R hd h => ?_⟩
  cases hd with
  | nil => exact h.elim
  | cons d1 dr =>
    unfold putS at h
    rw [bind_nx] at h
    obtain ⟨l, e2, h9⟩ := h.rdO
    obtain ⟨a, xs, q1, _⟩ := own_ref R e2
    rw [bind_nx] at h9
    refine ⟨_, _, rfl, _, q1, h2 σ H ρ _ R (h9.bind (β := V) fun z ρ2 w H2 R2 e3 d2 p => ?_)⟩
    rw [bind_nx] at p
    obtain ⟨_, ρ3, e4, p9⟩ := p.pure fun _ _ _ => stoD_exc
    exact sto_run R2 q1 d2 (d1.evo e3) e4 fun H' R3 ev => g2 own σ H' ρ3 _ _ D R3 ((dr.evo e3).evo ev) (PostS.from ev p9)
/-- a[i], a[j] = x, y -/
theorem ss_asgs {F : Nat → List Ar → FRes} {ts es : List Expr} {tk ek : Nat} {tpos epos pos : Pos} {r : List STg} {m : En → Res (List Sm.D)} (hK : C.K = X.K) (hc : X.calm = true) (he : SEs X C W es m) (hr : SGs X C W ts (putS F r)) (hl : ts.length = es.length)
    (hn : (assignEach ts X.env).length = ts.length) (hst : (assignEach ts X.env).findIdx? (·.1) = none) (hlen : ∀ ρ ds ρ', m ρ = .ok ds ρ' → ds.length = es.length) (hsz : es.length ≤ sizeLine)
    (hs : swapsWithSole [.Tuple ts tk tpos] (.Tuple es ek epos) pos.line X.env = pure false) (hw : swappedStores [.Tuple ts tk tpos] (.Tuple es ek epos) X.env = pure none) (ha : (assignEach [.Tuple ts tk tpos] X.env).map (·.2) = [assign (.Tuple ts tk tpos) X.env]) :
    SS X C W own (.Assign [.Tuple ts tk tpos] (.Tuple es ek epos) pos) (fun ρ => (m ρ).bind fun xs ρ => nx (putS F r xs ρ)) := by
  obtain ⟨t, h1, h2⟩ := he
  obtain ⟨g, g1, g2⟩ := hr
  refine ⟨_, ps_asg (pe_tup h1) (pg_tup hc g1 hn hst) hs hw ha, fun σ H ρ D R h => ?_⟩
  replace h : PostS C W own σ H ρ D ((m ρ).bind fun xs ρ => nx (putS F r xs ρ)) := h
  have h2' := h2 σ H ρ
  have hl' := hlen ρ
  cases q : m ρ with
  | bad => rw [q] at h; exact h.elim
  | exc c x ρ1 =>
    rw [q] at h h2'
    exact h2' _ R fun cl d H' x y z => h cl d σ H' x y z
  | ok ds ρ1 =>
    rw [q] at h h2' hl'
    refine h2' _ R fun vs H1 R1 e1 d1 => ?_
    have el := hl' ds ρ1 rfl
    have hv : vs.length = es.length := d1.length.trans el
    refine ⟨by rw [hv]; exact hsz, fun p hp => ?_⟩
    obtain ⟨R2, ev2, d2⟩ := R1.newT hp (by rw [hv]; exact hsz) d1
    exact ⟨p, vs, rfl, .of upd_same, by rw [hv, hl], g2 own σ _ ρ1 vs ds D R2 (d1.evo ev2) (PostS.from (e1.trans ev2) h)⟩
end
end Sm
end

section
set_option Elab.async false
set_option linter.all false
set_option autoImplicit false
set_option maxRecDepth 100000
/-! Sm15: the IR held against the written text: expressions. -/
namespace Sm
open PySem PySem.Spec PyProof.Rows L2
/-- what is fixed for a def: its slots' names, the table of defs, the names that are built-ins -/
structure Sg where
  N : List Str
  T : List Fn
  Bn : List Str
  gc : Bool
  lc : Bool
def visB (sc : Scope) (x : Str) : Bool := match sc.names.lookup x with
  | some .local => true
  | some .cell => true
  | some .free => true
  | _ => false
def locB (sc : Scope) (x : Str) : Bool := decide (sc.names.lookup x = some .local)
/-- a name that may be stored: in a def's body a cell too -/
def locC (c : Bool) (sc : Scope) (x : Str) : Bool := decide (sc.names.lookup x = some .local) || (c && decide (sc.names.lookup x = some .cell))
def okNm (x : Str) : Bool := !(x == ("__debug__" : Str)) && !(x == ("__classdict__" : Str))
def glB (sc : Scope) (x : Str) : Bool := decide (sc.names.lookup x = some .globalImplicit) && okNm x
def nameB (N : List Str) (sc : Scope) (i : Nat) (x : Str) : Bool := decide (N[i]? = some x) && (visB sc x && okNm x)
def slotB (N : List Str) (sc : Scope) (i : Nat) (e : Expr) : Bool := match e with
  | .Name x _ => nameB N sc i x
  | _ => false
def noStar : Expr → Bool
  | .Starred _ _ => false
  | _ => true
def noSet : Expr → Bool
  | .Set _ _ _ => false
  | _ => true
def noSlice : Expr → Bool
  | .Slice _ _ _ _ => false
  | _ => true
def isTup : Expr → Bool
  | .Tuple _ _ _ => true
  | _ => false
def plainT : Expr → Bool
  | .UnaryOp .Not _ _ => false
  | .BoolOp _ _ _ => false
  | .IfExp _ _ _ _ => false
  | .Compare _ _ _ _ => false
  | _ => true
inductive Kd where | E | B | H | T
def Kd.ok (k : Kd) (e : Expr) : Bool := match k with
  | .T => plainT e
  | _ => true
def Kd.noE : Kd → Bool
  | .E => false
  | _ => true
def biB (S : Sg) (b : Bi) : Bool := match b with
  | .gcd => S.gc
  | .lcm => S.lc
  | b => decide (b.name ∈ S.Bn)
def bnB (S : Sg) (sc : Scope) (x : Str) : Bool := decide (x ∈ S.Bn) && glB sc x
def bi1B : Bi → Bool
  | .len => true | .int_ => true | .abs => true | .tuple => true | .list => true | .sum => true | _ => false
def bi2B : Bi → Bool
  | .gcd => true | .lcm => true | .min2 => true | .max2 => true | _ => false
def tyB (S : Sg) (sc : Scope) (t : Ty) (c : Expr) : Bool := match c with
  | .Name x _ => decide (x = (t.nm : Str)) && (t.plain && bnB S sc x)
  | _ => false
def tysB (S : Sg) (sc : Scope) : List Ty → List Expr → Bool
  | [], [] => true
  | t :: ts, c :: cs => tyB S sc t c && (noStar c && tysB S sc ts cs)
  | _, _ => false
def ownP (N : List Str) (own : List Nat) : List (Str × Nat) := own.map fun i => ((N[i]?).getD "", i)
mutual
def chkT1 (c : Bool) (N : List Str) : Tg → Scope → Expr → Bool
  | .nm i, sc, e => match e with
    | .Name x _ => decide (N[i]? = some x) && locC c sc x
    | _ => false
  | .nl, _, _ => false
  | .tp a r, sc, e => match e with
    | .Tuple (x :: xs) _ _ => chkT1 c N a sc x && (noStar x && (chkTs c N r sc xs && r.isRow))
    | _ => false
def chkTs (c : Bool) (N : List Str) : Tg → Scope → List Expr → Bool
  | .nm _, _, _ => false
  | .nl, _, es => es.isEmpty
  | .tp a r, sc, es => match es with
    | x :: xs => chkT1 c N a sc x && (noStar x && chkTs c N r sc xs)
    | _ => false
end
def Ex.isNon : Ex → Bool
  | .non => true
  | _ => false
/-- the rest of a chain -/
def restE (op : BoolOp) (y : Expr) (rest : List Expr) (pos : Pos) : Expr := match rest with
  | [] => y
  | _ :: _ => .BoolOp op (y :: rest) pos
mutual
def chk (S : Sg) : Ex → Kd → Scope → Expr → Bool
  | .var i, k, sc, e => slotB S.N sc i e
  | .bor i, k, sc, e => k.noE && slotB S.N sc i e
  | .io _, _, _, _ => false
  | .scr _, _, _, _ => false
  | .non, _, _, e => match e with
    | .Constant .none _ _ => true
    | _ => false
  | .bl b, _, _, e => match e with
    | .Constant (.bool c) _ _ => b == c
    | _ => false
  | .int n, _, _, e => match e with
    | .Constant (.int m) _ _ => n == m
    | _ => false
  | .str s, _, _, e => match e with
    | .Constant (.str t) _ _ => s == t
    | _ => false
  | .tup es, _, sc, e => match e with
    | .Tuple xs _ _ => chkEs S es sc xs
    | _ => false
  | .lst es, _, sc, e => match e with
    | .List xs _ => chkEs S es sc xs
    | _ => false
  | .bin o a b, _, sc, e => match e with
    | .BinOp x op y _ => decide (op = o.op) && (chk S a .H sc x && chk S b .H sc y)
    | _ => false
  | .neg a, _, sc, e => match e with
    | .UnaryOp .USub x _ => chk S a .E sc x
    | _ => false
  | .not_ a, k, sc, e => match e with
    | .UnaryOp .Not x _ => match k with
      | .T => chk S a .T sc x
      | _ => chk S a .B sc x
    | _ => false
  | .cmp o a b, _, sc, e => match e with
    | .Compare x [op] [y] _ => decide (op = o.op) && (noSet y && (chk S a .H sc x && chk S b .H sc y))
    | _ => false
  | .and_ a b, k, sc, e => match e with
    | .BoolOp .And (x :: y :: rest) pos => match k with
      | .T => chk S a .T sc x && chk S b .T sc (restE .And y rest pos)
      | _ => chk S a .E sc x && chk S b .E sc (restE .And y rest pos)
    | _ => false
  | .or_ a b, k, sc, e => match e with
    | .BoolOp .Or (x :: y :: rest) pos => match k with
      | .T => chk S a .T sc x && chk S b .T sc (restE .Or y rest pos)
      | _ => chk S a .E sc x && chk S b .E sc (restE .Or y rest pos)
    | _ => false
  | .ife c a b, k, sc, e => match e with
    | .IfExp t x y _ => k.ok e && (chk S c .T sc t && (chk S a .E sc x && chk S b .E sc y))
    | _ => false
  | .idx a i, _, sc, e => match e with
    | .Subscript x y _ => noSlice y && (chk S a .H sc x && chk S i .E sc y)
    | _ => false
  | .slc a lo hi, _, sc, e => match e with
    | .Subscript x (.Slice l h .none _) _ => chk S a .H sc x && ((match l with
      | some y => !lo.isNon && chk S lo .E sc y
      | none => lo.isNon) && match h with
      | some y => !hi.isNon && chk S hi .E sc y
      | none => hi.isNon)
    | _ => false
  | .slcS i lo hi, _, sc, e => match e with
    | .Subscript x (.Slice l h .none _) _ => slotB S.N sc i x && ((match l with
      | some y => !lo.isNon && chk S lo .E sc y
      | none => lo.isNon) && match h with
      | some y => !hi.isNon && chk S hi .E sc y
      | none => hi.isNon)
    | _ => false
  | .call f es, _, sc, e => match e with
    | .Call (.Name x _) xs [] _ => !xs.isEmpty && (glB sc x && ((match S.T[f]? with
      | some fn => decide (fn.name = x)
      | none => false) && chkAs S es sc xs))
    | _ => false
  | .cal b es, _, sc, e => match e with
    | .Call (.Name x _) [y] [] _ => decide (x = b.name) && (glB sc x && (biB S b && (bi1B b && (noStar y && match es with
      | .cons a .nil => chk S a .B sc y
      | _ => false))))
    | .Call (.Name x _) [y, z] [] _ => decide (x = b.name) && (glB sc x && (biB S b && (bi2B b && (noStar y && (noStar z && match es with
      | .cons a (.cons c .nil) => chk S a .E sc y && chk S c .E sc z
      | _ => false)))))
    | _ => false
  | .isi a ts, _, sc, e => match e with
    | .Call (.Name x _) [y, c] [] _ => decide (x = ("isinstance" : Str)) && (bnB S sc x && (noStar y && (noStar c && (chk S a .B sc y && match c with
      | .Tuple cs _ _ => tysB S sc ts cs && decide (ts.length ≤ 100)
      | c => match ts with
        | [t] => tyB S sc t c
        | _ => false))))
    | _ => false
  | .lc tg own src cond elt, _, sc, e => match e with
    | .ListComp y [⟨t, it, ifs, 0⟩] scope _ => decide (scope.kind = .function) && (blkC S.N sc scope (ownP S.N own) && (tg.slots.all (fun j => decide (j ∈ own)) && (noSet it && (chkIt S src sc t it &&
        (chkT1 false S.N tg (relS scope sc) t && ((match ifs with
        | [] => (match cond with
          | .bl true => true
          | _ => false)
        | [c] => chk S cond .T (relS scope sc) c
        | _ => false) && chk S elt .E (relS scope sc) y))))))
    | _ => false
def chkEs (S : Sg) : Exs → Scope → List Expr → Bool
  | .nil, _, xs => xs.isEmpty
  | .cons e es, sc, xs => match xs with
    | x :: xs => noStar x && (chk S e .E sc x && chkEs S es sc xs)
    | [] => false
def chkAs (S : Sg) : Exs → Scope → List Expr → Bool
  | .nil, _, xs => xs.isEmpty
  | .cons e es, sc, xs => match xs with
    | x :: xs => noStar x && ((match e with
      | .io i => slotB S.N sc i x
      | .scr i => slotB S.N sc i x
      | _ => chk S e .H sc x) && chkAs S es sc xs)
    | [] => false
def chkIt (S : Sg) : It → Scope → Expr → Expr → Bool
  | .seq e, sc, _, it => chk S e .H sc it
  | .rng1 a, sc, _, it => match it with
    | .Call (.Name x _) [y] [] _ => decide (x = ("range" : Str)) && (bnB S sc x && (noStar y && chk S a .E sc y))
    | _ => false
  | .rng2 a b, sc, _, it => match it with
    | .Call (.Name x _) [y, z] [] _ => decide (x = ("range" : Str)) && (bnB S sc x && (noStar y && (noStar z && (chk S a .E sc y && chk S b .E sc z))))
    | _ => false
  | .rng3 a b c, sc, _, it => match it with
    | .Call (.Name x _) [y, z, w] [] _ => decide (x = ("range" : Str)) && (bnB S sc x && (noStar y && (noStar z && (noStar w && (chk S a .E sc y && (chk S b .E sc z && chk S c .E sc w))))))
    | _ => false
  | .zip a b, sc, tg, it => match it with
    | .Call (.Name x _) [y, z] [] _ => decide (x = ("zip" : Str)) && (bnB S sc x && (isTup tg && (noStar y && (noStar z && (chk S a .H sc y && chk S b .H sc z)))))
    | _ => false
  | .enum a, sc, tg, it => match it with
    | .Call (.Name x _) [y] [] _ => decide (x = ("enumerate" : Str)) && (bnB S sc x && (isTup tg && (noStar y && chk S a .H sc y)))
    | _ => false
  | .rev a, sc, _, it => match it with
    | .Call (.Name x _) [y] [] _ => decide (x = ("reversed" : Str)) && (bnB S sc x && (noStar y && chk S a .H sc y))
    | _ => false
end
end Sm
end

section
set_option Elab.async false
set_option linter.all false
set_option autoImplicit false
set_option maxRecDepth 100000
/-! Sm16: the check of expressions is right. -/
namespace Sm
open PySem PySem.Spec PyProof.Rows L2
/-- what a context must be for the check to speak of it -/
structure Gd (S : Sg) (n : Nat) (F : Nat → List Ar → FRes) (sc : Scope) (X : Cx) (C : Fc) (W : WX) : Prop where
  N : X.N = S.N
  nd : S.N.Nodup
  scp : X.env.scope = sc
  kind : sc.kind = .function
  calm : X.calm = true
  K : C.K = X.K
  mg : C.mg = X.mg
  tk : Takes X W
  fns : ∀ f fn, S.T[f]? = some fn → FnAt X n (F f) fn
  rm : Room n X.A
  bn : ∀ x ∈ S.Bn, X.mg x = none
  gc : S.gc = true → X.mg "gcd" = some (.builtin "math.gcd")
  lc : S.lc = true → X.mg "lcm" = some (.builtin "math.lcm")
def isBool : Expr → Bool
  | .BoolOp _ _ _ => true
  | _ => false
def SK (X : Cx) (C : Fc) (W : WX) (F : Nat → List Ar → FRes) (k : Kd) (e : Expr) (ir : Ex) : Prop := match k with
  | .E => SE X C W e (evE F ir)
  | .B => SB X C W e (evE F ir)
  | .H => SH X C W e (evH F ir)
  | .T => ST X C W e (fun ρ => (evE F ir ρ).bind fun d ρ => truthM d ρ) ∧ (isBool e = true → SW X C W e (fun ρ => (evE F ir ρ).bind fun d ρ => truthM d ρ))
section
variable {S : Sg} {n : Nat} {F : Nat → List Ar → FRes} {sc : Scope} {X : Cx} {C : Fc} {W : WX}
theorem and2 {a b : Bool} (h : (a && b) = true) : a = true ∧ b = true := by rwa [Bool.and_eq_true] at h
theorem star_cons {e : Expr} {es : List Expr} {env : Env} (h : noStar e = true) : starEach (e :: es) env = (false, eval e env) :: starEach es env := by
  cases e <;> first | rfl | cases h
theorem asg_cons {e : Expr} {es : List Expr} {env : Env} (h : noStar e = true) : assignEach (e :: es) env = (false, assign e env) :: assignEach es env := by
  cases e <;> first | rfl | cases h
theorem noStars {pos : Pos} {env : Env} : ∀ {es : List Expr}, (∀ e ∈ es, noStar e = true) → (backTo pos (starEach es env)).any (·.1) = false
  | [], _ => rfl
  | e :: es, h => by
    rw [star_cons (h e List.mem_cons_self)]
    show (false || (backTo pos (starEach es env)).any (·.1)) = false
    rw [noStars fun x hx => h x (List.mem_cons_of_mem _ hx)]
    rfl
theorem marks_no {op : CmpOp} {e : Expr} (h : noSet e = true) : behindInMarks op e = false := by
  cases e <;> first | rfl | cases h
theorem ix_no {e : Expr} (h : noSlice e = true) : PlainIx e := by
  intro o i
  cases e <;> first | rfl | cases h
theorem fold_no {e : Expr} {env : Env} (h : noSet e = true) : ∀ x, foldedSetIterable e env x = pure x := by
  intro x
  cases e <;> first | rfl | cases h
theorem plain_true {e : Expr} {env : Env} (h : plainT e = true) : ∀ whole, isTrue e env whole = (do let v ← whole; standAt e.pos; holding [v] (truthy v)) := by
  intro whole
  cases e with
  | UnaryOp op x p => cases op <;> first | rfl | cases h
  | BoolOp _ _ _ => cases h
  | IfExp _ _ _ _ => cases h
  | Compare _ _ _ _ => cases h
  | _ => rfl
theorem okNm_ok {x : Str} (h : okNm x = true) : (x == ("__debug__" : Str)) = false ∧ (x == ("__classdict__" : Str)) = false := by
  unfold okNm at h
  obtain ⟨h1, h2⟩ := and2 h
  exact ⟨by simpa using h1, by simpa using h2⟩
theorem Gd.slot (G : Gd S n F sc X C W) {i : Nat} {e : Expr} (h : slotB S.N sc i e = true) : PE X e (tVar i) ∧ plainT e = true := by
  unfold slotB at h
  split at h
  · rename_i x p
    unfold nameB at h
    obtain ⟨h1, h2⟩ := and2 h
    obtain ⟨h2, h3⟩ := and2 h2
    obtain ⟨h3, h4⟩ := okNm_ok h3
    refine ⟨pe_var (by rw [G.N]; exact of_decide_eq_true h1) ?_ h3 h4, rfl⟩
    rw [G.scp]
    unfold visB at h2
    split at h2
    · exact .inl (by assumption)
    · exact .inr (.inl (by assumption))
    · exact .inr (.inr (by assumption))
    · cases h2
  · cases h
theorem Gd.gl (G : Gd S n F sc X C W) {x : Str} (h : glB sc x = true) : Gl X x ∧ (x == ("__debug__" : Str)) = false := by
  unfold glB at h
  obtain ⟨h1, h2⟩ := and2 h
  refine ⟨?_, (okNm_ok h2).1⟩
  show X.env.scope.names.lookup x = some .globalImplicit
  rw [G.scp]
  exact of_decide_eq_true h1
theorem Gd.bnm (G : Gd S n F sc X C W) {x : Str} (h : bnB S sc x = true) : Gl X x ∧ X.mg x = none := by
  unfold bnB at h
  obtain ⟨h1, h2⟩ := and2 h
  exact ⟨(G.gl h2).1, G.bn x (of_decide_eq_true h1)⟩
theorem Gd.hu (G : Gd S n F sc X C W) : X.A.units + 64 < cLine := by
  have := G.rm.un
  omega
theorem Gd.bi (G : Gd S n F sc X C W) {b : Bi} (h : biB S b = true) : b.mgOk X.mg := by
  cases b with
  | gcd => exact G.gc h
  | lcm => exact G.lc h
  | _ => exact G.bn _ (of_decide_eq_true h)
/-- in the block of a comprehension -/
theorem Gd.blk (G : Gd S n F sc X C W) {scope : Scope} (hk : scope.kind = .function) (s : Shared) (H : Hp) (c : Addr) (cl : List (Str × Addr)) (fp : List Addr) {C' : Fc} (h1 : C'.K = C.K) (h2 : C'.mg = C.mg) :
    Gd S n F (relS scope sc) (X.blk s H scope (compEnvC scope cl c X.env) fp) C' W0 where
  N := G.N
  nd := G.nd
  scp := by rw [← G.scp]; rfl
  kind := hk
  calm := G.calm
  K := h1.trans G.K
  mg := h2.trans G.mg
  tk := fun u s' h => by obtain ⟨_, _, _, _, _, _, _, _, _, _, _, _, _, _, _, _, z⟩ := h; exact z.elim
  fns := fun f fn e => ⟨(G.fns f fn e).at_, (G.fns f fn e).nb⟩
  rm := G.rm
  bn := G.bn
  gc := G.gc
  lc := G.lc
theorem SK.of {k : Kd} {e : Expr} {ir : Ex} (h : SE X C W e (evE F ir)) (hk : k = .T → plainT e = true) (hb : ∀ i, ir ≠ .bor i) : SK X C W F k e ir := by
  cases k with
  | E => exact h
  | B => exact h.toB
  | H =>
    have z : evH F ir = fun ρ => (evE F ir ρ).bind fun x ρ => .ok (.d x) ρ := by
      cases ir <;> first | rfl | exact absurd rfl (hb _)
    show SH X C W e (evH F ir)
    rw [z]
    exact h.toH
  | T => exact ⟨st_plain h.toB (plain_true (hk rfl)), fun z => by have q := hk rfl; cases e <;> first | (cases z; done) | (cases q; done)⟩
theorem ST.congr {e : Expr} {m m' : En → Res Bool} (h : ST X C W e m) (q : ∀ ρ, m ρ = m' ρ) : ST X C W e m' := by
  have z : m = m' := funext q
  rw [← z]
  exact h
theorem SW.congr {e : Expr} {m m' : En → Res Bool} (h : SW X C W e m) (q : ∀ ρ, m ρ = m' ρ) : SW X C W e m' := by
  have z : m = m' := funext q
  rw [← z]
  exact h
theorem boot_ty {t : Ty} (h : t.plain = true) : bootBuiltins (t.nm : Str) = some (.type t.nm) ∧ (t.nm : Str) ≠ "__name__" ∧ ((t.nm : Str) == ("__debug__" : Str)) = false := by
  cases t with
  | cls _ => cases h
  | _ => exact ⟨by decide +kernel, by decide +kernel, by decide +kernel⟩
theorem Gd.ty (G : Gd S n F sc X C W) {t : Ty} {c : Expr} (h : tyB S sc t c = true) : t.plain = true ∧ PE X c (tC (.ty t.nm)) := by
  unfold tyB at h
  split at h
  · rename_i x p
    obtain ⟨h1, h2⟩ := and2 h
    obtain ⟨h3, h4⟩ := and2 h2
    have h5 := of_decide_eq_true h1
    subst h5
    obtain ⟨g1, g2⟩ := G.bnm h4
    obtain ⟨b1, b2, b3⟩ := boot_ty h3
    exact ⟨h3, pe_cls g1 g2 b1 b2 b3⟩
  · cases h
theorem Gd.tys (G : Gd S n F sc X C W) : ∀ {ts : List Ty} {cs : List Expr}, tysB S sc ts cs = true → ts.all Ty.plain = true ∧ clsA cs ts X
  | [], [], _ => ⟨rfl, trivial⟩
  | [], _ :: _, h => by cases h
  | _ :: _, [], h => by cases h
  | t :: ts, c :: cs, h => by
    obtain ⟨h1, h2⟩ := and2 h
    obtain ⟨h2, h3⟩ := and2 h2
    obtain ⟨a1, a2⟩ := G.ty h1
    obtain ⟨b1, b2⟩ := G.tys h3
    refine ⟨?_, a2, star_cons h2, b2⟩
    rw [List.all_cons, a1, b1]
    rfl
theorem ownP_snd (N : List Str) (own : List Nat) : (ownP N own).map (·.2) = own := by
  unfold ownP
  rw [List.map_map]
  induction own with
  | nil => rfl
  | cons i r ih => rw [List.map_cons, ih]; rfl
/-! ### targets -/
theorem noStars_idx {env : Env} : ∀ {es : List Expr}, (∀ e ∈ es, noStar e = true) → (assignEach es env).findIdx? (·.1) = none
  | [], _ => rfl
  | e :: es, h => by
    rw [asg_cons (h e List.mem_cons_self), List.findIdx?_cons]
    simp only [Bool.false_eq_true, if_false]
    rw [noStars_idx fun x hx => h x (List.mem_cons_of_mem _ hx)]
    rfl
theorem asg_len {env : Env} : ∀ {es : List Expr}, (∀ e ∈ es, noStar e = true) → (assignEach es env).length = es.length
  | [], _ => rfl
  | e :: es, h => by
    rw [asg_cons (h e List.mem_cons_self), List.length_cons, asg_len fun x hx => h x (List.mem_cons_of_mem _ hx)]
    rfl
theorem locC_ok {c : Bool} {x : Str} (h : locC c sc x = true) (hc : c = true → X.fn x = true) (hs : X.env.scope = sc) : Loc X.env.scope x ∧ (X.fn x = true ∨ X.env.scope.names.lookup x = some .local) := by
  unfold locC at h
  rw [Bool.or_eq_true] at h
  rw [hs]
  rcases h with h | h
  · exact ⟨.inl (of_decide_eq_true h), .inr (of_decide_eq_true h)⟩
  · obtain ⟨h1, h2⟩ := and2 h
    exact ⟨.inr (of_decide_eq_true h2), .inl (hc h1)⟩
mutual
theorem tg_ok {c : Bool} : ∀ (t : Tg) (e : Expr) {X : Cx} {C : Fc} {W : WX}, Gd S n F sc X C W → (c = true → ∀ x, X.fn x = true) → chkT1 c S.N t sc e = true → STt X C e t
  | .nm i, e, X, C, W, G, hc, h => by
    unfold chkT1 at h
    split at h
    · rename_i x p
      obtain ⟨h1, h2⟩ := and2 h
      obtain ⟨l1, l2⟩ := locC_ok h2 (fun z => hc z x) G.scp
      exact stt_nm (by rw [G.N]; exact G.nd) (by rw [G.N]; exact of_decide_eq_true h1) l1 l2
    · cases h
  | .nl, e, X, C, W, G, hc, h => by unfold chkT1 at h; cases h
  | .tp a r, e, X, C, W, G, hc, h => by
    unfold chkT1 at h
    split at h
    · rename_i x xs k p
      obtain ⟨h1, h2⟩ := and2 h
      obtain ⟨h2, h3⟩ := and2 h2
      obtain ⟨h3, h4⟩ := and2 h3
      obtain ⟨q1, q2, q3⟩ := tgs_ok r xs G hc h3
      have st : ∀ e ∈ x :: xs, noStar e = true := fun e he => (List.mem_cons.mp he).elim (fun z => by rw [z]; exact h2) fun z => q2 e z
      have hs : (assignEach (x :: xs) X.env).map (·.2) = assign x X.env :: (assignEach xs X.env).map (·.2) := by rw [asg_cons h2]; rfl
      exact stt_tup G.K G.calm (sts_tp (tg_ok a x G hc h1) q1 hs) h4 (by rw [asg_len st, List.length_cons, q3]; rfl) (noStars_idx st)
    · cases h
theorem tgs_ok {c : Bool} : ∀ (t : Tg) (es : List Expr) {X : Cx} {C : Fc} {W : WX}, Gd S n F sc X C W → (c = true → ∀ x, X.fn x = true) → chkTs c S.N t sc es = true → STs X C es t ∧ (∀ e ∈ es, noStar e = true) ∧ es.length = t.len
  | .nm i, es, X, C, W, G, hc, h => by unfold chkTs at h; cases h
  | .nl, es, X, C, W, G, hc, h => by
    unfold chkTs at h
    cases es with
    | nil => exact ⟨sts_nl, fun e he => absurd he (by simp), rfl⟩
    | cons _ _ => cases h
  | .tp a r, es, X, C, W, G, hc, h => by
    unfold chkTs at h
    split at h
    · rename_i x xs
      obtain ⟨h1, h2⟩ := and2 h
      obtain ⟨h2, h3⟩ := and2 h2
      obtain ⟨q1, q2, q3⟩ := tgs_ok r xs G hc h3
      have hs : (assignEach (x :: xs) X.env).map (·.2) = assign x X.env :: (assignEach xs X.env).map (·.2) := by rw [asg_cons h2]; rfl
      exact ⟨sts_tp (tg_ok a x G hc h1) q1 hs, fun e he => (List.mem_cons.mp he).elim (fun z => by rw [z]; exact h2) fun z => q2 e z, by rw [List.length_cons, q3]; rfl⟩
    · cases h
end
end
end Sm
end

section
set_option Elab.async false
set_option linter.all false
set_option autoImplicit false
set_option maxRecDepth 100000
set_option maxHeartbeats 1000000
/-! Sm17: the check of expressions is right: the induction. -/
namespace Sm
open PySem PySem.Spec PyProof.Rows L2
section
variable {S : Sg} {n : Nat} {F : Nat → List Ar → FRes} {X : Cx} {C : Fc} {W : WX}
theorem evH_eq {ir : Ex} (hb : ∀ i, ir ≠ .bor i) : evH F ir = fun ρ => (evE F ir ρ).bind fun x ρ => .ok (.d x) ρ := by
  cases ir <;> first | rfl | exact absurd rfl (hb _)
theorem evH_bor {e : Ex} {ρ ρ' : En} {i : Nat} (h : evH F e ρ = .ok (.b i) ρ') : i ∈ e.lock := by
  by_cases hb : ∃ j, e = .bor j
  · obtain ⟨j, rfl⟩ := hb
    have h : (rdB j ρ).bind (fun _ ρ => Res.ok (Hd.b j) ρ) = .ok (.b i) ρ' := h
    obtain ⟨_, _, _, z⟩ := ok_of_bind h
    cases z
    exact List.mem_cons_self
  · rw [evH_eq fun j z => hb ⟨j, z⟩] at h
    obtain ⟨_, _, _, z⟩ := ok_of_bind h
    cases z
theorem and_T {a b : Ex} {e : Expr} (h : SW X C W e (fun ρ => ((evE F a ρ).bind fun d ρ => truthM d ρ).bind fun c ρ => match c with
    | true => (evE F b ρ).bind fun d ρ => truthM d ρ
    | false => .ok false ρ)) : SW X C W e (fun ρ => (evE F (.and_ a b) ρ).bind fun d ρ => truthM d ρ) := h.congr fun ρ => by
  show _ = ((evE F a ρ).bind fun x ρ => (truthM x ρ).bind fun c ρ => match c with | true => evE F b ρ | false => .ok x ρ).bind fun d ρ => truthM d ρ
  cases evE F a ρ with
  | ok x ρ1 =>
    show (truthM x ρ1).bind _ = ((truthM x ρ1).bind _).bind _
    unfold truthM
    cases q : x.truth with
    | none => rfl
    | some k => cases k with
      | true => rfl
      | false =>
        show Res.ok false ρ1 = opt x.truth ρ1
        rw [q]
        rfl
  | exc c x ρ1 => rfl
  | bad => rfl
theorem or_T {a b : Ex} {e : Expr} (h : SW X C W e (fun ρ => ((evE F a ρ).bind fun d ρ => truthM d ρ).bind fun c ρ => match c with
    | true => .ok true ρ
    | false => (evE F b ρ).bind fun d ρ => truthM d ρ)) : SW X C W e (fun ρ => (evE F (.or_ a b) ρ).bind fun d ρ => truthM d ρ) := h.congr fun ρ => by
  show _ = ((evE F a ρ).bind fun x ρ => (truthM x ρ).bind fun c ρ => match c with | true => .ok x ρ | false => evE F b ρ).bind fun d ρ => truthM d ρ
  cases evE F a ρ with
  | ok x ρ1 =>
    show (truthM x ρ1).bind _ = ((truthM x ρ1).bind _).bind _
    unfold truthM
    cases q : x.truth with
    | none => rfl
    | some k => cases k with
      | false => rfl
      | true =>
        show Res.ok true ρ1 = opt x.truth ρ1
        rw [q]
        rfl
  | exc c x ρ1 => rfl
  | bad => rfl
theorem not_T {a : Ex} {e : Expr} (h : ST X C W e (fun ρ => ((evE F a ρ).bind fun d ρ => truthM d ρ).bind fun b ρ => .ok (!b) ρ)) : ST X C W e (fun ρ => (evE F (.not_ a) ρ).bind fun d ρ => truthM d ρ) := h.congr fun ρ => by
  show _ = ((evE F a ρ).bind fun x ρ => (truthM x ρ).bind fun b ρ => .ok (.bl (!b)) ρ).bind fun d ρ => truthM d ρ
  cases evE F a ρ with
  | ok x ρ1 =>
    show (truthM x ρ1).bind _ = ((truthM x ρ1).bind _).bind _
    unfold truthM
    cases q : x.truth with
    | none => rfl
    | some k => rfl
  | exc c x ρ1 => rfl
  | bad => rfl
/-- what a list's check says of its stars -/
theorem chkEs_star : ∀ {es : Exs} {sc : Scope} {xs : List Expr}, chkEs S es sc xs = true → ∀ x ∈ xs, noStar x = true
  | .nil, sc, xs, h => by
    cases xs with
    | nil => exact fun x hx => absurd hx (by simp)
    | cons _ _ => cases h
  | .cons e es, sc, xs, h => by
    cases xs with
    | nil => cases h
    | cons x xs =>
      have h' : (noStar x && (chk S e .E sc x && chkEs S es sc xs)) = true := h
      obtain ⟨h1, h2⟩ := and2 h'
      obtain ⟨_, h3⟩ := and2 h2
      exact fun y hy => (List.mem_cons.mp hy).elim (fun z => by rw [z]; exact h1) fun z => chkEs_star h3 y z
theorem chkAs_star : ∀ {es : Exs} {sc : Scope} {xs : List Expr}, chkAs S es sc xs = true → ∀ x ∈ xs, noStar x = true
  | .nil, sc, xs, h => by
    cases xs with
    | nil => exact fun x hx => absurd hx (by simp)
    | cons _ _ => cases h
  | .cons e es, sc, xs, h => by
    cases xs with
    | nil => cases h
    | cons x xs =>
      unfold chkAs at h
      obtain ⟨h1, h2⟩ := and2 h
      obtain ⟨_, h3⟩ := and2 h2
      exact fun y hy => (List.mem_cons.mp hy).elim (fun z => by rw [z]; exact h1) fun z => chkAs_star h3 y z
theorem SO.of {lo : Ex} {o : Option Expr} (h : ∀ x, o = some x → lo.isNon = false ∧ SE X C W x (evE F lo)) (h0 : o = none → lo.isNon = true) : SO X C W o (evP F lo) := by
  cases o with
  | none =>
    have z := h0 rfl
    cases lo <;> first | exact so_none | cases z
  | some x =>
    obtain ⟨h1, h2⟩ := h x rfl
    have q : evP F lo = fun ρ => (evE F lo ρ).bind fun d ρ => intP d ρ := by cases lo <;> first | rfl | cases h1
    rw [q]
    exact so_some h2
theorem rest_and {b : Ex} {y : Expr} {rest : List Expr} {pos : Pos} (h : SE X C W (restE .And y rest pos) (evE F b)) : SE X C W (.BoolOp .And (y :: rest) pos) (evE F b) := by
  cases rest with
  | nil => exact se_one h
  | cons z r => exact h
theorem rest_or {b : Ex} {y : Expr} {rest : List Expr} {pos : Pos} (h : SE X C W (restE .Or y rest pos) (evE F b)) : SE X C W (.BoolOp .Or (y :: rest) pos) (evE F b) := by
  cases rest with
  | nil => exact se_one h
  | cons z r => exact h
theorem bi1_ok {b : Bi} (h : bi1B b = true) : b = .len ∨ b = .int_ ∨ b = .abs ∨ b = .tuple ∨ b = .list ∨ b = .sum := by
  cases b <;> first | exact absurd h (by decide) | simp
theorem bi2_ok {b : Bi} (h : bi2B b = true) : b = .gcd ∨ b = .lcm ∨ b = .min2 ∨ b = .max2 := by
  cases b <;> first | exact absurd h (by decide) | simp
theorem lc_of {tg : Tg} {own : List Nat} {src : It} {cond elt : Ex} {e : Expr} {k : Kd} {sc : Scope} (G : Gd S n F sc X C W) (h : chk S (.lc tg own src cond elt) k sc e = true)
    (hi : ∀ (tg it : Expr), chkIt S src sc tg it = true → SI X C W tg it src.locks (evIt F src))
    (hc : ∀ (e : Expr) (sc : Scope) (X : Cx) (C : Fc) (W : WX), Gd S n F sc X C W → chk S cond .T sc e = true → ST X C W e (fun ρ => (evE F cond ρ).bind fun d ρ => truthM d ρ))
    (he : ∀ (e : Expr) (sc : Scope) (X : Cx) (C : Fc) (W : WX), Gd S n F sc X C W → chk S elt .E sc e = true → SE X C W e (evE F elt)) : LcP X C W e (evE F (.lc tg own src cond elt)) ∧ plainT e = true := by
  unfold chk at h
  split at h
  · rename_i y t it ifs scope pos
    obtain ⟨h1, h2⟩ := and2 h
    obtain ⟨h3, h4⟩ := and2 h2
    obtain ⟨h5, h6⟩ := and2 h4
    obtain ⟨h7, h8⟩ := and2 h6
    obtain ⟨h9, h10⟩ := and2 h8
    obtain ⟨h11, h12⟩ := and2 h10
    obtain ⟨h13, h14⟩ := and2 h12
    have hk := of_decide_eq_true h1
    refine ⟨?_, rfl⟩
    have ok : BlkOk X.N X.env.scope scope (ownP S.N own) := by rw [G.N, G.scp]; exact blkOk_by h3
    have z := lcP_of (C := C) (W := W) (pos := pos) (t := tg) (vs := src.locks) (src := evIt F src) (mc := fun ρ => (evE F cond ρ).bind fun d ρ => truthM d ρ) (me := evE F elt) (elt := y) (ifs := ifs) ok (hi t it h9)
      (fun s H c cl fp C' q1 q2 => tg_ok (c := false) tg t (G.blk hk s H c cl fp q1 q2) (fun z => by cases z) h11)
      (fun s H c cl fp C' q1 q2 => ?_)
      (fun s H c cl fp C' q1 q2 => he y _ _ _ _ (G.blk hk s H c cl fp q1 q2) h14)
      (fun j hj => by rw [ownP_snd]; exact of_decide_eq_true (List.all_eq_true.mp h5 j hj)) (fold_no h7)
    · rw [ownP_snd] at z
      exact z
    · split at h13
      · split at h13
        · exact sif_nil
        · cases h13
      · exact sif_one (hc _ _ _ _ _ (G.blk hk s H c cl fp q1 q2) h13)
      · cases h13
  · cases h
mutual
theorem chk_ok : ∀ (ir : Ex) (k : Kd) (e : Expr) {sc : Scope} {X : Cx} {C : Fc} {W : WX}, Gd S n F sc X C W → chk S ir k sc e = true → SK X C W F k e ir
  | .var i, k, e, sc, X, C, W, G, h => by
    obtain ⟨h1, h2⟩ := G.slot h
    exact SK.of ⟨_, h1, sim_var⟩ (fun _ => h2) fun _ z => nomatch z
  | .bor i, k, e, sc, X, C, W, G, h => by
    have h' : (k.noE && slotB S.N sc i e) = true := h
    obtain ⟨h0, h1⟩ := and2 h'
    obtain ⟨h1, h2⟩ := G.slot h1
    cases k with
    | E => cases h0
    | B => exact ⟨_, h1, sim_varB⟩
    | H => exact ⟨_, h1, sim_varH⟩
    | T => exact ⟨st_plain ⟨_, h1, sim_varB⟩ (plain_true h2), fun z => by cases e <;> first | (cases z; done) | (cases h2; done)⟩
  | .io i, k, e, sc, X, C, W, G, h => by cases h
  | .scr i, k, e, sc, X, C, W, G, h => by cases h
  | .non, k, e, sc, X, C, W, G, h => by
    unfold chk at h
    split at h
    · exact SK.of ⟨_, pe_non, sim_c fun _ _ => .non⟩ (fun _ => rfl) fun _ z => nomatch z
    · cases h
  | .bl b, k, e, sc, X, C, W, G, h => by
    unfold chk at h
    split at h
    · have z := eq_of_beq h
      subst z
      exact SK.of ⟨_, pe_bl, sim_c fun _ _ => .bl _⟩ (fun _ => rfl) fun _ z => nomatch z
    · cases h
  | .int m, k, e, sc, X, C, W, G, h => by
    unfold chk at h
    split at h
    · have z := eq_of_beq h
      subst z
      exact SK.of ⟨_, pe_int, sim_c fun _ _ => .int _⟩ (fun _ => rfl) fun _ z => nomatch z
    · cases h
  | .str m, k, e, sc, X, C, W, G, h => by
    unfold chk at h
    split at h
    · have z := eq_of_beq h
      subst z
      exact SK.of ⟨_, pe_str, sim_c fun _ _ => .str _⟩ (fun _ => rfl) fun _ z => nomatch z
    · cases h
  | .tup es, k, e, sc, X, C, W, G, h => by
    unfold chk at h
    split at h
    · exact SK.of (se_tup (chkEs_ok es _ G h)) (fun _ => rfl) fun _ z => nomatch z
    · cases h
  | .lst es, k, e, sc, X, C, W, G, h => by
    unfold chk at h
    split at h
    · exact SK.of (se_lst (chkEs_ok es _ G h)).toE (fun _ => rfl) fun _ z => nomatch z
    · cases h
  | .bin o a b, k, e, sc, X, C, W, G, h => by
    unfold chk at h
    split at h
    · obtain ⟨h1, h2⟩ := and2 h
      obtain ⟨h3, h4⟩ := and2 h2
      have z := of_decide_eq_true h1
      subst z
      obtain ⟨r, r1, r2⟩ := bop_ok G.K o
      exact SK.of (se_bin r1 r2 (chk_ok a .H _ G h3) (chk_ok b .H _ G h4)).toE (fun _ => rfl) fun _ z => nomatch z
    · cases h
  | .neg a, k, e, sc, X, C, W, G, h => by
    unfold chk at h
    split at h
    · exact SK.of (se_neg (chk_ok a .E _ G h)) (fun _ => rfl) fun _ z => nomatch z
    · cases h
  | .not_ a, k, e, sc, X, C, W, G, h => by
    unfold chk at h
    split at h
    · cases k with
      | T => exact ⟨not_T (st_not (chk_ok a .T _ G h).1), fun z => nomatch z⟩
      | E => exact SK.of (k := .E) (se_not (chk_ok a .B _ G h)) (fun z => nomatch z) fun _ z => nomatch z
      | B => exact SK.of (k := .B) (se_not (chk_ok a .B _ G h)) (fun z => nomatch z) fun _ z => nomatch z
      | H => exact SK.of (k := .H) (se_not (chk_ok a .B _ G h)) (fun z => nomatch z) fun _ z => nomatch z
    · cases h
  | .cmp o a b, k, e, sc, X, C, W, G, h => by
    unfold chk at h
    split at h
    · obtain ⟨h1, h2⟩ := and2 h
      obtain ⟨h3, h4⟩ := and2 h2
      obtain ⟨h5, h6⟩ := and2 h4
      have z := of_decide_eq_true h1
      subst z
      obtain ⟨r, r1, r2⟩ := cop_ok G.K G.hu o
      have A := chk_ok a .H _ G h5
      have B := chk_ok b .H _ G h6
      cases k with
      | T => exact ⟨st_cmp r1 r2 (cop_bl o) A B (marks_no h3), fun z => nomatch z⟩
      | E => exact SK.of (k := .E) (se_cmp r1 r2 A B (marks_no h3)).toE (fun z => nomatch z) fun _ z => nomatch z
      | B => exact SK.of (k := .B) (se_cmp r1 r2 A B (marks_no h3)).toE (fun z => nomatch z) fun _ z => nomatch z
      | H => exact SK.of (k := .H) (se_cmp r1 r2 A B (marks_no h3)).toE (fun z => nomatch z) fun _ z => nomatch z
    · cases h
  | .and_ a b, k, e, sc, X, C, W, G, h => by
    unfold chk at h
    split at h
    · rename_i x y rest pos
      cases k with
      | T =>
        obtain ⟨h1, h2⟩ := and2 h
        have A := chk_ok a .T _ G h1
        have B := chk_ok b .T _ G h2
        have Z : SW X C W (.BoolOp .And (y :: rest) pos) (fun ρ => (evE F b ρ).bind fun d ρ => truthM d ρ) := by
          cases rest with
          | nil => exact sw_and1 B.1
          | cons z r => exact B.2 rfl
        have W := and_T (sw_and A.1 Z)
        exact ⟨W.st, fun _ => W⟩
      | E =>
        obtain ⟨h1, h2⟩ := and2 h
        exact SK.of (k := .E) (se_and (chk_ok a .E _ G h1) (rest_and (chk_ok b .E _ G h2))) (fun z => nomatch z) fun _ z => nomatch z
      | B =>
        obtain ⟨h1, h2⟩ := and2 h
        exact SK.of (k := .B) (se_and (chk_ok a .E _ G h1) (rest_and (chk_ok b .E _ G h2))) (fun z => nomatch z) fun _ z => nomatch z
      | H =>
        obtain ⟨h1, h2⟩ := and2 h
        exact SK.of (k := .H) (se_and (chk_ok a .E _ G h1) (rest_and (chk_ok b .E _ G h2))) (fun z => nomatch z) fun _ z => nomatch z
    · cases h
  | .or_ a b, k, e, sc, X, C, W, G, h => by
    unfold chk at h
    split at h
    · rename_i x y rest pos
      cases k with
      | T =>
        obtain ⟨h1, h2⟩ := and2 h
        have A := chk_ok a .T _ G h1
        have B := chk_ok b .T _ G h2
        have Z : SW X C W (.BoolOp .Or (y :: rest) pos) (fun ρ => (evE F b ρ).bind fun d ρ => truthM d ρ) := by
          cases rest with
          | nil => exact sw_or1 B.1
          | cons z r => exact B.2 rfl
        have W := or_T (sw_or A.1 Z)
        exact ⟨W.st, fun _ => W⟩
      | E =>
        obtain ⟨h1, h2⟩ := and2 h
        exact SK.of (k := .E) (se_or (chk_ok a .E _ G h1) (rest_or (chk_ok b .E _ G h2))) (fun z => nomatch z) fun _ z => nomatch z
      | B =>
        obtain ⟨h1, h2⟩ := and2 h
        exact SK.of (k := .B) (se_or (chk_ok a .E _ G h1) (rest_or (chk_ok b .E _ G h2))) (fun z => nomatch z) fun _ z => nomatch z
      | H =>
        obtain ⟨h1, h2⟩ := and2 h
        exact SK.of (k := .H) (se_or (chk_ok a .E _ G h1) (rest_or (chk_ok b .E _ G h2))) (fun z => nomatch z) fun _ z => nomatch z
    · cases h
  | .ife c a b, k, e, sc, X, C, W, G, h => by
    unfold chk at h
    split at h
    · obtain ⟨h1, h2⟩ := and2 h
      obtain ⟨h3, h4⟩ := and2 h2
      obtain ⟨h5, h6⟩ := and2 h4
      refine SK.of (se_ife (chk_ok c .T _ G h3).1 (chk_ok a .E _ G h5) (chk_ok b .E _ G h6) |>.congr fun ρ => ?_) (fun z => by subst z; exact h1) fun _ z => nomatch z
      exact bind_assoc' _ _ _
    · cases h
  | .idx a i, k, e, sc, X, C, W, G, h => by
    unfold chk at h
    split at h
    · obtain ⟨h1, h2⟩ := and2 h
      obtain ⟨h3, h4⟩ := and2 h2
      exact SK.of (se_idx G.K (chk_ok a .H _ G h3) (chk_ok i .E _ G h4) (ix_no h1)) (fun _ => rfl) fun _ z => nomatch z
    · cases h
  | .slc a lo hi, k, e, sc, X, C, W, G, h => by
    unfold chk at h
    split at h
    · rename_i x l r p1 p2
      obtain ⟨h1, h2⟩ := and2 h
      obtain ⟨h3, h4⟩ := and2 h2
      have A : SO X C W l (evP F lo) := SO.of (fun y e => by
        subst e
        obtain ⟨q1, q2⟩ := and2 h3
        exact ⟨by simpa using q1, chk_ok lo .E _ G q2⟩) fun e => by subst e; exact h3
      have B : SO X C W r (evP F hi) := SO.of (fun y e => by
        subst e
        obtain ⟨q1, q2⟩ := and2 h4
        exact ⟨by simpa using q1, chk_ok hi .E _ G q2⟩) fun e => by subst e; exact h4
      exact SK.of (se_slc G.K (chk_ok a .H _ G h1) A B).toE (fun _ => rfl) fun _ z => nomatch z
    · cases h
  | .slcS i lo hi, k, e, sc, X, C, W, G, h => by
    unfold chk at h
    split at h
    · rename_i x l r p1 p2
      obtain ⟨h1, h2⟩ := and2 h
      obtain ⟨h3, h4⟩ := and2 h2
      have A : SO X C W l (evP F lo) := SO.of (fun y e => by
        subst e
        obtain ⟨q1, q2⟩ := and2 h3
        exact ⟨by simpa using q1, chk_ok lo .E _ G q2⟩) fun e => by subst e; exact h3
      have B : SO X C W r (evP F hi) := SO.of (fun y e => by
        subst e
        obtain ⟨q1, q2⟩ := and2 h4
        exact ⟨by simpa using q1, chk_ok hi .E _ G q2⟩) fun e => by subst e; exact h4
      exact SK.of (se_slcS G.K (G.slot h1).1 A B).toE (fun _ => rfl) fun _ z => nomatch z
    · cases h
  | .call f es, k, e, sc, X, C, W, G, h => by
    unfold chk at h
    split at h
    · rename_i x p1 xs pos
      obtain ⟨h1, h2⟩ := and2 h
      obtain ⟨h3, h4⟩ := and2 h2
      obtain ⟨h5, h6⟩ := and2 h4
      cases xs with
      | nil => cases h1
      | cons y ys =>
        have st := chkAs_star h6
        have A := chkAs_ok es _ G h6
        cases q : S.T[f]? with
        | none => rw [q] at h5; cases h5
        | some fn =>
          rw [q] at h5
          have z := of_decide_eq_true h5
          obtain ⟨g1, g2⟩ := G.gl h3
          exact SK.of (se_call G.K G.mg (G.fns f fn q) z G.rm G.tk g1 g2 A (star_cons (st y List.mem_cons_self)) (noStars fun e he => st e (List.mem_cons_of_mem _ he))) (fun _ => rfl) fun _ z => nomatch z
    · cases h
  | .cal b es, k, e, sc, X, C, W, G, h => by
    unfold chk at h
    split at h
    · rename_i x p1 y pos
      obtain ⟨h1, h2⟩ := and2 h
      obtain ⟨h3, h4⟩ := and2 h2
      obtain ⟨h5, h6⟩ := and2 h4
      obtain ⟨h7, h8⟩ := and2 h6
      obtain ⟨h9, h10⟩ := and2 h8
      split at h10
      · rename_i a
        have z := of_decide_eq_true h1
        subst z
        obtain ⟨r, r1, r2⟩ := cal1_ok (C := C) G.K G.calm b (G.bi h5) (bi1_ok h7)
        exact SK.of (se_cal1 r1 r2 (G.gl h3).1 (chk_ok a .B _ G h10) (star_cons h9)).toE (fun _ => rfl) fun _ z => nomatch z
      · cases h10
    · rename_i x p1 y w pos
      obtain ⟨h1, h2⟩ := and2 h
      obtain ⟨h3, h4⟩ := and2 h2
      obtain ⟨h5, h6⟩ := and2 h4
      obtain ⟨h7, h8⟩ := and2 h6
      obtain ⟨h9, h10⟩ := and2 h8
      obtain ⟨h11, h12⟩ := and2 h10
      split at h12
      · rename_i a c
        obtain ⟨h13, h14⟩ := and2 h12
        have z := of_decide_eq_true h1
        subst z
        obtain ⟨r, r1, r2⟩ := cal2_ok (C := C) G.calm b (G.bi h5) (bi2_ok h7)
        exact SK.of (se_cal2 r1 r2 (G.gl h3).1 (chk_ok a .E _ G h13) (chk_ok c .E _ G h14) (star_cons h9) (star_cons h11)) (fun _ => rfl) fun _ z => nomatch z
      · cases h12
    · cases h
  | .isi a ts, k, e, sc, X, C, W, G, h => by
    unfold chk at h
    split at h
    · rename_i x p1 y c pos
      obtain ⟨h1, h2⟩ := and2 h
      obtain ⟨h3, h4⟩ := and2 h2
      obtain ⟨h5, h6⟩ := and2 h4
      obtain ⟨h7, h8⟩ := and2 h6
      obtain ⟨h9, h10⟩ := and2 h8
      have z := of_decide_eq_true h1
      subst z
      obtain ⟨g1, g2⟩ := G.bnm h3
      split at h10
      · rename_i cs kk pp
        obtain ⟨h11, h12⟩ := and2 h10
        obtain ⟨q1, q2⟩ := G.tys h11
        exact SK.of (se_isiT q1 (Nat.le_trans (of_decide_eq_true h12) (by rw [sizeLine_eq]; omega)) g2 g1 (chk_ok a .B _ G h9) q2 (star_cons h5) G.K) (fun _ => rfl) fun _ z => nomatch z
      · split at h10
        · rename_i t
          obtain ⟨q1, q2⟩ := G.ty h10
          exact SK.of (se_isi1 q1 g2 g1 (chk_ok a .B _ G h9) q2 (star_cons h5) (star_cons h7)) (fun _ => rfl) fun _ z => nomatch z
        · cases h10
    · cases h
  | .lc tg own src cond elt, k, e, sc, X, C, W, G, h => by
    obtain ⟨q1, q2⟩ := lc_of (src := src) (cond := cond) (elt := elt) G h (fun tg it h => chkIt_ok src tg it G h) (fun e _ _ _ _ G' h' => (chk_ok cond .T e G' h').1) fun e _ _ _ _ G' h' => chk_ok elt .E e G' h'
    exact SK.of (q1.sf G.calm (by rw [G.N]; exact G.nd)).toE (fun _ => q2) fun _ z => nomatch z
theorem chkEs_ok : ∀ (ir : Exs) (es : List Expr) {sc : Scope} {X : Cx} {C : Fc} {W : WX}, Gd S n F sc X C W → chkEs S ir sc es = true → SEs X C W es (evEs F ir)
  | .nil, es, sc, X, C, W, G, h => by
    cases es with
    | nil => exact ses_nil
    | cons _ _ => cases h
  | .cons e es, xs, sc, X, C, W, G, h => by
    cases xs with
    | nil => cases h
    | cons x xs =>
      have h' : (noStar x && (chk S e .E sc x && chkEs S es sc xs)) = true := h
      obtain ⟨h1, h2⟩ := and2 h'
      obtain ⟨h3, h4⟩ := and2 h2
      exact ses_cons (chk_ok e .E x G h3) (chkEs_ok es xs G h4) (star_cons h1)
theorem chkAs_ok : ∀ (ir : Exs) (es : List Expr) {sc : Scope} {X : Cx} {C : Fc} {W : WX}, Gd S n F sc X C W → chkAs S ir sc es = true → SAs X C W es (evAs F ir)
  | .nil, es, sc, X, C, W, G, h => by
    cases es with
    | nil => exact sas_nil
    | cons _ _ => cases h
  | .cons e es, xs, sc, X, C, W, G, h => by
    cases xs with
    | nil => cases h
    | cons x xs =>
      unfold chkAs at h
      obtain ⟨h1, h2⟩ := and2 h
      obtain ⟨h3, h4⟩ := and2 h2
      have rest := chkAs_ok es xs G h4
      by_cases q1 : ∃ i, e = .io i
      · obtain ⟨i, rfl⟩ := q1
        exact sas_io (G.slot h3).1 rest (star_cons h1)
      · by_cases q2 : ∃ i, e = .scr i
        · obtain ⟨i, rfl⟩ := q2
          exact sas_s (G.slot h3).1 rest (star_cons h1)
        · have h5 : chk S e .H sc x = true := by
            cases e <;> first | exact h3 | exact absurd ⟨_, rfl⟩ q1 | exact absurd ⟨_, rfl⟩ q2
          have z : evAs F (.cons e es) = fun ρ => (evH F e ρ).bind fun h ρ => (evAs F es ρ).bind fun xs ρ => .ok (h :: xs) ρ := by
            cases e <;> first | rfl | exact absurd ⟨_, rfl⟩ q1 | exact absurd ⟨_, rfl⟩ q2
          rw [z]
          exact sas_cons (chk_ok e .H x G h5) rest (star_cons h1)
theorem chkIt_ok : ∀ (ir : It) (tg it : Expr) {sc : Scope} {X : Cx} {C : Fc} {W : WX}, Gd S n F sc X C W → chkIt S ir sc tg it = true → SI X C W tg it ir.locks (evIt F ir)
  | .seq e, tg, it, sc, X, C, W, G, h => si_seq (chk_ok e .H it G h) fun ρ i ρ' z => evH_bor z
  | .rng1 a, tg, it, sc, X, C, W, G, h => by
    unfold chkIt at h
    split at h
    · obtain ⟨h1, h2⟩ := and2 h
      obtain ⟨h3, h4⟩ := and2 h2
      obtain ⟨h5, h6⟩ := and2 h4
      have z := of_decide_eq_true h1
      subst z
      obtain ⟨g1, g2⟩ := G.bnm h3
      exact si_rng1 g1 g2 (chk_ok a .E _ G h6) (star_cons h5)
    · cases h
  | .rng2 a b, tg, it, sc, X, C, W, G, h => by
    unfold chkIt at h
    split at h
    · obtain ⟨h1, h2⟩ := and2 h
      obtain ⟨h3, h4⟩ := and2 h2
      obtain ⟨h5, h6⟩ := and2 h4
      obtain ⟨h7, h8⟩ := and2 h6
      obtain ⟨h9, h10⟩ := and2 h8
      have z := of_decide_eq_true h1
      subst z
      obtain ⟨g1, g2⟩ := G.bnm h3
      exact si_rng2 g1 g2 (chk_ok a .E _ G h9) (chk_ok b .E _ G h10) (star_cons h5) (star_cons h7)
    · cases h
  | .rng3 a b c, tg, it, sc, X, C, W, G, h => by
    unfold chkIt at h
    split at h
    · obtain ⟨h1, h2⟩ := and2 h
      obtain ⟨h3, h4⟩ := and2 h2
      obtain ⟨h5, h6⟩ := and2 h4
      obtain ⟨h7, h8⟩ := and2 h6
      obtain ⟨h9, h10⟩ := and2 h8
      obtain ⟨h11, h12⟩ := and2 h10
      obtain ⟨h13, h14⟩ := and2 h12
      have z := of_decide_eq_true h1
      subst z
      obtain ⟨g1, g2⟩ := G.bnm h3
      exact si_rng3 g1 g2 (chk_ok a .E _ G h11) (chk_ok b .E _ G h13) (chk_ok c .E _ G h14) (star_cons h5) (star_cons h7) (star_cons h9)
    · cases h
  | .zip a b, tg, it, sc, X, C, W, G, h => by
    unfold chkIt at h
    split at h
    · obtain ⟨h1, h2⟩ := and2 h
      obtain ⟨h3, h4⟩ := and2 h2
      obtain ⟨h5, h6⟩ := and2 h4
      obtain ⟨h7, h8⟩ := and2 h6
      obtain ⟨h9, h10⟩ := and2 h8
      obtain ⟨h11, h12⟩ := and2 h10
      have z := of_decide_eq_true h1
      subst z
      obtain ⟨g1, g2⟩ := G.bnm h3
      cases tg with
      | Tuple elts kk tpos => exact si_zip g1 g2 (chk_ok a .H _ G h11) (chk_ok b .H _ G h12) (fun ρ i ρ' z => List.mem_append_left _ (evH_bor z)) (fun ρ i ρ' z => List.mem_append_right _ (evH_bor z)) (star_cons h7) (star_cons h9)
      | _ => cases h5
    · cases h
  | .enum a, tg, it, sc, X, C, W, G, h => by
    unfold chkIt at h
    split at h
    · obtain ⟨h1, h2⟩ := and2 h
      obtain ⟨h3, h4⟩ := and2 h2
      obtain ⟨h5, h6⟩ := and2 h4
      obtain ⟨h7, h8⟩ := and2 h6
      have z := of_decide_eq_true h1
      subst z
      obtain ⟨g1, g2⟩ := G.bnm h3
      cases tg with
      | Tuple elts kk tpos => exact si_enum g1 g2 (chk_ok a .H _ G h8) (fun ρ i ρ' z => evH_bor z) (star_cons h7)
      | _ => cases h5
    · cases h
  | .rev a, tg, it, sc, X, C, W, G, h => by
    unfold chkIt at h
    split at h
    · obtain ⟨h1, h2⟩ := and2 h
      obtain ⟨h3, h4⟩ := and2 h2
      obtain ⟨h5, h6⟩ := and2 h4
      have z := of_decide_eq_true h1
      subst z
      obtain ⟨g1, g2⟩ := G.bnm h3
      exact si_rev g1 g2 (chk_ok a .H _ G h6) (fun ρ i ρ' z => evH_bor z) (star_cons h5)
    · cases h
end
end
end Sm
end

section
set_option Elab.async false
set_option linter.all false
set_option autoImplicit false
set_option maxRecDepth 100000
set_option maxHeartbeats 1000000
/-! Sm18: the IR held against the written text: statements. -/
namespace Sm
open PySem PySem.Spec PyProof.Rows L2
def fresh (S : Sg) : Ex → Bool
  | .lst _ => true
  | .bin _ _ _ => true
  | .slc _ _ _ => true
  | .slcS _ _ _ => true
  | .cal b _ => bi1B b
  | .call f _ => match S.T[f]? with
    | some fn => fn.own
    | none => false
  | .lc _ _ _ _ _ => true
  | _ => false
def isComp : Expr → Bool
  | .ListComp _ _ _ _ => true
  | .SetComp _ _ _ _ => true
  | .DictComp _ _ _ _ _ => true
  | _ => false
def isSub : Expr → Bool
  | .Subscript _ _ _ => true
  | _ => false
def swNames (sc : Scope) (ts : List Expr) : List Str := ts.filterMap fun
  | .Name id pos => if sc.names.lookup id == some .local && pos.line == (ts.head?.map (·.pos.line)).getD 0 then some id else none
  | _ => none
/-- which names a pair's store swaps: none: no telling -/
def swN (sc : Scope) (ts vs : List Expr) : Option (Option (List Str)) :=
  if (!(ts.length == 2 || ts.length == 3) || vs.length != ts.length || ScopeKind.function != ScopeKind.function) = true then some none
  else if (vs.any fun | .Starred .. => true | _ => false) = true then some none
  else if ((swNames sc ts).length != ts.length || (swNames sc ts).eraseDups.length != (swNames sc ts).length) = true then some none
  else if vs.all (foldedForSure 8) = true then some none
  else if vs.all (constantsAlone 8) = true then none
  else some (some (swNames sc ts))
def chkSTs (S : Sg) (sc : Scope) : List STg → List Expr → Bool
  | [], es => es.isEmpty
  | .nm i :: r, es => match es with
    | .Name x _ :: es => decide (S.N[i]? = some x) && (locC true sc x && chkSTs S sc r es)
    | _ => false
  | .sub i k :: r, es => match es with
    | .Subscript o kx _ :: es => slotB S.N sc i o && (noSlice kx && (chk S k .E sc kx && chkSTs S sc r es))
    | _ => false
def nmsB (S : Sg) (sc : Scope) : List (Nat × Bool) → List Expr → Bool
  | [], es => es.isEmpty
  | (i, b) :: r, es => match es with
    | .Name x _ :: es => !b && (decide (S.N[i]? = some x) && (locC true sc x && nmsB S sc r es))
    | _ => false
mutual
def chkS (S : Sg) (own : Bool) (sc : Scope) : St → Stmt → Bool
  | .set i e, st => match st with
    | .Assign [.Name x _] v _ => decide (S.N[i]? = some x) && (locC true sc x && (chk S e .E sc v && (!isComp v || (match e with
      | .lc _ _ _ _ _ => true
      | _ => false))))
    | _ => false
  | .setO i e, st => match st with
    | .Assign [.Name x _] v _ => decide (S.N[i]? = some x) && (locC true sc x && (fresh S e && (chk S e .E sc v && (!isComp v || (match e with
      | .lc _ _ _ _ _ => true
      | _ => false)))))
    | _ => false
  | .unp t e, st => match st with
    | .Assign [tg] v _ => isTup tg && (chkT1 true S.N t sc tg && (chk S e .E sc v && !isTup v))
    | _ => false
  | .par is es, st => match st with
    | .Assign [.Tuple ts _ _] (.Tuple vs _ _) _ => nmsB S sc is ts && (chkEs S es sc vs && (decide (is.length = vs.length) && match swN sc ts vs with
      | some none => decide (vs.length ≤ 100)
      | some (some l) => (match ts with
        | [.Name x _, .Name y _] => decide (l = [x, y]) && (decide ((is.map (·.1)).Nodup) && (locB sc x && locB sc y))
        | [.Name x _, .Name y _, .Name z _] => decide (l = [x, y, z]) && (decide ((is.map (·.1)).Nodup) && (locB sc x && (locB sc y && locB sc z)))
        | _ => false)
      | none => false))
    | _ => false
  | .asgs ts es, st => match st with
    | .Assign [.Tuple tes _ _] (.Tuple vs _ _) _ => chkSTs S sc ts tes && (chkEs S es sc vs && (decide (tes.length = vs.length) && (decide (vs.length ≤ 100) && match swN sc tes vs with
      | some none => true
      | _ => false)))
    | _ => false
  | .sto i k e, st => match st with
    | .Assign [.Subscript o kx _] v _ => slotB S.N sc i o && (noSlice kx && (chk S k .E sc kx && chk S e .E sc v))
    | _ => false
  | .app i e, st => match st with
    | .Expr (.Call (.Attribute o a ap) [y] [] cp) _ => decide (a = ("append" : Str)) && (slotB S.N sc i o && ((ap.endLine == cp.line) && (noStar y && chk S e .E sc y)))
    | _ => false
  | .ext i e, st => match st with
    | .Expr (.Call (.Attribute o a ap) [y] [] cp) _ => decide (a = ("extend" : Str)) && (slotB S.N sc i o && ((ap.endLine == cp.line) && (noStar y && chk S e .E sc y)))
    | _ => false
  | .ins _ _ _, _ => false
  | .aug i o e, st => match st with
    | .AugAssign (.Name x _) op v _ => decide (S.N[i]? = some x) && (locC true sc x && (decide (op = o.op) && ((decide (o = .add) || decide (o = .sub)) && chk S e .E sc v)))
    | _ => false
  | .ex e, st => match st with
    | .Expr v _ => !isComp v && chk S e .E sc v
    | _ => false
  | .ite c a b, st => match st with
    | .If t xs ys _ => chk S c .T sc t && (chkSs S own sc a xs && chkSs S own sc b ys)
    | _ => false
  | .for_ t it b, st => match st with
    | .For tg iter body [] _ => noSet iter && (chkIt S it sc tg iter && (chkT1 true S.N t sc tg && chkSs S own sc b body))
    | _ => false
  | .whl c b, st => match st with
    | .While t body [] _ => chk S c .T sc t && chkSs S own sc b body
    | _ => false
  | .ret e, st => match st with
    | .Return (some v) _ => !own && chk S e .E sc v
    | _ => false
  | .retO e, st => match st with
    | .Return (some v) _ => fresh S e && chk S e .E sc v
    | _ => false
  | .retN, st => match st with
    | .Return none _ => !own
    | _ => false
  | .brk, st => match st with
    | .Break _ => true
    | _ => false
  | .cnt, st => match st with
    | .Continue _ => true
    | _ => false
  | .pass, st => match st with
    | .Pass _ => true
    | .Expr (.Constant (.str _) _ _) _ => true
    | _ => false
  | .frz _, _ => false
  | .rais _ _, _ => false
  | .never, _ => true
def chkSs (S : Sg) (own : Bool) (sc : Scope) : Sts → List Stmt → Bool
  | .nil, sts => sts.isEmpty
  | .cons s r, sts => match s with
    | .frz _ => chkSs S own sc r sts
    | _ => match sts with
      | st :: rest => chkS S own sc s st && chkSs S own sc r rest
      | [] => false
end
section
variable {S : Sg} {n : Nat} {F : Nat → List Ar → FRes} {sc : Scope} {X : Cx} {C C' : Fc} {W : WX} {own : Bool}
theorem chkF_ok {ir : Ex} {e : Expr} (G : Gd S n F sc X C W) (h : chk S ir .E sc e = true) (hf : fresh S ir = true) : SF X C W e (evE F ir) := by
  cases ir with
  | lst es =>
    unfold chk at h
    split at h
    · exact se_lst (chkEs_ok es _ G h)
    · cases h
  | bin o a b =>
    unfold chk at h
    split at h
    · obtain ⟨h1, h2⟩ := and2 h
      obtain ⟨h3, h4⟩ := and2 h2
      have z := of_decide_eq_true h1
      subst z
      obtain ⟨r, r1, r2⟩ := bop_ok G.K o
      exact se_bin r1 r2 (chk_ok a .H _ G h3) (chk_ok b .H _ G h4)
    · cases h
  | slc a lo hi =>
    unfold chk at h
    split at h
    · rename_i x l r p1 p2
      obtain ⟨h1, h2⟩ := and2 h
      obtain ⟨h3, h4⟩ := and2 h2
      have A : SO X C W l (evP F lo) := SO.of (fun y e => by
        subst e
        obtain ⟨q1, q2⟩ := and2 h3
        exact ⟨by simpa using q1, chk_ok lo .E _ G q2⟩) fun e => by subst e; exact h3
      have B : SO X C W r (evP F hi) := SO.of (fun y e => by
        subst e
        obtain ⟨q1, q2⟩ := and2 h4
        exact ⟨by simpa using q1, chk_ok hi .E _ G q2⟩) fun e => by subst e; exact h4
      exact se_slc G.K (chk_ok a .H _ G h1) A B
    · cases h
  | slcS i lo hi =>
    unfold chk at h
    split at h
    · rename_i x l r p1 p2
      obtain ⟨h1, h2⟩ := and2 h
      obtain ⟨h3, h4⟩ := and2 h2
      have A : SO X C W l (evP F lo) := SO.of (fun y e => by
        subst e
        obtain ⟨q1, q2⟩ := and2 h3
        exact ⟨by simpa using q1, chk_ok lo .E _ G q2⟩) fun e => by subst e; exact h3
      have B : SO X C W r (evP F hi) := SO.of (fun y e => by
        subst e
        obtain ⟨q1, q2⟩ := and2 h4
        exact ⟨by simpa using q1, chk_ok hi .E _ G q2⟩) fun e => by subst e; exact h4
      exact se_slcS G.K (G.slot h1).1 A B
    · cases h
  | call f es =>
    unfold chk at h
    split at h
    · rename_i x p1 xs pos
      obtain ⟨h1, h2⟩ := and2 h
      obtain ⟨h3, h4⟩ := and2 h2
      obtain ⟨h5, h6⟩ := and2 h4
      cases xs with
      | nil => cases h1
      | cons y ys =>
        have st := chkAs_star h6
        have A := chkAs_ok es _ G h6
        have hf : (match S.T[f]? with | some fn => fn.own | none => false) = true := hf
        cases q : S.T[f]? with
        | none => rw [q] at h5; cases h5
        | some fn =>
          rw [q] at h5
          have hf : fn.own = true := by rw [q] at hf; exact hf
          have z := of_decide_eq_true h5
          obtain ⟨g1, g2⟩ := G.gl h3
          exact sf_call G.K G.mg (G.fns f fn q) z hf G.rm G.tk g1 g2 A (star_cons (st y List.mem_cons_self)) (noStars fun e he => st e (List.mem_cons_of_mem _ he))
    · cases h
  | cal b es =>
    unfold chk at h
    split at h
    · rename_i x p1 y pos
      obtain ⟨h1, h2⟩ := and2 h
      obtain ⟨h3, h4⟩ := and2 h2
      obtain ⟨h5, h6⟩ := and2 h4
      obtain ⟨h7, h8⟩ := and2 h6
      obtain ⟨h9, h10⟩ := and2 h8
      split at h10
      · rename_i a
        have z := of_decide_eq_true h1
        subst z
        obtain ⟨r, r1, r2⟩ := cal1_ok (C := C) G.K G.calm b (G.bi h5) (bi1_ok h7)
        exact se_cal1 r1 r2 (G.gl h3).1 (chk_ok a .B _ G h10) (star_cons h9)
      · cases h10
    · rename_i x p1 y w pos
      obtain ⟨h1, h2⟩ := and2 h
      obtain ⟨h3, h4⟩ := and2 h2
      obtain ⟨h5, h6⟩ := and2 h4
      obtain ⟨h7, h8⟩ := and2 h6
      have hf' : bi1B b = true := hf
      cases b <;> first | exact absurd hf' (by decide) | exact absurd h7 (by decide)
    · cases h
  | lc tg os src cond elt =>
    exact (lc_of G h (fun tg it h => chkIt_ok src tg it G h) (fun e _ _ _ _ G' h' => (chk_ok cond .T e G' h').1) fun e _ _ _ _ G' h' => chk_ok elt .E e G' h').1.sf G.calm (by rw [G.N]; exact G.nd)
  | _ => cases hf
theorem Gd.frame (G : Gd S n F sc X C W) (h1 : C'.K = C.K) (h2 : C'.mg = C.mg) : Gd S n F sc X C' W := ⟨G.N, G.nd, G.scp, G.kind, G.calm, h1.trans G.K, h2.trans G.mg, G.tk, G.fns, G.rm, G.bn, G.gc, G.lc⟩
theorem sw_no {e : Expr} {t : Option Expr} {l : Nat} {env : Env} (h : isComp e = false) : swapsWith e t l env = pure false := by
  cases e <;> first | rfl | cases h
theorem sw_sub {e o k : Expr} {p : Pos} {l : Nat} {env : Env} : swapsWith e (some (.Subscript o k p)) l env = pure false := by
  cases e <;> rfl
theorem sw_tup {e : Expr} {es : List Expr} {k : Nat} {p : Pos} {l : Nat} {env : Env} : swapsWith e (some (.Tuple es k p)) l env = pure false := by
  cases e <;> rfl
theorem sw_lc {elt : Expr} {gs : List Comprehension} {scope : Scope} {pos py : Pos} {y : Str} {l : Nat} {env : Env} : ∃ b, swapsWith (.ListComp elt gs scope pos) (some (.Name y py)) l env = pure b ∧ (b = true → env.scope.names.lookup y = some .local) := by
  refine ⟨_, rfl, fun h => ?_⟩
  obtain ⟨h1, _⟩ := and2 h
  obtain ⟨h2, _⟩ := and2 h1
  obtain ⟨_, h3⟩ := and2 h2
  exact eq_of_beq h3
theorem stores_tup {ts vs : List Expr} {a c : Nat} {b d : Pos} {env : Env} {r : Option (List Str)} (hk : env.scope.kind = .function) (h : swN env.scope ts vs = some r) : swappedStores [.Tuple ts a b] (.Tuple vs c d) env = pure r := by
  have hb : env.blockKind = .function := by unfold Env.blockKind; rw [hk]; rfl
  unfold swappedStores
  simp only [hb]
  show (if (!(ts.length == 2 || ts.length == 3) || vs.length != ts.length || ScopeKind.function != ScopeKind.function) = true then pure none
    else if (vs.any fun | .Starred .. => true | _ => false) = true then pure none
    else if ((swNames env.scope ts).length != ts.length || (swNames env.scope ts).eraseDups.length != (swNames env.scope ts).length) = true then pure none
    else if vs.all (foldedForSure 8) = true then pure none
    else if vs.all (constantsAlone 8) = true then _
    else pure (some (swNames env.scope ts))) = pure r
  unfold swN at h
  by_cases c1 : (!(ts.length == 2 || ts.length == 3) || vs.length != ts.length || ScopeKind.function != ScopeKind.function) = true
  · rw [if_pos c1] at h ⊢; cases h; rfl
  rw [if_neg c1] at h ⊢
  by_cases c2 : (vs.any fun | .Starred .. => true | _ => false) = true
  · rw [if_pos c2] at h ⊢; cases h; rfl
  rw [if_neg c2] at h ⊢
  by_cases c3 : ((swNames env.scope ts).length != ts.length || (swNames env.scope ts).eraseDups.length != (swNames env.scope ts).length) = true
  · rw [if_pos c3] at h ⊢; cases h; rfl
  rw [if_neg c3] at h ⊢
  by_cases c4 : vs.all (foldedForSure 8) = true
  · rw [if_pos c4] at h ⊢; cases h; rfl
  rw [if_neg c4] at h ⊢
  by_cases c5 : vs.all (constantsAlone 8) = true
  · rw [if_pos c5] at h; cases h
  rw [if_neg c5] at h ⊢
  cases h
  rfl
theorem stores_no {tg e : Expr} {env : Env} (h : isTup e = false) : swappedStores [tg] e env = pure none := by
  cases e <;> first | (cases tg <;> rfl) | cases h
theorem stores_sub {o k e : Expr} {p : Pos} {env : Env} : swappedStores [.Subscript o k p] e env = pure none := by
  cases e <;> rfl
theorem SimF.sim {t : TE} {m : En → Res Sm.D} (h2 : SimF C W t m) : Sim C W (DatR C) t m := fun σ H ρ Q R h => h2 σ H ρ Q R (by
  cases q : m ρ with
  | ok a ρ1 => rw [q] at h; exact fun b H' x y z => h b H' x y z.dat
  | exc c x ρ1 => rw [q] at h; exact h
  | bad => rw [q] at h; exact h)
theorem SS.congr {st : Stmt} {m m' : En → Res Fl} (h : SS X C W own st m) (q : ∀ ρ, m ρ = m' ρ) : SS X C W own st m' := by
  have z : m = m' := funext q
  rw [← z]
  exact h
/-- x = [..]: swapped or not -/
theorem setLc_of {i : Nat} {x : Str} {p pos : Pos} {e : Expr} {m : En → Res Sm.D} (G : Gd S n F sc X C W) (hi : X.N[i]? = some x) (hx : Loc X.env.scope x) (hf : X.fn x = true) (h : LcP X C W e m) :
    ∃ te, PS X (.Assign [.Name x p] e pos) (tAsg te (gName i)) ∧ SimF C W te m := by
  have hN : X.N.Nodup := by rw [G.N]; exact G.nd
  have h' := h.sf G.calm hN
  obtain ⟨elt, tg, iter, ifs, scope, own, pos', wi, g, tt, te, rfl, i1, ok, g1, t1, u1, hfs, hm⟩ := h
  obtain ⟨b, hb, hbl⟩ := sw_lc (elt := elt) (gs := [⟨tg, iter, ifs, 0⟩]) (scope := scope) (pos := pos') (py := p) (y := x) (l := pos.line) (env := X.env)
  cases b with
  | true => exact ⟨_, ps_setLc G.calm hN hi (hbl rfl) hb i1 ok g1 t1 u1 hfs, hm⟩
  | false =>
    obtain ⟨te', q1, q2⟩ := h'
    exact ⟨_, ps_set hN hi hx q1 hb (.inl hf), q2⟩
end
end Sm
end

section
set_option Elab.async false
set_option linter.all false
set_option autoImplicit false
set_option maxRecDepth 100000
set_option maxHeartbeats 1000000
/-! Sm19: the check of statements is right. -/
namespace Sm
open PySem PySem.Spec PyProof.Rows L2
section
variable {S : Sg} {n : Nat} {F : Nat → List Ar → FRes} {sc : Scope} {X : Cx} {C C' : Fc} {W : WX} {own : Bool}
theorem sws_tup {e : Expr} {es : List Expr} {k : Nat} {p : Pos} {l : Nat} {env : Env} : swapsWithSole [.Tuple es k p] e l env = pure false := by unfold swapsWithSole; exact sw_tup
theorem sws_sub {e o k : Expr} {p : Pos} {l : Nat} {env : Env} : swapsWithSole [.Subscript o k p] e l env = pure false := by unfold swapsWithSole; exact sw_sub
theorem evEs_len : ∀ {es : Exs} {vs : List Expr} {ρ ρ' : En} {ds : List Sm.D}, chkEs S es sc vs = true → evEs F es ρ = .ok ds ρ' → ds.length = vs.length
  | .nil, vs, ρ, ρ', ds, h, e => by
    cases vs with
    | nil => cases e; rfl
    | cons _ _ => cases h
  | .cons a es, vs, ρ, ρ', ds, h, e => by
    cases vs with
    | nil => cases h
    | cons x xs =>
      have h' : (noStar x && (chk S a .E sc x && chkEs S es sc xs)) = true := h
      obtain ⟨_, h2⟩ := and2 h'
      obtain ⟨_, h4⟩ := and2 h2
      obtain ⟨y, ρ1, _, e1⟩ := ok_of_bind (show (evE F a ρ).bind (fun x ρ => (evEs F es ρ).bind fun xs ρ => .ok (x :: xs) ρ) = .ok ds ρ' from e)
      obtain ⟨ys, ρ2, e2, e3⟩ := ok_of_bind e1
      cases e3
      rw [List.length_cons, List.length_cons, evEs_len h4 e2]
theorem par_asgs : ∀ {is : List (Nat × Bool)} {ds : List Sm.D} {ρ : En}, (∀ p ∈ is, p.2 = false) → putS F (is.map fun p => .nm p.1) ds ρ = putPar is ds ρ
  | [], [], ρ, _ => rfl
  | [], _ :: _, ρ, _ => rfl
  | (i, b) :: r, ds, ρ, h => by
    have hb : b = false := h (i, b) List.mem_cons_self
    subst hb
    cases ds with
    | nil => rfl
    | cons d ds =>
      show (put i (.dat d) ρ).bind (fun _ ρ => putS F (r.map fun p => .nm p.1) ds ρ) = (put i (.dat d) ρ).bind fun _ ρ => putPar r ds ρ
      congr 1
      funext _ ρ'
      exact par_asgs fun p hp => h p (List.mem_cons_of_mem _ hp)
theorem nms_ok (G : Gd S n F sc X C W) (hf : ∀ x, X.fn x = true) : ∀ {is : List (Nat × Bool)} {ts : List Expr}, nmsB S sc is ts = true → SGs X C W ts (putS F (is.map fun p => .nm p.1)) ∧ (∀ e ∈ ts, noStar e = true) ∧ (∀ p ∈ is, p.2 = false) ∧ is.length = ts.length
  | [], ts, h => by
    cases ts with
    | nil => exact ⟨sgs_nil, fun e he => absurd he (by simp), fun e he => absurd he (by simp), rfl⟩
    | cons _ _ => cases h
  | (i, b) :: r, ts, h => by
    unfold nmsB at h
    split at h
    · rename_i x p es
      obtain ⟨h1, h2⟩ := and2 h
      obtain ⟨h3, h4⟩ := and2 h2
      obtain ⟨h5, h6⟩ := and2 h4
      obtain ⟨q1, q2, q3, q4⟩ := nms_ok G hf h6
      have hx : Loc X.env.scope x := (locC_ok h5 (fun _ => hf x) G.scp).1
      refine ⟨sgs_nm (by rw [G.N]; exact G.nd) (by rw [G.N]; exact of_decide_eq_true h3) hx (hf x) q1 (by rw [asg_cons (e := .Name x p) rfl]; rfl), fun e he => (List.mem_cons.mp he).elim (fun z => by rw [z]; rfl) (q2 e), fun q hq => (List.mem_cons.mp hq).elim (fun z => by rw [z]; simpa using h1) (q3 q), by rw [List.length_cons, List.length_cons, q4]⟩
    · cases h
theorem sts_ok (G : Gd S n F sc X C W) (hf : ∀ x, X.fn x = true) : ∀ {r : List STg} {ts : List Expr}, chkSTs S sc r ts = true → SGs X C W ts (putS F r) ∧ ∀ e ∈ ts, noStar e = true
  | [], ts, h => by
    cases ts with
    | nil => exact ⟨sgs_nil, fun e he => absurd he (by simp)⟩
    | cons _ _ => cases h
  | .nm i :: r, ts, h => by
    unfold chkSTs at h
    split at h
    · rename_i x p es
      obtain ⟨h1, h2⟩ := and2 h
      obtain ⟨h3, h4⟩ := and2 h2
      obtain ⟨q1, q2⟩ := sts_ok G hf h4
      have hx : Loc X.env.scope x := (locC_ok h3 (fun _ => hf x) G.scp).1
      exact ⟨sgs_nm (by rw [G.N]; exact G.nd) (by rw [G.N]; exact of_decide_eq_true h1) hx (hf x) q1 (by rw [asg_cons (e := .Name x p) rfl]; rfl), fun e he => (List.mem_cons.mp he).elim (fun z => by rw [z]; rfl) (q2 e)⟩
    · cases h
  | .sub i k :: r, ts, h => by
    unfold chkSTs at h
    split at h
    · rename_i o kx p es
      obtain ⟨h1, h2⟩ := and2 h
      obtain ⟨h3, h4⟩ := and2 h2
      obtain ⟨h5, h6⟩ := and2 h4
      obtain ⟨q1, q2⟩ := sts_ok G hf h6
      exact ⟨sgs_sub (G.slot h1).1 (chk_ok k .E _ G h5) q1 (fun v => by cases kx <;> first | rfl | cases h3) (by rw [asg_cons (e := .Subscript o kx p) rfl]; rfl), fun e he => (List.mem_cons.mp he).elim (fun z => by rw [z]; rfl) (q2 e)⟩
    · cases h
/-- the argument list of a list's method -/
theorem few_ok {cp : Pos} {y : Expr} {env : Env} (h : noStar y = true) : ((backTo cp (starEach [y] env)).all (fun x => !x.1) && (backToKw cp (keywordEach [] env)).all (fun x => x.1.isSome) && decide ([y].length + ([] : List Keyword).length + (if ([] : List Keyword).isEmpty then 0 else 1) < 30)) = true := by
  rw [star_cons h]
  rfl
theorem slot_name {N : List Str} {i : Nat} {e : Expr} (h : slotB N sc i e = true) : ∃ x p, e = .Name x p := by
  unfold slotB at h
  split at h
  · exact ⟨_, _, rfl⟩
  · cases h
theorem asg_par_none {is : List (Nat × Bool)} {ts vs : List Expr} {k k2 : Nat} {p p2 pos : Pos} {m : En → Res (List Sm.D)} (G : Gd S n F sc X C W) (q1 : SGs X C W ts (putS F (is.map fun p => .nm p.1))) (q2 : ∀ e ∈ ts, noStar e = true) (q3 : ∀ p ∈ is, p.2 = false) (hl : ts.length = vs.length)
    (A : SEs X C W vs m) (hlen : ∀ ρ ds ρ', m ρ = .ok ds ρ' → ds.length = vs.length) (hz : vs.length ≤ 100) (hw : swappedStores [.Tuple ts k p] (.Tuple vs k2 p2) X.env = pure none) : SS X C W own (.Assign [.Tuple ts k p] (.Tuple vs k2 p2) pos) (fun ρ => (m ρ).bind fun xs ρ => nx (putPar is xs ρ)) := by
  refine (ss_asgs G.K G.calm A q1 hl (asg_len q2) (noStars_idx q2) hlen (Nat.le_trans hz (by rw [sizeLine_eq]; omega)) sws_tup hw (by rw [asg_cons (e := .Tuple ts k p) rfl]; rfl)).congr fun ρ => ?_
  congr 1
  funext ds ρ'
  rw [par_asgs q3]
mutual
theorem chkS_ok : ∀ (ir : St) (st : Stmt) {C : Fc}, Gd S n F sc X C W → PassesOwn (model X.prog X.w) X.A X.env X.xe → (∀ x, X.fn x = true) → chkS S own sc ir st = true → SS X C W own st (evS F ir)
  | .set i e, st, C, G, P, hf, h => by
    unfold chkS at h
    split at h
    · rename_i x p v pos
      obtain ⟨h1, h2⟩ := and2 h
      obtain ⟨h3, h4⟩ := and2 h2
      obtain ⟨h5, h6⟩ := and2 h4
      have hx : Loc X.env.scope x := (locC_ok h3 (fun _ => hf x) G.scp).1
      have hi : X.N[i]? = some x := by rw [G.N]; exact of_decide_eq_true h1
      cases hc : isComp v with
      | false => exact ss_set (by rw [G.N]; exact G.nd) hi hx (hf x) (chk_ok e .E _ G h5) (sw_no hc)
      | true =>
        rw [hc] at h6
        cases e with
        | lc tg os src cond elt =>
          obtain ⟨te, q1, q2⟩ := setLc_of G hi hx (hf x) (lc_of G h5 (fun tg it h => chkIt_ok src tg it G h) (fun e _ _ _ _ G' h' => (chk_ok cond .T e G' h').1) fun e _ _ _ _ G' h' => chk_ok elt .E e G' h').1
          exact ⟨_, q1, set_sim q2.sim⟩
        | _ => cases h6
    · cases h
  | .setO i e, st, C, G, P, hf, h => by
    unfold chkS at h
    split at h
    · rename_i x p v pos
      obtain ⟨h1, h2⟩ := and2 h
      obtain ⟨h3, h4⟩ := and2 h2
      obtain ⟨h5, h6⟩ := and2 h4
      obtain ⟨h7, h8⟩ := and2 h6
      have hx : Loc X.env.scope x := (locC_ok h3 (fun _ => hf x) G.scp).1
      have hi : X.N[i]? = some x := by rw [G.N]; exact of_decide_eq_true h1
      cases hc : isComp v with
      | false => exact ss_setO (by rw [G.N]; exact G.nd) hi hx (hf x) (chkF_ok G h7 h5) (sw_no hc)
      | true =>
        rw [hc] at h8
        cases e with
        | lc tg os src cond elt =>
          obtain ⟨te, q1, q2⟩ := setLc_of G hi hx (hf x) (lc_of G h7 (fun tg it h => chkIt_ok src tg it G h) (fun e _ _ _ _ G' h' => (chk_ok cond .T e G' h').1) fun e _ _ _ _ G' h' => chk_ok elt .E e G' h').1
          exact ⟨_, q1, setO_sim q2⟩
        | _ => cases h8
    · cases h
  | .unp t e, st, C, G, P, hf, h => by
    unfold chkS at h
    split at h
    · rename_i tg v pos
      obtain ⟨h1, h2⟩ := and2 h
      obtain ⟨h3, h4⟩ := and2 h2
      obtain ⟨h5, h6⟩ := and2 h4
      cases tg with
      | Tuple es k p => exact ss_unp (chk_ok e .E _ G h5) (tg_ok t _ G (fun _ => hf) h3) sws_tup (stores_no (by simpa using h6)) (by rw [asg_cons (e := .Tuple es k p) rfl]; rfl)
      | _ => cases h1
    · cases h
  | .par is es, st, C, G, P, hf, h => by
    unfold chkS at h
    split at h
    · rename_i ts k p vs k2 p2 pos
      obtain ⟨h1, h2⟩ := and2 h
      obtain ⟨h3, h4⟩ := and2 h2
      obtain ⟨h5, h6⟩ := and2 h4
      have hl := of_decide_eq_true h5
      obtain ⟨q1, q2, q3, q4⟩ := nms_ok G hf h1
      have A := chkEs_ok es _ G h3
      have hk : X.env.scope.kind = .function := by rw [G.scp]; exact G.kind
      split at h6
      · rename_i e6
        have w := asg_par_none G q1 q2 q3 (by rw [← q4]; exact hl) A (fun ρ ds ρ' e => evEs_len h3 e) (of_decide_eq_true h6) (stores_tup (a := k) (b := p) (c := k2) (d := p2) hk (by rw [G.scp]; exact e6)) (own := own) (pos := pos)
        exact w
      · rename_i l e6
        have e7 := stores_tup (a := k) (b := p) (c := k2) (d := p2) hk (by rw [G.scp]; exact e6)
        have hN : X.N.Nodup := by rw [G.N]; exact G.nd
        split at h6
        · rename_i x px y py
          obtain ⟨h7, h8⟩ := and2 h6
          have z := of_decide_eq_true h7
          subst z
          obtain ⟨h81, h82⟩ := and2 h8
          obtain ⟨hlx, hly⟩ := and2 h82
          have nd := of_decide_eq_true h81
          match is, q4, h1, q3, hl, nd with
          | [(i, b), (j, b')], _, h1, q3, hl, nd =>
            have hb : b = false := q3 (i, b) (by simp)
            have hb' : b' = false := q3 (j, b') (by simp)
            subst hb hb'
            obtain ⟨_, a2⟩ := and2 (show (true && (decide (S.N[i]? = some x) && (locC true sc x && (true && (decide (S.N[j]? = some y) && (locC true sc y && true)))))) = true from h1)
            obtain ⟨a3, a4⟩ := and2 a2
            obtain ⟨a5, a6⟩ := and2 a4
            obtain ⟨_, a7⟩ := and2 a6
            obtain ⟨a8, a9⟩ := and2 a7
            obtain ⟨a10, _⟩ := and2 a9
            match vs, hl, A, e7 with
            | [v, w], _, A, e7 =>
              exact ss_par2 G.calm hN (by rw [G.N]; exact of_decide_eq_true a3) (by rw [G.N]; exact of_decide_eq_true a8) (by simpa using nd) (by rw [G.scp]; exact of_decide_eq_true hlx) (by rw [G.scp]; exact of_decide_eq_true hly) A e7 rfl
        · rename_i x px y py w pw
          obtain ⟨h7, h8⟩ := and2 h6
          have z := of_decide_eq_true h7
          subst z
          obtain ⟨h81, h82⟩ := and2 h8
          obtain ⟨hlx, h83⟩ := and2 h82
          obtain ⟨hly, hlz⟩ := and2 h83
          have nd := of_decide_eq_true h81
          match is, q4, h1, q3, hl, nd with
          | [(i, b), (j, b'), (l, b'')], _, h1, q3, hl, nd =>
            have hb : b = false := q3 (i, b) (by simp)
            have hb' : b' = false := q3 (j, b') (by simp)
            have hb'' : b'' = false := q3 (l, b'') (by simp)
            subst hb hb' hb''
            obtain ⟨_, a2⟩ := and2 (show (true && (decide (S.N[i]? = some x) && (locC true sc x && (true && (decide (S.N[j]? = some y) && (locC true sc y && (true && (decide (S.N[l]? = some w) && (locC true sc w && true))))))))) = true from h1)
            obtain ⟨a3, a4⟩ := and2 a2
            obtain ⟨a5, a6⟩ := and2 a4
            obtain ⟨_, a7⟩ := and2 a6
            obtain ⟨a8, a9⟩ := and2 a7
            obtain ⟨a10, a11⟩ := and2 a9
            obtain ⟨_, a12⟩ := and2 a11
            obtain ⟨a13, a14⟩ := and2 a12
            obtain ⟨a15, _⟩ := and2 a14
            have nd' : i ≠ j ∧ i ≠ l ∧ j ≠ l := by
              simp at nd
              exact ⟨nd.1.1, nd.1.2, nd.2⟩
            match vs, hl, A, e7 with
            | [v, v', v''], _, A, e7 =>
              exact ss_par3 G.calm hN (by rw [G.N]; exact of_decide_eq_true a3) (by rw [G.N]; exact of_decide_eq_true a8) (by rw [G.N]; exact of_decide_eq_true a13) nd'.1 nd'.2.1 nd'.2.2 (by rw [G.scp]; exact of_decide_eq_true hlx) (by rw [G.scp]; exact of_decide_eq_true hly) (by rw [G.scp]; exact of_decide_eq_true hlz) A e7 rfl
        · cases h6
      · cases h6
    · cases h
  | .asgs ts es, st, C, G, P, hf, h => by
    unfold chkS at h
    split at h
    · rename_i tes k p vs k2 p2 pos
      obtain ⟨h1, h2⟩ := and2 h
      obtain ⟨h3, h4⟩ := and2 h2
      obtain ⟨h5, h6⟩ := and2 h4
      obtain ⟨h7, h8⟩ := and2 h6
      obtain ⟨q1, q2⟩ := sts_ok G hf h1
      have hk : X.env.scope.kind = .function := by rw [G.scp]; exact G.kind
      split at h8
      · rename_i e8
        exact ss_asgs G.K G.calm (chkEs_ok es _ G h3) q1 (of_decide_eq_true h5) (asg_len q2) (noStars_idx q2) (fun ρ ds ρ' e => evEs_len h3 e) (Nat.le_trans (of_decide_eq_true h7) (by rw [sizeLine_eq]; omega)) sws_tup (stores_tup hk (by rw [G.scp]; exact e8)) (by rw [asg_cons (e := .Tuple tes k p) rfl]; rfl)
      · cases h8
    · cases h
  | .sto i k e, st, C, G, P, hf, h => by
    unfold chkS at h
    split at h
    · rename_i o kx tp v pos
      obtain ⟨h1, h2⟩ := and2 h
      obtain ⟨h3, h4⟩ := and2 h2
      obtain ⟨h5, h6⟩ := and2 h4
      exact ss_sto (G.slot h1).1 (chk_ok k .E _ G h5) (chk_ok e .E _ G h6) sws_sub stores_sub (by rw [asg_cons (e := .Subscript o kx tp) rfl]; rfl) (fun v => by cases kx <;> first | rfl | cases h3)
    · cases h
  | .app i e, st, C, G, P, hf, h => by
    unfold chkS at h
    split at h
    · rename_i o a ap y cp pos
      obtain ⟨h1, h2⟩ := and2 h
      obtain ⟨h3, h4⟩ := and2 h2
      obtain ⟨h5, h6⟩ := and2 h4
      obtain ⟨h7, h8⟩ := and2 h6
      have z := of_decide_eq_true h1
      subst z
      have hs := (G.slot h3).1
      obtain ⟨x, p, rfl⟩ := slot_name h3
      exact ss_app hs (chk_ok e .E _ G h8) rfl (few_ok h7) h5 (star_cons h7) rfl
    · cases h
  | .ext i e, st, C, G, P, hf, h => by
    unfold chkS at h
    split at h
    · rename_i o a ap y cp pos
      obtain ⟨h1, h2⟩ := and2 h
      obtain ⟨h3, h4⟩ := and2 h2
      obtain ⟨h5, h6⟩ := and2 h4
      obtain ⟨h7, h8⟩ := and2 h6
      have z := of_decide_eq_true h1
      subst z
      have hs := (G.slot h3).1
      obtain ⟨x, p, rfl⟩ := slot_name h3
      exact ss_ext hs (chk_ok e .E _ G h8) rfl (few_ok h7) h5 (star_cons h7) rfl
    · cases h
  | .ins _ _ _, st, C, G, P, hf, h => by cases h
  | .aug i o e, st, C, G, P, hf, h => by
    unfold chkS at h
    split at h
    · rename_i x p op v pos
      obtain ⟨h1, h2⟩ := and2 h
      obtain ⟨h3, h4⟩ := and2 h2
      obtain ⟨h5, h6⟩ := and2 h4
      obtain ⟨h7, h8⟩ := and2 h6
      have z := of_decide_eq_true h5
      subst z
      have hx : Loc X.env.scope x := (locC_ok h3 (fun _ => hf x) G.scp).1
      have hi : X.N[i]? = some x := by rw [G.N]; exact of_decide_eq_true h1
      have hN : X.N.Nodup := by rw [G.N]; exact G.nd
      cases o with
      | add => exact ss_aug hN hi hx (hf x) (chk_ok e .E _ G h8) ip_add fun a b => rfl
      | sub => exact ss_aug hN hi hx (hf x) (chk_ok e .E _ G h8) ip_sub fun a b => rfl
      | _ => cases h7
    · cases h
  | .ex e, st, C, G, P, hf, h => by
    unfold chkS at h
    split at h
    · obtain ⟨h1, h2⟩ := and2 h
      exact ss_ex (chk_ok e .E _ G h2) (sw_no (by simpa using h1))
    · cases h
  | .ite c a b, st, C, G, P, hf, h => by
    unfold chkS at h
    split at h
    · obtain ⟨h1, h2⟩ := and2 h
      obtain ⟨h3, h4⟩ := and2 h2
      refine (ss_ite (chk_ok c .T _ G h1).1 (chkSs_ok a _ G P hf h3) (chkSs_ok b _ G P hf h4)).congr fun ρ => ?_
      exact bind_assoc' _ _ _
    · cases h
  | .for_ t it b, st, C, G, P, hf, h => by
    unfold chkS at h
    split at h
    · rename_i tg iter body pos
      obtain ⟨h1, h2⟩ := and2 h
      obtain ⟨h3, h4⟩ := and2 h2
      obtain ⟨h5, h6⟩ := and2 h4
      exact ss_for P G.calm (chkIt_ok it tg iter G h3) (fun C' q1 q2 => tg_ok t tg (G.frame q1 q2) (fun _ => hf) h5) (fun C' q1 q2 => chkSs_ok b body (G.frame q1 q2) P hf h6) (fold_no h1)
    · cases h
  | .whl c b, st, C, G, P, hf, h => by
    unfold chkS at h
    split at h
    · obtain ⟨h1, h2⟩ := and2 h
      exact ss_whl P (chk_ok c .T _ G h1).1 (chkSs_ok b _ G P hf h2) WF
    · cases h
  | .ret e, st, C, G, P, hf, h => by
    unfold chkS at h
    split at h
    · obtain ⟨h1, h2⟩ := and2 h
      cases own with
      | false => exact ss_ret (chk_ok e .E _ G h2)
      | true => cases h1
    · cases h
  | .retO e, st, C, G, P, hf, h => by
    unfold chkS at h
    split at h
    · obtain ⟨h1, h2⟩ := and2 h
      exact ss_retO (chkF_ok G h2 h1)
    · cases h
  | .retN, st, C, G, P, hf, h => by
    unfold chkS at h
    split at h
    · cases own with
      | false => exact ss_retN
      | true => cases h
    · cases h
  | .brk, st, C, G, P, hf, h => by
    unfold chkS at h
    split at h
    · exact ss_brk
    · cases h
  | .cnt, st, C, G, P, hf, h => by
    unfold chkS at h
    split at h
    · exact ss_cnt
    · cases h
  | .pass, st, C, G, P, hf, h => by
    unfold chkS at h
    split at h
    · exact ss_pass
    · exact ss_doc
    · cases h
  | .frz _, st, C, G, P, hf, h => by cases h
  | .rais _ _, st, C, G, P, hf, h => by cases h
  | .never, st, C, G, P, hf, h => ss_never
theorem chkSs_ok : ∀ (ir : Sts) (sts : List Stmt) {C : Fc}, Gd S n F sc X C W → PassesOwn (model X.prog X.w) X.A X.env X.xe → (∀ x, X.fn x = true) → chkSs S own sc ir sts = true → SSs X C W own sts (evSs F ir)
  | .nil, sts, C, G, P, hf, h => by
    cases sts with
    | nil => exact sss_nil
    | cons _ _ => cases h
  | .cons s r, sts, C, G, P, hf, h => by
    by_cases q : ∃ i, s = .frz i
    · obtain ⟨i, rfl⟩ := q
      exact sss_frz (chkSs_ok r sts G P hf h)
    · cases sts with
      | nil => cases s <;> first | (cases h; done) | exact absurd ⟨_, rfl⟩ q
      | cons st rest =>
        have h' : (chkS S own sc s st && chkSs S own sc r rest) = true := by cases s <;> first | exact h | exact absurd ⟨_, rfl⟩ q
        obtain ⟨h1, h2⟩ := and2 h'
        exact sss_cons (chkS_ok s st G P hf h1) (chkSs_ok r rest G P hf h2)
end
end
end Sm
end

section
set_option Elab.async false
set_option linter.all false
set_option autoImplicit false
set_option maxRecDepth 100000
/-! Sm20: a def's parameters are bound. -/
namespace Sm
open PySem PySem.Spec PyProof.Rows L2
theorem zip_lookup : ∀ {ns : List Str} {us : List Value}, ns.Nodup → ns.length = us.length → (ns.filterMap fun n => ((ns.zip us).lookup n).map (n, ·)) = ns.zip us
  | [], [], _, _ => rfl
  | [], _ :: _, _, h => by cases h
  | _ :: _, [], _, h => by cases h
  | n :: ns, u :: us, hn, hl => by
    rw [List.nodup_cons] at hn
    have ih := zip_lookup hn.2 (Nat.succ.inj hl)
    rw [List.zip_cons_cons, List.filterMap_cons, List.lookup_cons_self]
    simp only [Option.map_some]
    congr 1
    have key : ∀ (l : List Str), (∀ m ∈ l, m ≠ n) → l.filterMap (fun m => (List.lookup m ((n, u) :: ns.zip us)).map (m, ·)) = l.filterMap fun m => (List.lookup m (ns.zip us)).map (m, ·) := fun l => by
      induction l with
      | nil => intro _; rfl
      | cons m l ih =>
        intro h
        have hm : (m == n) = false := by
          cases q : m == n with
          | false => rfl
          | true => exact absurd (eq_of_beq q) (h m List.mem_cons_self)
        rw [List.filterMap_cons, List.filterMap_cons, List.lookup_cons, hm, ih fun k hk => h k (List.mem_cons_of_mem _ hk)]
    exact (key ns fun m hm z => hn.1 (by rw [← z]; exact hm)).trans ih
theorem zip_some : ∀ {ns : List Str} {us : List Value} {n : Str}, ns.length = us.length → n ∈ ns → ((ns.zip us).lookup n).isNone = false
  | [], _, n, _, h => by simp at h
  | _ :: _, [], n, hl, h => by cases hl
  | m :: ns, u :: us, n, hl, h => by
    rw [List.zip_cons_cons, List.lookup_cons]
    cases q : n == m with
    | true => rfl
    | false =>
      rcases List.mem_cons.mp h with rfl | h
      · rw [beq_self_eq_true] at q; cases q
      · exact zip_some (Nat.succ.inj hl) h
theorem bind_plain {x qual : Str} {args : List Arg} {kd : List (Option Expr)} {ds : List Expr} {body : List Stmt} {scope : Scope} {kV doc pm cdv ct : Value} {an : Option Addr} {us : List Value} (hn : (args.map (·.arg)).Nodup) (hl : us.length = (args.map (·.arg)).length) :
    bindArgs (PySem.W.fnOf x qual ⟨[], args, none, [], kd, none, ds⟩ body scope .none kV doc pm an cdv ct) ⟨us, []⟩ = pure ((args.map (·.arg)).zip us) := by
  have e1 : ∀ (k : Nat), (((args.map (·.arg)).take k).filter fun n => (((args.map (·.arg)).zip us).lookup n).isNone) = [] := fun k => by
    rw [List.filter_eq_nil_iff]
    intro n h
    rw [zip_some hl.symm (List.mem_of_mem_take h)]
    decide
  unfold bindArgs
  have hs : seqItems? Value.none = pure none := rfl
  have h0 : ((none : Option (Array Value)).getD #[]).toList = [] := rfl
  have c1 : (decide (us.length > (args.map (·.arg)).length) && (none : Option Arg).isNone) = false := by
    rw [hl]
    simp
  simp only [PySem.W.fnOf, List.map_nil, List.nil_append, List.append_nil, List.forIn_nil, pure_bind, hs, h0, List.drop_nil, List.length_nil, Nat.sub_zero, e1, c1, Bool.false_eq_true, if_false, List.isEmpty_nil, Bool.not_true, List.zip_nil_right]
  rw [zip_lookup hn hl.symm]
end Sm
end

section
set_option Elab.async false
set_option linter.all false
set_option autoImplicit false
set_option maxRecDepth 100000
/-! Sm21: a def's entry and its end. -/
namespace Sm
open PySem PySem.Spec PyProof.Rows L2
/-- the lists handed over, with their slots -/
def iP : Nat → List V → List Ar → List (Nat × Addr)
  | k, .ref a :: vs, .o _ _ :: as => (k, a) :: iP (k + 1) vs as
  | k, _ :: vs, _ :: as => iP (k + 1) vs as
  | _, _, _ => []
theorem iP_snd : ∀ {k : Nat} {vs : List V} {as : List Ar}, (iP k vs as).map (·.2) = oAd vs as
  | k, [], as => by cases as <;> rfl
  | k, v :: vs, [] => by cases v <;> rfl
  | k, v :: vs, a :: as => by
    have ih := iP_snd (k := k + 1) (vs := vs) (as := as)
    cases v <;> cases a <;> first | exact ih | exact congrArg (List.cons _) ih
theorem iP_mem : ∀ {k : Nat} {vs : List V} {as : List Ar} {p : Nat × Addr}, p ∈ iP k vs as ↔ ∃ (i : Nat) (ds : Nat × List D), p.1 = k + i ∧ vs[i]? = some (.ref p.2) ∧ as[i]? = some (.o ds.1 ds.2)
  | k, [], as, p => by
    constructor
    · intro h; cases as <;> cases h
    · rintro ⟨i, ds, _, h, _⟩; simp at h
  | k, v :: vs, [], p => by
    constructor
    · intro h; cases v <;> cases h
    · rintro ⟨i, ds, _, _, h⟩; simp at h
  | k, v :: vs, a :: as, p => by
    have ih := iP_mem (k := k + 1) (vs := vs) (as := as) (p := p)
    have up : (∃ (i : Nat) (ds : Nat × List D), p.1 = k + 1 + i ∧ vs[i]? = some (.ref p.2) ∧ as[i]? = some (.o ds.1 ds.2)) → ∃ (i : Nat) (ds : Nat × List D), p.1 = k + i ∧ (v :: vs)[i]? = some (.ref p.2) ∧ (a :: as)[i]? = some (.o ds.1 ds.2) := fun ⟨i, ds, h1, h2, h3⟩ =>
      ⟨i + 1, ds, by omega, by rw [List.getElem?_cons_succ]; exact h2, by rw [List.getElem?_cons_succ]; exact h3⟩
    have down : ∀ (i : Nat) (ds : Nat × List D), p.1 = k + (i + 1) → (v :: vs)[i + 1]? = some (.ref p.2) → (a :: as)[i + 1]? = some (.o ds.1 ds.2) → ∃ (i : Nat) (ds : Nat × List D), p.1 = k + 1 + i ∧ vs[i]? = some (.ref p.2) ∧ as[i]? = some (.o ds.1 ds.2) := fun i ds h1 h2 h3 =>
      ⟨i, ds, by omega, by rw [List.getElem?_cons_succ] at h2; exact h2, by rw [List.getElem?_cons_succ] at h3; exact h3⟩
    by_cases q : ∃ b j ds, v = .ref b ∧ a = .o j ds
    · obtain ⟨b, j, ds, rfl, rfl⟩ := q
      show p ∈ (k, b) :: iP (k + 1) vs as ↔ _
      constructor
      · intro h
        rcases List.mem_cons.mp h with rfl | h
        · exact ⟨0, (j, ds), rfl, rfl, rfl⟩
        · exact up (ih.mp h)
      · rintro ⟨i, ds', h1, h2, h3⟩
        cases i with
        | zero =>
          simp only [List.getElem?_cons_zero, Option.some.injEq, V.ref.injEq] at h2
          obtain ⟨p1, p2⟩ := p
          have h1 : p1 = k + 0 := h1
          have h2 : b = p2 := h2
          subst h1 h2
          exact List.mem_cons_self
        | succ i => exact List.mem_cons_of_mem _ (ih.mpr (down i ds' h1 h2 h3))
    · have e : iP k (v :: vs) (a :: as) = iP (k + 1) vs as := by
        cases v <;> cases a <;> first | rfl | exact absurd ⟨_, _, _, rfl, rfl⟩ q
      rw [e]
      constructor
      · exact fun h => up (ih.mp h)
      · rintro ⟨i, ds', h1, h2, h3⟩
        cases i with
        | zero =>
          simp only [List.getElem?_cons_zero, Option.some.injEq] at h2 h3
          exact absurd ⟨_, _, _, h2, h3⟩ q
        | succ i => exact ih.mpr (down i ds' h1 h2 h3)
theorem iP_inc : ∀ {k : Nat} {vs : List V} {as : List Ar} {i j : Nat} {p q : Nat × Addr}, (iP k vs as)[i]? = some p → (iP k vs as)[j]? = some q → i = j → p = q := fun h1 h2 e => by
  subst e
  rw [h1] at h2
  exact Option.some.inj h2
theorem bAd_mem : ∀ {vs : List V} {as : List Ar} {i j : Nat} {a : Addr} {x : D}, vs[i]? = some (.ref a) → as[i]? = some (.b j x) → a ∈ bAd vs as
  | [], _, i, _, _, _, h, _ => by simp at h
  | _ :: _, [], i, _, _, _, _, h => by simp at h
  | v :: vs, b :: as, 0, j, a, x, h1, h2 => by
    simp only [List.getElem?_cons_zero, Option.some.injEq] at h1 h2
    subst h1 h2
    exact List.mem_cons_self
  | v :: vs, b :: as, i + 1, j, a, x, h1, h2 => by
    rw [List.getElem?_cons_succ] at h1 h2
    have ih := bAd_mem h1 h2
    cases v <;> cases b <;> first | exact ih | exact List.mem_cons_of_mem _ ih
theorem ArL.get {K : PySem.W.Frag} {H : Hp} {P : Ow} : ∀ {vs : List V} {as : List Ar} {i : Nat} {a : Ar}, ArL K H P vs as → as[i]? = some a → ∃ v, vs[i]? = some v ∧ ArR K H P v a
  | _, _, i, a, .nil, h => by simp at h
  | _, _, 0, a, .cons x t, h => by
    simp only [List.getElem?_cons_zero, Option.some.injEq] at h
    subst h
    exact ⟨_, rfl, x⟩
  | _, _, i + 1, a, .cons x t, h => by
    rw [List.getElem?_cons_succ] at h
    obtain ⟨v, h1, h2⟩ := ArL.get t h
    exact ⟨v, by rw [List.getElem?_cons_succ]; exact h1, h2⟩
/-- one slot at the entry -/
inductive Ent1 : Mo → Ar → Sl → Prop where
  | d (x : D) : Ent1 .d (.d x) (.dat x)
  | bd (x : D) : Ent1 .b (.d x) (.bor x)
  | bb (i : Nat) (x : D) : Ent1 .b (.b i x) (.bor x)
  | o (i : Nat) (ds : List D) : Ent1 .o (.o i ds) (.io ds)
  | s (ds : List D) : Ent1 .s (.s ds) (.scr ds)
theorem entry_len : ∀ {ms : List Mo} {as : List Ar} {ρ : En}, entry ms as = some ρ → as.length = ms.length ∧ ρ.length = ms.length ∧ ∀ (i : Nat) (s : Sl), ρ[i]? = some s → ∃ m a, ms[i]? = some m ∧ as[i]? = some a ∧ Ent1 m a s
  | [], [], ρ, h => by cases h; exact ⟨rfl, rfl, fun i s h => by simp at h⟩
  | [], _ :: _, ρ, h => by cases h
  | m :: ms, [], ρ, h => by cases m <;> cases h
  | m :: ms, a :: as, ρ, h => by
    have key : ∀ {s : Sl}, Ent1 m a s → (entry ms as).map (s :: ·) = some ρ → (a :: as).length = (m :: ms).length ∧ ρ.length = (m :: ms).length ∧ ∀ (i : Nat) (s : Sl), ρ[i]? = some s → ∃ m' a', (m :: ms)[i]? = some m' ∧ (a :: as)[i]? = some a' ∧ Ent1 m' a' s := fun {s} e h => by
      obtain ⟨ρ', h1, h2⟩ := Option.map_eq_some_iff.mp h
      obtain ⟨q1, q2, q3⟩ := entry_len h1
      subst h2
      refine ⟨congrArg Nat.succ q1, congrArg Nat.succ q2, fun i t ht => ?_⟩
      cases i with
      | zero =>
        simp only [List.getElem?_cons_zero, Option.some.injEq] at ht
        subst ht
        exact ⟨m, a, rfl, rfl, e⟩
      | succ i =>
        rw [List.getElem?_cons_succ] at ht
        obtain ⟨m', a', w1, w2, w3⟩ := q3 i t ht
        exact ⟨m', a', by rw [List.getElem?_cons_succ]; exact w1, by rw [List.getElem?_cons_succ]; exact w2, w3⟩
    cases m <;> cases a <;> first | exact key (.d _) h | exact key (.bd _) h | exact key (.bb _ _) h | exact key (.o _ _) h | exact key (.s _) h | cases h
def Fc.start (K : PySem.W.Frag) (mg : Str → Option Value) (P : Ow) (H : Hp) (vs : List V) (as : List Ar) : Fc := ⟨K, mg, P, H, iP 0 vs as, [], []⟩
theorem start_get {N : List Str} {vs : List V} {i : Nat} {v : V} (h : vs[i]? = some v) : (L2.start N vs)[i]? = some (some v) := by
  unfold L2.start
  rw [List.getElem?_append_left (by rw [List.length_map]; exact (List.getElem?_eq_some_iff.mp h).1), List.getElem?_map, h]
  rfl
theorem start_len {N : List Str} {vs : List V} (h : vs.length ≤ N.length) : (L2.start N vs).length = N.length := by
  unfold L2.start
  rw [List.length_append, List.length_map, List.length_replicate]
  omega
/-- the entry -/
theorem Rel.start {K : PySem.W.Frag} {mg : Str → Option Value} {P : Ow} {H : Hp} {vs : List V} {as : List Ar} {N : List Str} {ms : List Mo} {ρ : En} (hr : ArL K H P vs as) (hP : ∀ a, P a → H a ≠ none) (lim : Lim H) (ap : ApartA vs as) (he : entry ms as = some ρ) (hN : ms.length ≤ N.length) :
    Rel (Fc.start K mg P H vs as) (L2.start N vs) H (ρ ++ List.replicate (N.length - ms.length) .un) ∧ Pw (Fc.start K mg P H vs as) (L2.start N vs) (ρ ++ List.replicate (N.length - ms.length) .un) = P := by
  obtain ⟨l1, l2, l3⟩ := entry_len he
  have lv : vs.length = ms.length := hr.length.trans l1
  -- a slot of the entry
  have sl : ∀ (i : Nat) (s : Sl), (ρ ++ List.replicate (N.length - ms.length) .un)[i]? = some s → s = .un ∨ ∃ m a v, ms[i]? = some m ∧ as[i]? = some a ∧ Ent1 m a s ∧ vs[i]? = some v ∧ ArR K H P v a := fun i s h => by
    by_cases hi : i < ρ.length
    · rw [List.getElem?_append_left hi] at h
      obtain ⟨m, a, h1, h2, h3⟩ := l3 i s h
      obtain ⟨v, h4, h5⟩ := hr.get h2
      exact .inr ⟨m, a, v, h1, h2, h3, h4, h5⟩
    · rw [List.getElem?_append_right (by omega)] at h
      rw [List.getElem?_replicate] at h
      split at h
      · cases h; exact .inl rfl
      · cases h
  have ow : ∀ (i : Nat) (s : Sl), (ρ ++ List.replicate (N.length - ms.length) .un)[i]? = some s → s.isOwn = true → ∃ j ds a xs, s = .io ds ∧ as[i]? = some (.o j ds) ∧ vs[i]? = some (.ref a) ∧ P a ∧ H a = some (.lst xs) ∧ DatL H P xs ds := fun i s h o => by
    rcases sl i s h with rfl | ⟨m, a, v, h1, h2, h3, h4, h5⟩
    · cases o
    · cases h3 with
      | o j ds =>
        obtain ⟨b, xs, rfl, q1, q2, q3⟩ := h5
        exact ⟨j, ds, b, xs, rfl, h2, h4, q1, q2, q3⟩
      | _ => cases o
  have eP : Pw (Fc.start K mg P H vs as) (L2.start N vs) (ρ ++ List.replicate (N.length - ms.length) .un) = P := by
    funext b
    refine propext ⟨fun z => z.elim id fun ⟨i, s, e, o, q⟩ => ?_, .inl⟩
    obtain ⟨j, ds, a, xs, _, _, h1, h2, _, _⟩ := ow i s e o
    rw [start_get h1] at q
    cases q
    exact h2
  have ad : ∀ {i : Nat} {b : Addr} {j : Nat} {ds : List D}, vs[i]? = some (.ref b) → as[i]? = some (.o j ds) → (i, b) ∈ iP 0 vs as := fun {i b j ds} h1 h2 => iP_mem.mpr ⟨i, (j, ds), (Nat.zero_add i).symm, h1, h2⟩
  have notI : ∀ {b : Addr}, b ∉ oAd vs as → ∀ p ∈ iP 0 vs as, p.2 ≠ b := fun {b} h p hp z => h (by
    rw [← iP_snd (k := 0)]
    exact List.mem_map.mpr ⟨p, hp, z⟩)
  refine ⟨⟨⟨fun a z => .inl (hP a z), fun p hp => absurd hp (by simp [Fc.start]), fun p hp => absurd hp (by simp [Fc.start])⟩, ?_, fun i s e => ?_, fun i j s t a e1 e2 o1 o2 g1 g2 => ?_, fun b o e _ => e, ?_, fun p hp => ?_, fun i s e o => ?_, lim, fun p hp => absurd hp (by simp [Fc.start]), fun p hp => absurd hp (by simp [Fc.start]), fun p hp => absurd hp (by simp [Fc.start])⟩, eP⟩
  · rw [start_len (by omega), List.length_append, List.length_replicate]
    omega
  · rw [eP]
    rcases sl i s e with rfl | ⟨m, a, v, h1, h2, h3, h4, h5⟩
    · trivial
    · have sg := start_get (N := N) h4
      cases h3 with
      | d x => exact ⟨v, sg, h5⟩
      | bd x => exact ⟨v, sg, .inl h5⟩
      | bb j x =>
        refine ⟨v, sg, ?_⟩
        rcases h5 with h5 | ⟨b, xs, ds, rfl, q1, q2, q3⟩
        · exact .inl h5
        · exact .inr ⟨b, xs, ds, rfl, q1, q2, notI fun z => ap.ob b z (bAd_mem h4 h2), q3⟩
      | o j ds =>
        obtain ⟨b, xs, rfl, q1, q2, q3⟩ := h5
        exact ⟨b, xs, sg, q2, q3, q1⟩
      | s ds =>
        obtain ⟨b, xs, rfl, q1, q2, hz⟩ := h5
        refine ⟨hz, b, xs, sg, q1, notI ?_, q2⟩
        rw [ap.os (List.any_eq_true.mpr ⟨_, List.mem_of_getElem? h2, rfl⟩)]
        simp
  · obtain ⟨j1, ds1, a1, xs1, _, p1, p2, _⟩ := ow i s e1 o1
    obtain ⟨j2, ds2, a2, xs2, _, q1, q2, _⟩ := ow j t e2 o2
    rw [start_get p2] at g1
    rw [start_get q2] at g2
    cases g1
    cases g2
    have m1 := ad p2 p1
    have m2 := ad q2 q1
    obtain ⟨k1, hk1⟩ := List.getElem?_of_mem m1
    obtain ⟨k2, hk2⟩ := List.getElem?_of_mem m2
    have w1 : (oAd vs as)[k1]? = some a := by rw [← iP_snd (k := 0), List.getElem?_map, hk1]; rfl
    have w2 : (oAd vs as)[k2]? = some a := by rw [← iP_snd (k := 0), List.getElem?_map, hk2]; rfl
    have z := iP_inc hk1 hk2 (ap.nd k1 k2 a w1 w2)
    exact congrArg Prod.fst z
  · rw [eP]
    exact .refl _ _
  · obtain ⟨i, ds, h1, h2, h3⟩ := iP_mem.mp hp
    have hi : p.1 = i := h1.trans (Nat.zero_add i)
    refine ⟨by rw [hi]; exact start_get h2, ?_⟩
    have hlt : i < ρ.length := by rw [l2, ← l1]; exact (List.getElem?_eq_some_iff.mp h3).1
    have e : (ρ ++ List.replicate (N.length - ms.length) Sl.un)[i]? = some ρ[i] := by rw [List.getElem?_append_left hlt]; exact List.getElem?_eq_getElem hlt
    rw [hi]
    refine ⟨_, e, ?_⟩
    obtain ⟨m, a, q1, q2, q3⟩ := l3 i _ (List.getElem?_eq_getElem hlt)
    rw [h3] at q2
    cases q2
    generalize ρ[i] = s at q3
    cases q3
    rfl
  · have o' : s.isOwn = true := by cases s <;> first | rfl | cases o
    obtain ⟨j, ds, a, xs, _, p1, p2, _⟩ := ow i s e o'
    exact ⟨a, ad p2 p1⟩
end Sm
end

section
set_option Elab.async false
set_option linter.all false
set_option autoImplicit false
set_option maxRecDepth 100000
/-! Sm22: every def of the table keeps its promise. -/
namespace Sm
open PySem PySem.Spec PyProof.Rows L2
mutual
theorem Dat.on {P : Ow} {H : Hp} {a : Addr} : ∀ {v : V} {d : D}, Dat (Sm.del H a) P v d → Dat H (fun b => P b ∨ b = a) v d
  | _, _, .non => .non
  | _, _, .bl b => .bl b
  | _, _, .int i => .int i
  | _, _, .str s => .str s
  | _, _, .tup h n l => .tup (del_some h) (fun z => z.elim n fun e => by rw [e, del_same] at h; cases h) (DatL.on l)
  | _, _, .lst h n l => .lst (del_some h) (fun z => z.elim n fun e => by rw [e, del_same] at h; cases h) (DatL.on l)
theorem DatL.on {P : Ow} {H : Hp} {a : Addr} : ∀ {vs : List V} {ds : List D}, DatL (Sm.del H a) P vs ds → DatL H (fun b => P b ∨ b = a) vs ds
  | _, _, .nil => .nil
  | _, _, .cons x t => .cons (Dat.on x) (DatL.on t)
end
theorem entry_tail {m : Mo} {ms : List Mo} {a : Ar} {as : List Ar} {ρ0 : En} (h : entry (m :: ms) (a :: as) = some ρ0) : (∃ (ρ1 : En), entry ms as = some ρ1) ∧ ((∃ (j : Nat) (l : List D), m = .o ∧ a = .o j l) ∨ (m ≠ .o ∧ ∀ (j : Nat) (l : List D), a ≠ .o j l)) := by
  have key : ∀ {s : Sl}, (entry ms as).map (s :: ·) = some ρ0 → ∃ (ρ1 : En), entry ms as = some ρ1 := fun h => by
    obtain ⟨ρ1, h1, _⟩ := Option.map_eq_some_iff.mp h
    exact ⟨ρ1, h1⟩
  cases m with
  | d => cases a with
    | d x => exact ⟨key h, Or.inr ⟨fun z => (nomatch z), fun _ _ z => (nomatch z)⟩⟩
    | _ => cases h
  | b => cases a with
    | d x => exact ⟨key h, Or.inr ⟨fun z => (nomatch z), fun _ _ z => (nomatch z)⟩⟩
    | b i x => exact ⟨key h, Or.inr ⟨fun z => (nomatch z), fun _ _ z => (nomatch z)⟩⟩
    | _ => cases h
  | o => cases a with
    | o j l => exact ⟨key h, .inl ⟨j, l, rfl, rfl⟩⟩
    | _ => cases h
  | s => cases a with
    | s l => exact ⟨key h, Or.inr ⟨fun z => (nomatch z), fun _ _ z => (nomatch z)⟩⟩
    | _ => cases h
theorem iosOf_nil {ms : List Mo} : iosOf ms [] = [] := by
  cases ms with
  | nil => rfl
  | cons m ms => cases m <;> rfl
/-- the lists handed over, at the end -/
theorem iosOf_get : ∀ {ms : List Mo} {vs : List V} {as : List Ar} {ρ0 ρ : En}, entry ms as = some ρ0 → vs.length = as.length → (∀ (i j : Nat) (l : List D), as[i]? = some (.o j l) → ∃ (b : Addr) (s : Sl), vs[i]? = some (.ref b) ∧ ρ[i]? = some s ∧ s.isIo = true) →
    (iosOf ms ρ).length = (oAd vs as).length ∧ ∀ (k : Nat) (a : Addr) (ds : List D), (oAd vs as)[k]? = some a → (iosOf ms ρ)[k]? = some ds → ∃ (i : Nat), vs[i]? = some (.ref a) ∧ (∃ (j : Nat) (l : List D), as[i]? = some (.o j l)) ∧ (ρ[i]? = some (.io ds) ∨ ρ[i]? = some (.lki ds))
  | [], vs, [], ρ0, ρ, h, hv, _ => by
    have : vs = [] := List.length_eq_zero_iff.mp hv
    subst this
    refine ⟨?_, fun k a ds h1 h2 => by simp [oAd] at h1⟩
    cases ρ <;> rfl
  | [], vs, _ :: _, ρ0, ρ, h, _, _ => by cases h
  | m :: ms, vs, [], ρ0, ρ, h, _, _ => by cases m <;> cases h
  | m :: ms, [], a :: as, ρ0, ρ, h, hv, _ => by cases hv
  | m :: ms, v :: vs, a :: as, ρ0, [], h, hv, hio => by
    obtain ⟨⟨ρ1, h1⟩, hm⟩ := entry_tail h
    rcases hm with ⟨j, l, rfl, rfl⟩ | ⟨n1, n2⟩
    · obtain ⟨b, t, _, q2, _⟩ := hio 0 j l rfl
      simp at q2
    · have ih := iosOf_get (ρ := []) h1 (Nat.succ.inj hv) (fun i j l e => by
        obtain ⟨b, t, _, q2, _⟩ := hio (i + 1) j l (by rw [List.getElem?_cons_succ]; exact e)
        simp at q2)
      have ho : oAd (v :: vs) (a :: as) = oAd vs as := by
        cases a <;> cases v <;> first | exact absurd rfl (n2 _ _) | rfl
      rw [iosOf_nil, ho]
      rw [iosOf_nil] at ih
      exact ⟨ih.1, fun k a' ds' e1 e2 => by simp at e2⟩
  | m :: ms, v :: vs, a :: as, ρ0, s :: ρ, h, hv, hio => by
    obtain ⟨⟨ρ1, h1⟩, hm⟩ := entry_tail h
    have ih := iosOf_get (ρ := ρ) h1 (Nat.succ.inj hv) (fun i j l e => by
      obtain ⟨b, t, q1, q2, q3⟩ := hio (i + 1) j l (by rw [List.getElem?_cons_succ]; exact e)
      rw [List.getElem?_cons_succ] at q1 q2
      exact ⟨b, t, q1, q2, q3⟩)
    have lift : ∀ {a' : Addr} {ds : List D}, (∃ (i : Nat), vs[i]? = some (.ref a') ∧ (∃ (j : Nat) (l : List D), as[i]? = some (.o j l)) ∧ (ρ[i]? = some (.io ds) ∨ ρ[i]? = some (.lki ds))) → ∃ (i : Nat), (v :: vs)[i]? = some (.ref a') ∧ (∃ (j : Nat) (l : List D), (a :: as)[i]? = some (.o j l)) ∧ ((s :: ρ)[i]? = some (.io ds) ∨ (s :: ρ)[i]? = some (.lki ds)) := fun {a' ds} ⟨i, q1, q2, q3⟩ =>
      ⟨i + 1, by rw [List.getElem?_cons_succ]; exact q1, by rw [List.getElem?_cons_succ]; exact q2, by rw [List.getElem?_cons_succ]; exact q3⟩
    rcases hm with ⟨j, l, rfl, rfl⟩ | ⟨n1, n2⟩
    · obtain ⟨b, t, q1, q2, q3⟩ := hio 0 j l rfl
      simp only [List.getElem?_cons_zero, Option.some.injEq] at q1 q2
      subst q1 q2
      have key : ∃ (ds : List D), (s = .io ds ∨ s = .lki ds) ∧ iosOf (.o :: ms) (s :: ρ) = ds :: iosOf ms ρ := by
        cases s <;> first | exact ⟨_, .inl rfl, rfl⟩ | exact ⟨_, .inr rfl, rfl⟩ | cases q3
      obtain ⟨ds, hd, he⟩ := key
      have ho : oAd (V.ref b :: vs) (.o j l :: as) = b :: oAd vs as := rfl
      rw [he, ho]
      refine ⟨congrArg Nat.succ ih.1, fun k a' ds' e1 e2 => ?_⟩
      cases k with
      | zero =>
        simp only [List.getElem?_cons_zero, Option.some.injEq] at e1 e2
        subst e1 e2
        exact ⟨0, rfl, ⟨j, l, rfl⟩, hd.imp (fun z => by rw [z]; rfl) fun z => by rw [z]; rfl⟩
      | succ k =>
        rw [List.getElem?_cons_succ] at e1 e2
        exact lift (ih.2 k a' ds' e1 e2)
    · have he : iosOf (m :: ms) (s :: ρ) = iosOf ms ρ := by
        cases m <;> first | exact absurd rfl n1 | rfl
      have ho : oAd (v :: vs) (a :: as) = oAd vs as := by
        cases a <;> cases v <;> first | exact absurd rfl (n2 _ _) | rfl
      rw [he, ho]
      exact ⟨ih.1, fun k a' ds' e1 e2 => lift (ih.2 k a' ds' e1 e2)⟩
/-- no list is handed over where no parameter takes one -/
theorem oAd_none : ∀ {ms : List Mo} {vs : List V} {as : List Ar} {ρ0 : En}, entry ms as = some ρ0 → ms.contains .o = false → oAd vs as = []
  | ms, [], as, _, _, _ => by cases as <;> rfl
  | ms, v :: vs, [], _, _, _ => by cases v <;> rfl
  | [], _ :: _, _ :: _, _, h, _ => by cases h
  | m :: ms, v :: vs, a :: as, ρ0, h, hc => by
    obtain ⟨⟨ρ1, h1⟩, hm'⟩ := entry_tail h
    have hc2 : ms.contains .o = false := by
      rw [List.contains_cons, Bool.or_eq_false_iff] at hc
      exact hc.2
    have ih := oAd_none (vs := vs) h1 hc2
    have hm : m ≠ .o := fun z => by
      rw [z] at hc
      cases hc
    have hn : ∀ (j : Nat) (l : List D), a ≠ .o j l := by
      rcases hm' with ⟨j, l, z, _⟩ | ⟨_, z⟩
      · exact absurd z hm
      · exact z
    have ho : oAd (v :: vs) (a :: as) = oAd vs as := by
      cases a <;> cases v <;> first | exact absurd rfl (hn _ _) | rfl
    rw [ho]
    exact ih
section
variable {P : Program} {w : World} {K : PySem.W.Frag} {mg : Str → Option Value} {base : Heap}
/-- the end -/
theorem end_of {O : Ow} {H : Hp} {vs : List V} {as : List Ar} {fn : Fn} {F : Nat → List Ar → FRes} {Q : VK} {E : XK} {ρ0 : En} (hr : ArL K H O vs as) (hO : ∀ a, O a → H a ≠ none) (lim : Lim H) (ap : ApartA vs as) (he : entry fn.mos as = some ρ0) (hN : fn.mos.length ≤ fn.names.length) (hv : vs.length = fn.mos.length)
    (fp : FPost mg O H (oAd vs as) fn.own Q E (fn.run F as)) :
    PostS (Fc.start K mg O H vs as) (fun cl d _ H => E cl d H) fn.own (L2.start fn.names vs) H (ρ0 ++ List.replicate (fn.names.length - fn.mos.length) .un) { nx := fun _ H' => Q .non H', rt := Q } (evSs F fn.body (ρ0 ++ List.replicate (fn.names.length - fn.mos.length) .un)) := by
  obtain ⟨R0, eP⟩ := Rel.start (mg := mg) (N := fn.names) hr hO lim ap he hN
  obtain ⟨l1, l2, l3⟩ := entry_len he
  have unf : fn.run F as = (match evSs F fn.body (ρ0 ++ List.replicate (fn.names.length - fn.mos.length) .un) with
    | .ok (.rt d) ρ => .ok d (iosOf fn.mos ρ)
    | .ok .nx ρ => if fn.own = true then .bad else .ok .non (iosOf fn.mos ρ)
    | .exc c x _ => if fn.mos.contains .o = true then .bad else .exc c x
    | _ => .bad) := by
    unfold Fn.run
    rw [he] <;> rfl
  rw [unf] at fp
  -- what the frame keeps
  have keep : ∀ {σ' : L2.St} {H' : Hp} {ρ' : En}, Rel (Fc.start K mg O H vs as) σ' H' ρ' → FKeep H H' (oAd vs as) := fun {σ' H' ρ'} R' => ⟨fun b o e n => R'.frm b o e fun p hp z => n (by
    rw [← iP_snd (k := 0)]
    exact List.mem_map.mpr ⟨p, hp, z⟩), R'.evo.dom, R'.lim⟩
  have less : ∀ {σ' : L2.St} {ρ' : En} (b : Addr), O b → Pw (Fc.start K mg O H vs as) σ' ρ' b := fun b z => .inl z
  have io : ∀ {σ' : L2.St} {H' : Hp} {ρ' : En}, Rel (Fc.start K mg O H vs as) σ' H' ρ' → (iosOf fn.mos ρ').length = (oAd vs as).length ∧ ∀ (k : Nat) (a : Addr) (ds : List D), (oAd vs as)[k]? = some a → (iosOf fn.mos ρ')[k]? = some ds → ∃ xs, H' a = some (.lst xs) ∧ DatL H' (Pw (Fc.start K mg O H vs as) σ' ρ') xs ds ∧ OwnAt σ' ρ' a := fun {σ' H' ρ'} R' => by
    obtain ⟨q1, q2⟩ := iosOf_get (ρ := ρ') he (hv.trans l1.symm) (fun i j l e => by
      obtain ⟨v, h1, h2⟩ := hr.get e
      obtain ⟨b, xs, rfl, _⟩ := h2
      have hp : (i, b) ∈ iP 0 vs as := iP_mem.mpr ⟨i, (j, l), (Nat.zero_add i).symm, h1, e⟩
      obtain ⟨_, s, h3, h4⟩ := R'.io _ hp
      exact ⟨b, s, h1, h3, h4⟩)
    refine ⟨q1, fun k a ds e1 e2 => ?_⟩
    obtain ⟨i, h1, ⟨j, l, h2⟩, h3⟩ := q2 k a ds e1 e2
    have hp : (i, a) ∈ iP 0 vs as := iP_mem.mpr ⟨i, (j, l), (Nat.zero_add i).symm, h1, h2⟩
    obtain ⟨h4, _⟩ := R'.io _ hp
    have h4 : σ'[i]? = some (some (.ref a)) := h4
    rcases h3 with h3 | h3
    · obtain ⟨b, xs, z1, z2, z3, _⟩ := R'.slot i _ h3
      rw [h4] at z1
      cases z1
      exact ⟨xs, z2, z3, i, _, h3, rfl, h4⟩
    · obtain ⟨b, xs, z1, z2, z3, _⟩ := R'.slot i _ h3
      rw [h4] at z1
      cases z1
      exact ⟨xs, z2, z3, i, _, h3, rfl, h4⟩
  have fin : ∀ {σ' : L2.St} {H' : Hp} {ρ' : En} {v : V} {d : D}, Rel (Fc.start K mg O H vs as) σ' H' ρ' → RetR fn.own (Fc.start K mg O H vs as) σ' H' ρ' v d → FPost mg O H (oAd vs as) fn.own Q E (.ok d (iosOf fn.mos ρ')) → Q v H' := fun {σ' H' ρ' v d} R' rr fp => by
    refine fp v H' (keep R') ?_ ?_
    · obtain ⟨q1, q2⟩ := io R'
      refine ⟨q1, fun k a ds e1 e2 => ?_⟩
      obtain ⟨xs, h1, h2, ow⟩ := q2 k a ds e1 e2
      refine ⟨xs, h1, ?_⟩
      cases ho : fn.own with
      | false => exact h2.evo (.less fun b z => z.elim (less b) fun z => by cases z.1)
      | true =>
        rw [ho] at rr
        obtain ⟨⟨l, hd⟩, _, fr⟩ := rr
        obtain ⟨c, ys, rfl, w1, w2, w3⟩ := fr l hd
        obtain ⟨_, q2'⟩ := io w2
        obtain ⟨xs', h1', h2', _⟩ := q2' k a ds e1 e2
        have h1'' := del_some h1'
        rw [h1] at h1''
        cases h1''
        exact h2'.on.evo (.less fun b z => z.elim (fun z => .inl (less b z)) fun z => .inr (V.ref.inj z.2).symm)
    · cases ho : fn.own with
      | false =>
        rw [ho] at rr
        exact Dat.evo (.less fun b z => less b z) rr
      | true =>
        rw [ho] at rr
        obtain ⟨⟨l, hd⟩, _, fr⟩ := rr
        obtain ⟨c, ys, rfl, w1, w2, w3⟩ := fr l hd
        exact ⟨c, ys, l, rfl, hd, w2.h0 del_same, w1, w3.on.evo (.less fun b z => z.elim (fun z => .inl (less b z)) .inr)⟩
  cases q : evSs F fn.body (ρ0 ++ List.replicate (fn.names.length - fn.mos.length) .un) with
  | bad => rw [q] at fp; exact fp.elim
  | exc c x ρ' =>
    simp only [q] at fp
    by_cases hc : fn.mos.contains .o = true
    · rw [if_pos hc] at fp; exact fp.elim
    · rw [if_neg hc] at fp
      intro cl d σ' H' R' ev ex
      have k := keep R'
      rw [oAd_none he (by simpa using hc)] at k
      exact fp cl d H' k ex
  | ok f ρ' =>
    cases f with
    | nx =>
      simp only [q] at fp
      cases ho : fn.own with
      | true => rw [ho, if_pos rfl] at fp; exact fp.elim
      | false =>
        rw [if_neg (by rw [ho]; exact fun z => nomatch z)] at fp
        exact fun σ' H' R' ev => fin R' (by rw [ho]; exact .non) fp
    | rt d =>
      simp only [q] at fp
      exact fun σ' H' v R' ev rr => fin R' rr fp
    | bk => simp only [q] at fp; exact fp.elim
    | ct => simp only [q] at fp; exact fp.elim
end
end Sm
end

section
set_option Elab.async false
set_option linter.all false
set_option autoImplicit false
set_option maxRecDepth 100000
/-! Sm23: the table of defs; the law. -/
namespace Sm
open PySem PySem.Spec PyProof.Rows L2
/-- the facts of a def that is called, with no context -/
structure FnAt0 (P : Program) (w : World) (K : PySem.W.Frag) (mg : Str → Option Value) (base : Heap) (n : Nat) (fr : List Ar → FRes) (fn : Fn) : Prop where
  at_ : ∃ (f : Addr) (fd : FuncData) (ps : List Str), mg fn.name = some (.ref f) ∧ PySem.W.keepIn K (.ref f) = true ∧ Binds K fd ps [] ∧
    FnOk P w K mg base (L2.CX P w) n f fd ps (spF K mg fn.mos.length fr fn.own)
  nb : ∀ as, fr as ≠ .bad → as.length = fn.mos.length
def paramsB (p : Arguments) (ns : List Str) : Bool := p.posonlyargs.isEmpty && (p.vararg.isNone && (p.kwonlyargs.isEmpty && (p.kwarg.isNone && decide (p.args.map (·.arg) = ns))))
def scopeB (ns : List Str) (sc : Scope) : Bool := decide (sc.kind = .function) && (!sc.isCoroutine && (!sc.isGenerator && (ns.all (fun x => match sc.names.lookup x with
  | some .local => true
  | some .cell => true
  | _ => false) && sc.names.all fun y => decide (y.2 ≠ .free))))
def chkBody (S : Sg) (own : Bool) (sc : Scope) (b : Sts) (body : List Stmt) : Bool := chkSs S own sc b body
def okD (T : List Fn) (Bn : List Str) (gc lc : Bool) (fn : Fn) (d : He.DefD) : Bool := paramsB d.params (fn.names.take fn.mos.length) && (decide (fn.mos.length ≤ fn.names.length) && (decide fn.names.Nodup && (scopeB (fn.names.take fn.mos.length) d.scope && chkBody ⟨fn.names, T, Bn, gc, lc⟩ fn.own d.scope fn.body d.body)))
/-- the function object of a def -/
def HasFn (K : PySem.W.Frag) (mg : Str → Option Value) (fn : Fn) (d : He.DefD) : Prop := ∃ (f : Addr) (fd : FuncData), mg fn.name = some (.ref f) ∧ FunD K d.name d.qual d.params d.body d.scope [] [] f fd
theorem scope_ok {N : List Str} {n : Nat} {sc : Scope} (h : scopeB (N.take n) sc = true) (hN : N.Nodup) (hn : n ≤ N.length) : FnScope N (N.take n) sc := by
  obtain ⟨h1, h2⟩ := and2 h
  obtain ⟨h3, h4⟩ := and2 h2
  obtain ⟨h5, h6⟩ := and2 h4
  obtain ⟨h7, h8⟩ := and2 h6
  refine ⟨of_decide_eq_true h1, by simpa using h3, by simpa using h5, hN, ?_, fun x hx => ?_, fun y hy => of_decide_eq_true (List.all_eq_true.mp h8 y hy)⟩
  · rw [List.length_take, Nat.min_eq_left hn]
  · have q := List.all_eq_true.mp h7 x hx
    split at q
    · exact .inl (by assumption)
    · exact .inr (by assumption)
    · cases q
theorem binds_ok {K : PySem.W.Frag} {x qual : Str} {params : Arguments} {body : List Stmt} {scope : Scope} {f : Addr} {fd : FuncData} {ns : List Str} (F : FunD K x qual params body scope [] [] f fd) (h : paramsB params ns = true) (hn : ns.Nodup) :
    Binds K fd ns [] ∧ ∀ (s : Shared) (us : List Value), us.length = ns.length → BindsTo s fd ⟨us, []⟩ (ns.zip us) := by
  obtain ⟨po, ar, va, ko, kd, ka, ds⟩ := params
  obtain ⟨h1, h2⟩ := and2 h
  obtain ⟨h3, h4⟩ := and2 h2
  obtain ⟨h5, h6⟩ := and2 h4
  obtain ⟨h7, h8⟩ := and2 h6
  have e1 : po = [] := List.isEmpty_iff.mp h1
  have e2 : va = none := Option.isNone_iff_eq_none.mp h3
  have e3 : ko = [] := List.isEmpty_iff.mp h5
  have e4 : ka = none := Option.isNone_iff_eq_none.mp h7
  subst e1 e2 e3 e4
  have e5 : ar.map (·.arg) = ns := of_decide_eq_true h8
  subst e5
  exact ⟨F.bindsN fun kV doc pm an cdv ct us hl => bind_plain hn hl, fun s us hl => F.bindsA (fun kV doc pm an cdv ct us hl => bind_plain hn hl) s us hl⟩
section
variable {T : List Fn} {Bn : List Str} {gc lc : Bool} {P : Program} {w : World} {K : PySem.W.Frag} {mg : Str → Option Value} {base : Heap}
theorem body_ok {S : Sg} {n : Nat} {F : Nat → List Ar → FRes} {sc : Scope} {X : Cx} {C : Fc} {W : WX} {own : Bool} {b : Sts} {body : List Stmt} (G : Gd S n F sc X C W) (hp : PassesOwn (model X.prog X.w) X.A X.env X.xe) (hf : ∀ x, X.fn x = true) (h : chkBody S own sc b body = true) : SSs X C W own body (evSs F b) := by
  exact chkSs_ok b _ G hp hf h
theorem fn_step {n : Nat} {fn : Fn} {d : He.DefD} {f : Addr} {fd : FuncData} (hBn : ∀ x ∈ Bn, mg x = none) (hgc : gc = true → mg "gcd" = some (.builtin "math.gcd")) (hlc : lc = true → mg "lcm" = some (.builtin "math.lcm"))
    (ih : ∀ (i : Nat) (fn : Fn), T[i]? = some fn → FnAt0 P w K mg base n (evF T n i) fn) (hd : okD T Bn gc lc fn d = true) (F : FunD K d.name d.qual d.params d.body d.scope [] [] f fd) :
    FnOk P w K mg base (L2.CX P w) (n + 1) f fd (fn.names.take fn.mos.length) (spF K mg fn.mos.length (fn.run (evF T n)) fn.own) := by
  obtain ⟨h1, h2⟩ := and2 hd
  obtain ⟨h3, h4⟩ := and2 h2
  obtain ⟨h5, h6⟩ := and2 h4
  obtain ⟨h7, h8⟩ := and2 h6
  have hN := of_decide_eq_true h5
  have hle := of_decide_eq_true h3
  have sk := scope_ok h7 hN hle
  refine F.ok sk (fun vs H Q E h => ?_) fun cdv A outer s H vs Q E hr h => ?_
  · obtain ⟨O, as, hv, _⟩ := h
    rw [List.length_take, Nat.min_eq_left hle]
    exact hv
  · obtain ⟨O, as, hv, ar, hO, lim, ap, fp⟩ := h
    cases he : entry fn.mos as with
    | none =>
      have z : fn.run (evF T n) as = .bad := by unfold Fn.run; rw [he]
      rw [z] at fp
      exact fp.elim
    | some ρ0 =>
      have G : Gd ⟨fn.names, T, Bn, gc, lc⟩ n (evF T n) d.scope (cxOf (L2.CX P w) P w K mg base fn.names d.qual d.scope f cdv A outer s H E) (Fc.start K mg O H vs as) (fun cl d _ H => E cl d H) :=
        ⟨rfl, hN, rfl, sk.kind, rfl, rfl, rfl, takes_of rfl rfl rfl rfl, fun f fn e => ⟨(ih f fn e).at_, (ih f fn e).nb⟩, hr, hBn, hgc, hlc⟩
      obtain ⟨t, t1, t2⟩ := body_ok G (passes_of rfl) (fun _ => rfl) h8
      obtain ⟨R0, _⟩ := Rel.start (mg := mg) (N := fn.names) ar hO lim ap he hle
      exact ⟨t, t1, t2 _ H _ _ R0 (end_of ar hO lim ap he hle hv fp)⟩
theorem ev_run {n i : Nat} {fn : Fn} (hi : T[i]? = some fn) : evF T (n + 1) i = fn.run (evF T n) := by
  funext as
  show (match T[i]? with
    | some fn => fn.run (evF T n) as
    | none => .bad) = _
  rw [hi]
theorem fns_ok (hok : ∀ (i : Nat) (fn : Fn), T[i]? = some fn → ∃ d, okD T Bn gc lc fn d = true ∧ HasFn K mg fn d) (hBn : ∀ x ∈ Bn, mg x = none) (hgc : gc = true → mg "gcd" = some (.builtin "math.gcd")) (hlc : lc = true → mg "lcm" = some (.builtin "math.lcm")) :
    ∀ (n i : Nat) (fn : Fn), T[i]? = some fn → FnAt0 P w K mg base n (evF T n i) fn
  | 0, i, fn, hi => by
    obtain ⟨d, hd, f, fd, hm, F⟩ := hok i fn hi
    obtain ⟨h1, h2⟩ := and2 hd
    obtain ⟨h3, h4⟩ := and2 h2
    obtain ⟨h5, h6⟩ := and2 h4
    have nd : (fn.names.take fn.mos.length).Nodup := (of_decide_eq_true h5).sublist (List.take_sublist _ _)
    refine ⟨⟨f, fd, _, hm, F.kp, (binds_ok F h1 nd).1, ⟨fun vs H Q E h => ?_, fun A outer s H args us vs Q E _ _ _ _ h => ?_⟩⟩, fun as h => absurd rfl h⟩
    · obtain ⟨O, as, _, _, _, _, _, fp⟩ := h
      exact fp.elim
    · obtain ⟨O, as, _, _, _, _, _, fp⟩ := h
      exact fp.elim
  | n + 1, i, fn, hi => by
    have ih := fns_ok hok hBn hgc hlc n
    obtain ⟨d, hd, f, fd, hm, F⟩ := hok i fn hi
    obtain ⟨h1, h2⟩ := and2 hd
    obtain ⟨h3, h4⟩ := and2 h2
    obtain ⟨h5, h6⟩ := and2 h4
    have nd : (fn.names.take fn.mos.length).Nodup := (of_decide_eq_true h5).sublist (List.take_sublist _ _)
    rw [ev_run hi]
    refine ⟨⟨f, fd, _, hm, F.kp, (binds_ok F h1 nd).1, fn_step hBn hgc hlc ih hd F⟩, fun as h => ?_⟩
    cases he : entry fn.mos as with
    | none =>
      have z : fn.run (evF T n) as = .bad := by unfold Fn.run; rw [he]
      exact absurd z h
    | some ρ0 => exact (entry_len he).1
end
/-- the law's def: its promise, out of what the IR computes -/
theorem law_sp {K : PySem.W.Frag} {mg : Str → Option Value} {T : List Fn} {n i m : Nat} (h : ∀ ns : List Int, ns.length ≤ m → ∃ ios, evF T n i [.s (ns.map D.int)] = .ok (.bl true) ios) (hm : m ≤ sizeLine) (H : Hp) (a : Addr) (ns : List Int) (hl : ns.length ≤ m) (hO : L2.Only H) (hS : SqL K H a (ns.map V.int)) :
    spF K mg 1 (evF T n i) false [.ref a] H (fun v _ => v = .bl true) fun _ _ _ => False := by
  have dl : ∀ ns : List Int, DatL H (fun _ => False) (ns.map V.int) (ns.map D.int) := fun ns => by
    induction ns with
    | nil => exact .nil
    | cons x r ih => exact .cons (.int x) ih
  refine ⟨fun _ => False, [.s (ns.map D.int)], rfl, .cons ⟨a, _, rfl, hS, dl ns, by rw [List.length_map]; omega⟩ .nil, fun _ z => z.elim, fun b xs e => ?_, ⟨fun i j b h1 _ => ?_, fun b h1 => ?_, fun _ => rfl⟩, ?_⟩
  · rcases hO b with z | ⟨o, ys, z⟩ <;> (rw [z] at e; rcases e with e | e <;> cases e)
  · simp [oAd] at h1
  · simp [oAd] at h1
  · obtain ⟨ios, e⟩ := h ns hl
    rw [e]
    intro v H' _ _ rs
    have rs : Dat H' (fun _ => False) v (.bl true) := rs
    cases rs
    rfl
/-! ### the head: a Hook that also tells of gcd and lcm -/
def gclB (K : PySem.W.Frag) : List Bool := [decide (PySem.W.nsIn K mainGlobals "gcd" = some (some (.builtin "math.gcd"))), decide (PySem.W.nsIn K mainGlobals "lcm" = some (some (.builtin "math.lcm")))]
abbrev AlX : Type := He.AlD × List Bool
def obsX (n : Nat) (fa : List He.Fa) (fn : List He.DefD) (g : Addr → Option Obj) : AlX := (He.obsD fa fn (He.frG g (He.asD g n)), gclB (He.frG g (He.asD g n)))
def hookX (n : Nat) (fa : List He.Fa) (fn : List He.DefD) (gl : List Bool) : PySem.W.Hook where
  α := AlX
  obs := fun s => obsX n fa fn s.heap.get?
  val := fun _ => (He.valD fn, gl)
  says := fun _ h => ∃ K : PySem.W.Frag, K.In h ∧ He.SaysD fa fn K ∧ gclB K = gl
  of := fun _ _ e => ⟨_, He.frG_in, congrArg Prod.fst e, congrArg Prod.snd e⟩
  keeps := fun _ _ _ ⟨K, hK, c⟩ k => ⟨K, PySem.W.Frag.In.keeps hK k, c⟩
theorem obsX_eq {n : Nat} {fa : List He.Fa} {fn : List He.DefD} {gl : List Bool} {g : Addr → Option Obj} {s : Shared} (h : ∀ a, g a = s.heap.get? a) : obsX n fa fn g = (hookX n fa fn gl).obs s := by
  have e : g = s.heap.get? := funext h
  rw [e] <;> rfl
end Sm
end

section
set_option Elab.async false
set_option linter.all false
set_option autoImplicit false
set_option maxRecDepth 100000
/-! Sm24: the table held against the row's defs. -/
namespace Sm
open PySem PySem.Spec PyProof.Rows L2
def mkFn (b : List Stmt) : List He.DefD := b.flatMap fun s => match s with
  | .FunctionDef n a body _ _ _ sc _ _ _ => [⟨(n, none), n, n, a, body, sc, [], []⟩]
  | _ => []
def mkGs (b : List Stmt) : List Str := b.flatMap fun s => match s with
  | .FunctionDef n _ _ _ _ _ _ _ _ _ => [n]
  | _ => []
def mkLoose (b : List Stmt) : List Str := b.flatMap fun s => match s with
  | .FunctionDef n _ _ _ _ _ _ _ _ _ => if n = "law" then [] else [n]
  | .ClassDef n _ _ _ _ _ _ _ _ _ _ => [n]
  | .ImportFrom _ ns _ _ => ns.map (·.name)
  | _ => []
def findD (dl : List He.DefD) (x : Str) : Option He.DefD := dl.find? fun d => d.name == x
def fnB (T : List Fn) (Bn : List Str) (gc lc : Bool) (dl : List He.DefD) (gs : List Str) (fn : Fn) : Bool := match findD dl fn.name with
  | some d => okD T Bn gc lc fn d && (decide (d.at_ = (fn.name, none)) && (d.dfl.isEmpty && (d.kwd.isEmpty && decide (fn.name ∈ gs))))
  | none => false
def tabB (T : List Fn) (Bn : List Str) (gc lc : Bool) (dl : List He.DefD) (gs : List Str) : Bool := T.all (fnB T Bn gc lc dl gs)
theorem has_all {T : List Fn} {Bn : List Str} {gc lc : Bool} {dl : List He.DefD} {gs : List Str} {K : PySem.W.Frag} {h : Heap} {mg : Str → Option Value} (ht : tabB T Bn gc lc dl gs = true) (X : K.In h) (G : h.Ns mainGlobals mg) (c : He.SaysD (gs.map .glo ++ Bn.map .free) dl K) :
    (∀ (i : Nat) (fn : Fn), T[i]? = some fn → ∃ d, okD T Bn gc lc fn d = true ∧ HasFn K mg fn d) ∧ ∀ x ∈ Bn, mg x = none := by
  refine ⟨fun i fn hi => ?_, fun x hx => ?_⟩
  · have q := List.all_eq_true.mp ht fn (List.mem_of_getElem? hi)
    unfold fnB at q
    cases e : findD dl fn.name with
    | none => rw [e] at q; cases q
    | some d =>
      rw [e] at q
      obtain ⟨h1, h2⟩ := and2 q
      obtain ⟨h3, h4⟩ := and2 h2
      obtain ⟨h5, h6⟩ := and2 h4
      obtain ⟨h7, h8⟩ := and2 h6
      refine ⟨d, h1, ?_⟩
      obtain ⟨j, hj⟩ := List.getElem?_of_mem (List.mem_of_find?_eq_some e)
      obtain ⟨fd, F⟩ := c.def_ j hj
      have e1 := of_decide_eq_true h3
      have e2 : d.dfl = [] := List.isEmpty_iff.mp h5
      have e3 : d.kwd = [] := List.isEmpty_iff.mp h7
      have m : He.Fa.glo fn.name ∈ gs.map He.Fa.glo ++ Bn.map He.Fa.free := List.mem_append_left _ (List.mem_map.mpr ⟨_, of_decide_eq_true h8, rfl⟩)
      obtain ⟨k, hk⟩ := List.getElem?_of_mem m
      unfold He.DefD.dvs He.DefD.kws at F
      rw [e1, e2, e3] at F
      exact ⟨_, fd, He.glo_ok X G (c.fact k hk), F⟩
  · have m : He.Fa.free x ∈ gs.map He.Fa.glo ++ Bn.map He.Fa.free := List.mem_append_right _ (List.mem_map.mpr ⟨_, hx, rfl⟩)
    obtain ⟨k, hk⟩ := List.getElem?_of_mem m
    exact He.free_ok X G (c.fact k hk)
theorem gc_ok {K : PySem.W.Frag} {h : Heap} {mg : Str → Option Value} {gc lc : Bool} (X : K.In h) (G : h.Ns mainGlobals mg) (e : gclB K = [gc, lc]) : (gc = true → mg "gcd" = some (.builtin "math.gcd")) ∧ (lc = true → mg "lcm" = some (.builtin "math.lcm")) := by
  simp only [gclB, List.cons.injEq, and_true] at e
  exact ⟨fun z => PySem.W.mg_of X G (of_decide_eq_true (e.1.trans z)), fun z => PySem.W.mg_of X G (of_decide_eq_true (e.2.trans z))⟩
/-- a law lets nothing out -/
theorem fn_cx0 {P : Program} {w : World} {K : PySem.W.Frag} {mg : Str → Option Value} {base : Heap} {k : Nat} {f : Addr} {fd : FuncData} {ps : List Str} {sp : Sp} (F : FnOk P w K mg base (L2.CX P w) k f fd ps sp) : FnOk P w K mg base CX0 k f fd ps (fun vs H Q _ => sp vs H Q fun _ _ _ => False) :=
  ⟨fun vs H Q E h => F.len _ _ _ _ h, fun A outer s H args us vs Q E hr he hb hv hs => codeAny_mono (F.run A outer s H args us vs Q _ hr he hb hv hs) fun r s' c => by
    cases r with
    | ok fl => cases fl <;> exact c
    | error e =>
      obtain ⟨_, _, _, _, _, _, _, _, _, _, _, _, z⟩ := c
      exact z.elim⟩
/-- what the head wants of a law -/
theorem law_facts {T : List Fn} {Bn : List Str} {gc lc : Bool} {dl : List He.DefD} {gs : List Str} {P : Program} {w : World} {K : PySem.W.Frag} {h : Heap} {mg : Str → Option Value} {n i : Nat} {fn : Fn} {f : Addr}
    (ht : tabB T Bn gc lc dl gs = true) (X : K.In h) (G : h.Ns mainGlobals mg) (c : He.SaysD (gs.map .glo ++ Bn.map .free) dl K) (cg : gclB K = [gc, lc]) (hi : T[i]? = some fn) (hn : fn.names.take fn.mos.length = [("script" : Str)]) (hm : fn.mos.length = 1) (ho : fn.own = false) (hfa : mg fn.name = some (.ref f)) :
    ∃ fd : FuncData, (∀ (s : Shared) (v : Value), BindsTo s fd ⟨[v], []⟩ [(("script" : Str), v)]) ∧ ∀ base : Heap, K.In base → base.Ns mainGlobals mg → FnOk P w K mg base CX0 (n + 1) f fd [("script" : Str)] (fun vs H Q _ => spF K mg 1 (evF T (n + 1) i) false vs H Q fun _ _ _ => False) := by
  obtain ⟨h1, h2⟩ := has_all ht X G c
  obtain ⟨g1, g2⟩ := gc_ok X G cg
  obtain ⟨d, hd, f', fd, hm', F⟩ := h1 i fn hi
  rw [hfa] at hm'
  cases hm'
  obtain ⟨p1, p2⟩ := and2 hd
  have p1' := p1
  rw [hn] at p1'
  have nd : ([("script" : Str)] : List Str).Nodup := by simp
  refine ⟨fd, fun s v => (binds_ok F p1' nd).2 s [v] rfl, fun base _ _ => ?_⟩
  have z := fn_step (P := P) (w := w) (base := base) h2 g1 g2 (fns_ok h1 h2 g1 g2 n) hd F
  rw [hn, hm, ho, ← ev_run hi] at z
  exact fn_cx0 z
end Sm
end

section
set_option linter.all false
set_option autoImplicit false
set_option maxRecDepth 100000
/-! Pl1: what every law does with its script, by values. -/
namespace Sm
open PySem
/-- an argument that is looked at -/
def ArB (a : Ar) (x : D) : Prop := a = .d x ∨ ∃ k, a = .b k x
theorem entry_b {ms : List Mo} {a : Ar} {as : List Ar} {x : D} (h : ArB a x) : entry (.b :: ms) (a :: as) = (entry ms as).map (.bor x :: ·) := by
  rcases h with rfl | ⟨k, rfl⟩ <;> rfl
def F_draw : Fn := { name := "_law_draw", names := ["row", "at", "limit", "mixed"], mos := [.b, .d, .d], own := false, body :=
  (.cons (.ite (.cmp .lt (.var 1) (.cal .len (.cons (.bor 0) .nil))) (.cons (.ret (.bin .mod (.cal .int_ (.cons (.idx (.bor 0) (.var 1)) .nil)) (.var 2))) .nil) .nil) (.cons (.set 3 (.bin .mod (.cal .int_ (.cons (.bin .add (.bin .add (.bin .mul (.idx (.bor 0) (.bin .mod (.cal .int_ (.cons (.var 1) .nil)) (.cal .len (.cons (.bor 0) .nil)))) (.int 40692)) (.bin .mul (.var 1) (.int 7919))) (.int 3)) .nil)) (.int 2147483399))) (.cons (.ret (.bin .mod (.cal .int_ (.cons (.bin .mod (.cal .int_ (.cons (.bin .add (.bin .mul (.var 3) (.int 48271)) (.var 1)) .nil)) (.int 2147483647)) .nil)) (.var 2))) .nil))) }
theorem run_eq {T : List Fn} {n i : Nat} {fn : Fn} {as : List Ar} {ρ : En} (hi : T[i]? = some fn) (he : entry fn.mos as = some ρ) : evF T (n + 1) i as = (match evSs (evF T n) fn.body (ρ ++ List.replicate (fn.names.length - fn.mos.length) .un) with
    | .ok (.rt d) ρ => .ok d (iosOf fn.mos ρ)
    | .ok .nx ρ => if fn.own = true then .bad else .ok .non (iosOf fn.mos ρ)
    | .exc c x _ => if fn.mos.contains .o = true then .bad else .exc c x
    | _ => .bad) := by
  show (match T[i]? with
    | some fn => fn.run (evF T n) as
    | none => .bad) = _
  rw [hi]
  show fn.run (evF T n) as = _
  unfold Fn.run
  rw [he] <;> rfl
theorem mulB_small {a b : Int} (h : Builtin.Int.intBits b ≤ 64) : mulB a b = true := by
  unfold mulB
  have : decide (Builtin.Int.intBits b > shortFactorBits) = false := by
    rw [decide_eq_false_iff_not]
    unfold shortFactorBits
    omega
  rw [this]
  simp
theorem atI_in {ds : List D} {i : Int} (h0 : 0 ≤ i) (h1 : i < ds.length) : L2.atI ds i = ds[i.toNat]? := by
  unfold L2.atI L2.ixN
  rw [if_pos h0, if_pos h1]
  rfl
theorem idx_row {row : List Int} {i : Int} (h0 : 0 ≤ i) (h1 : i < row.length) : ∃ v, row[i.toNat]? = some v ∧ D.idx (.lst (row.map D.int)) (.int i) = some (.int v) := by
  have hl : i.toNat < row.length := by omega
  refine ⟨row[i.toNat], List.getElem?_eq_getElem hl, ?_⟩
  show L2.atI (row.map D.int) i = _
  rw [atI_in h0 (by rw [List.length_map]; exact h1), List.getElem?_map, List.getElem?_eq_getElem hl]
  rfl
theorem bits_small {b : Int} (h : b.natAbs < 2 ^ 64) : Builtin.Int.intBits b ≤ 64 := by
  unfold Builtin.Int.intBits
  split
  · omega
  · rename_i hb
    have hb : b ≠ 0 := by simpa using hb
    have : b.natAbs.log2 < 64 := (Nat.log2_lt (by omega)).mpr h
    omega
theorem mul_small {a b : Int} (h : b.natAbs < 2 ^ 64) : D.mul (.int a) (.int b) = some (.int (a * b)) := by
  show (if mulB a b = true then some (D.int (a * b)) else none) = _
  rw [if_pos (mulB_small (bits_small h))]
theorem mod_pos {a b : Int} (h : 0 < b) : D.mod (.int a) (.int b) = some (.int (a.fmod b)) := by
  show (if b ≠ 0 then some (D.int (a.fmod b)) else none) = _
  rw [if_pos (by omega)]
theorem fmod_lt {a b : Int} (h : 0 < b) : 0 ≤ a.fmod b ∧ a.fmod b < b := ⟨Int.fmod_nonneg_of_pos a h, Int.fmod_lt_of_pos a h⟩
theorem draw_ok {T : List Fn} {n i : Nat} (hi : T[i]? = some F_draw) {row : List Int} (hne : row ≠ []) (at_ lim : Int) (h0 : 0 ≤ at_) (hl : 0 < lim) {a : Ar} (ha : ArB a (.lst (row.map D.int))) :
    ∃ d, 0 ≤ d ∧ d < lim ∧ evF T (n + 1) i [a, .d (.int at_), .d (.int lim)] = .ok (.int d) [] := by
  have he : entry F_draw.mos [a, .d (.int at_), .d (.int lim)] = some [.bor (.lst (row.map D.int)), .dat (.int at_), .dat (.int lim)] := by
    rw [show F_draw.mos = [.b, .d, .d] from rfl, entry_b ha]
    rfl
  have hpos : 0 < (row.length : Int) := by
    have := List.length_pos_iff.mpr hne
    omega
  rw [run_eq hi he]
  by_cases hc : at_ < row.length
  · obtain ⟨v, _, hv⟩ := idx_row h0 hc
    have hc' : decide (at_ < ((row.map D.int).length : Int)) = true := by rw [List.length_map]; exact decide_eq_true hc
    refine ⟨v.fmod lim, (fmod_lt hl).1, (fmod_lt hl).2, ?_⟩
    simp only [F_draw, List.length_cons, List.length_nil, List.replicate, List.cons_append, List.nil_append, evSs, evS, evE, evEs, evHof, Res.bind, rdB, rdE, Hd.look, opt, Sl.see, List.getElem?_cons_zero, List.getElem?_cons_succ, Bi.ev, Cop.ev, D.ltI, Bop.ev, truthM, D.truth, hc', hv, mod_pos hl, iosOf]
  · have hc' : decide (at_ < ((row.map D.int).length : Int)) = false := by rw [List.length_map]; exact decide_eq_false hc
    obtain ⟨v, _, hv⟩ := idx_row (row := row) (i := at_.fmod row.length) (fmod_lt hpos).1 (fmod_lt hpos).2
    have hm : D.mod (.int at_) (.int ((row.map D.int).length : Int)) = some (.int (at_.fmod row.length)) := by rw [List.length_map]; exact mod_pos hpos
    refine ⟨((((((v * 40692 + at_ * 7919) + 3).fmod 2147483399) * 48271 + at_).fmod 2147483647)).fmod lim, (fmod_lt hl).1, (fmod_lt hl).2, ?_⟩
    simp only [F_draw, List.length_cons, List.length_nil, List.replicate, List.cons_append, List.nil_append, evSs, evS, evE, evEs, evHof, Res.bind, rdB, rdE, Hd.look, opt, Sl.see, List.getElem?_cons_zero, List.getElem?_cons_succ, Bi.ev, Cop.ev, D.ltI, Bop.ev, truthM, D.truth, hc', hm, hv, mod_pos hl, iosOf, mul_small (show (40692 : Int).natAbs < 2 ^ 64 by decide), mul_small (show (7919 : Int).natAbs < 2 ^ 64 by decide), mul_small (show (48271 : Int).natAbs < 2 ^ 64 by decide), D.add, mod_pos (show (0 : Int) < 2147483399 by decide), mod_pos (show (0 : Int) < 2147483647 by decide), nx, put, List.set, List.replicate]
theorem bind_assoc9 {α β γ : Type} (r : Res α) (f : α → En → Res β) (g : β → En → Res γ) : (r.bind f).bind g = r.bind fun a ρ => (f a ρ).bind g := by cases r <;> rfl
/-- a for that goes on or breaks -/
theorem for_nat {tg : Tg} {body : En → Res Fl} (I : Nat → En → Prop) : ∀ {xs : List D} {k : Nat} {ρ : En}, I k ρ → (∀ x ∈ xs, ∀ j ρ, j < k + xs.length → I j ρ → ∃ f ρ', ((tg.put x ρ).bind fun _ ρ => body ρ) = .ok f ρ' ∧ (f = .nx ∨ f = .ct ∨ f = .bk) ∧ I (j + 1) ρ') →
    ∃ k' ρ', forLoop tg body xs ρ = .ok .nx ρ' ∧ k' ≤ k + xs.length ∧ I k' ρ'
  | [], k, ρ, h, _ => ⟨k, ρ, rfl, Nat.le_refl _, h⟩
  | x :: xs, k, ρ, h, st => by
    obtain ⟨f, ρ1, e, hf, h1⟩ := st x List.mem_cons_self k ρ (by rw [List.length_cons]; omega) h
    have e2 : forLoop tg body (x :: xs) ρ = ((tg.put x ρ).bind fun _ ρ => body ρ).bind fun f ρ => match f with
      | .nx => forLoop tg body xs ρ
      | .ct => forLoop tg body xs ρ
      | .bk => .ok .nx ρ
      | .rt d => .ok (.rt d) ρ := by
      rw [bind_assoc9]
      rfl
    have rest : ∀ y ∈ xs, ∀ j ρ, j < k + 1 + xs.length → I j ρ → ∃ f ρ', ((tg.put y ρ).bind fun _ ρ => body ρ) = .ok f ρ' ∧ (f = .nx ∨ f = .ct ∨ f = .bk) ∧ I (j + 1) ρ' := fun y hy j ρ hj => st y (List.mem_cons_of_mem _ hy) j ρ (by rw [List.length_cons]; omega)
    rw [e2, e]
    rcases hf with rfl | rfl | rfl
    · obtain ⟨k', ρ', q1, q2, q3⟩ := for_nat I h1 rest
      exact ⟨k', ρ', q1, by rw [List.length_cons]; omega, q3⟩
    · obtain ⟨k', ρ', q1, q2, q3⟩ := for_nat I h1 rest
      exact ⟨k', ρ', q1, by rw [List.length_cons]; omega, q3⟩
    · exact ⟨k + 1, ρ1, rfl, by rw [List.length_cons]; omega, h1⟩
def F_take (j : Nat) : Fn := { name := "_law_take", names := ["row", "spot", "limit"], mos := [.b, .o, .d], own := false, body :=
  (.cons (.sto 1 (.int 0) (.bin .add (.idx (.bor 1) (.int 0)) (.int 1))) (.cons (.ret (.call j (.cons (.bor 0) (.cons (.bin .sub (.idx (.bor 1) (.int 0)) (.int 1)) (.cons (.var 2) .nil))))) .nil)) }
theorem take_ok {T : List Fn} {n i j : Nat} (hi : T[i]? = some (F_take j)) (hj : T[j]? = some F_draw) {row : List Int} (hne : row ≠ []) (s lim : Int) (h0 : 0 ≤ s) (hl : 0 < lim) {a : Ar} (ha : ArB a (.lst (row.map D.int))) (k : Nat) :
    ∃ d, 0 ≤ d ∧ d < lim ∧ evF T (n + 2) i [a, .o k [.int s], .d (.int lim)] = .ok (.int d) [[.int (s + 1)]] := by
  have he : entry (F_take j).mos [a, .o k [.int s], .d (.int lim)] = some [.bor (.lst (row.map D.int)), .io [.int s], .dat (.int lim)] := by
    rw [show (F_take j).mos = [.b, .o, .d] from rfl, entry_b ha]
    rfl
  obtain ⟨d, d0, d1, hd⟩ := draw_ok (n := n) hj hne s lim h0 hl (a := .b 0 (.lst (row.map D.int))) (.inr ⟨0, rfl⟩)
  refine ⟨d, d0, d1, ?_⟩
  rw [run_eq hi he]
  have e1 : D.idx (.lst [.int s]) (.int 0) = some (.int s) := rfl
  have e2 : D.idx (.lst [.int (s + 1)]) (.int 0) = some (.int (s + 1)) := rfl
  have e3 : L2.ixN 1 0 = some 0 := rfl
  have e4 : s + 1 - 1 = s := by omega
  have e5 : apart [Ar.b 0 (.lst (row.map D.int)), .d (.int s), .d (.int lim)] = true := rfl
  simp only [F_take, List.length_cons, List.length_nil, List.replicate, List.cons_append, List.nil_append, List.append_nil, evSs, evS, evE, evEs, evAs, evHof, Res.bind, rdB, rdE, rdO, Hd.look, opt, Sl.see, List.getElem?_cons_zero, List.getElem?_cons_succ, Bop.ev, D.add, D.sub, e1, e2, stoD, e3, chg, List.set, nx, e4, fillA, callM, e5, hd, ioBack, iosOf, if_true]
def F_numbers : Fn := { name := "_law_numbers", names := ["script", "row", "cell", "left", "k", "mixed"], mos := [.s], own := false, body :=
  (.cons (.setO 1 (.lst .nil)) (.cons (.for_ (.nm 2) (.seq (.slcS 0 .non (.int 63))) (.cons (.ite (.cmp .ge (.var 2) (.bin .pow (.int 10) (.int 18))) (.cons (.set 3 (.var 2)) (.cons (.for_ (.nm 4) (.rng1 (.int 60)) (.cons (.ite (.cmp .eq (.var 3) (.int 0)) (.cons .brk .nil) .nil) (.cons (.app 1 (.bin .mod (.cal .int_ (.cons (.var 3) .nil)) (.int 997))) (.cons (.set 3 (.bin .fdiv (.var 3) (.int 997))) .nil)))) .nil)) (.cons (.for_ (.nm 4) (.rng1 (.int 4)) (.cons (.set 5 (.bin .mod (.cal .int_ (.cons (.bin .add (.bin .add (.bin .mul (.var 2) (.int 48271)) (.bin .mul (.var 4) (.int 69621))) (.int 11)) .nil)) (.int 2147483647))) (.cons (.app 1 (.bin .mod (.cal .int_ (.cons (.bin .add (.bin .mul (.var 5) (.int 16807)) (.var 4)) .nil)) (.int 2147483629))) .nil))) .nil)) .nil)) (.cons (.ite (.cmp .eq (.cal .len (.cons (.bor 1) .nil)) (.int 0)) (.cons (.app 1 (.int 0)) .nil) .nil) (.cons (.frz 1) (.cons (.ret (.var 1)) .nil))))) }
theorem fdiv_997 {a : Int} : D.fdiv (.int a) (.int 997) = some (.int (a.fdiv 997)) := by
  have e : Builtin.divisionGoesByPylong a 997 = false := by
    unfold Builtin.divisionGoesByPylong
    have : decide ((if ((997 : Int) == 0) = true then 0 else (997 : Int).natAbs.log2 / 30 + 1) > 300) = false := by decide
    simp only [this, Bool.false_and]
  show (if (997 : Int) ≠ 0 ∧ Builtin.divisionGoesByPylong a 997 = false then some (D.int (a.fdiv 997)) else none) = _
  rw [if_pos ⟨by decide, e⟩]
/-- the slots of _law_numbers on its way -/
def NumI (ns : List Int) (m : Nat) (ρ : En) : Prop := ∃ (l : List Int) (s2 s3 s4 s5 : Sl), ρ = [.scr (ns.map D.int), .own (l.map D.int), s2, s3, s4, s5] ∧ l.length ≤ m ∧ (∀ s ∈ [s2, s3, s4, s5], s = .un ∨ ∃ d, s = .dat d)
theorem put_un {i : Nat} {ρ : En} {s t : Sl} (e : ρ[i]? = some t) (h : t = .un ∨ ∃ d, t = .dat d) : put i s ρ = .ok () (ρ.set i s) := by
  unfold put
  rcases h with rfl | ⟨d, rfl⟩ <;> rw [e]
theorem cut_63 {ds : List D} : (cutD ds none (some 63)).length ≤ 63 ∧ ∀ x ∈ cutD ds none (some 63), x ∈ ds := by
  unfold cutD
  refine ⟨?_, fun x h => List.mem_of_mem_drop (List.mem_of_mem_take h)⟩
  rw [List.length_take]
  have : HT.sIx ds.length ds.length (some 63) ≤ 63 := by
    show (if (63 : Int) < 0 then ((63 : Int) + (ds.length : Int)).toNat else min (63 : Int).toNat ds.length) ≤ 63
    rw [if_neg (by decide)]
    exact Nat.min_le_left _ _
  omega
def b_old : Sts := (.cons (.ite (.cmp .eq (.var 3) (.int 0)) (.cons .brk .nil) .nil) (.cons (.app 1 (.bin .mod (.cal .int_ (.cons (.var 3) .nil)) (.int 997))) (.cons (.set 3 (.bin .fdiv (.var 3) (.int 997))) .nil)))
def b_new : Sts := (.cons (.set 5 (.bin .mod (.cal .int_ (.cons (.bin .add (.bin .add (.bin .mul (.var 2) (.int 48271)) (.bin .mul (.var 4) (.int 69621))) (.int 11)) .nil)) (.int 2147483647))) (.cons (.app 1 (.bin .mod (.cal .int_ (.cons (.bin .add (.bin .mul (.var 5) (.int 16807)) (.var 4)) .nil)) (.int 2147483629))) .nil))
theorem rng1_mem {n : Nat} {x : D} (h : x ∈ rangeD 0 1 n) : ∃ k : Nat, x = .int k ∧ k < n := by
  unfold rangeD at h
  obtain ⟨k, hk, e⟩ := List.mem_map.mp h
  exact ⟨k, by rw [← e, Int.mul_one, Int.zero_add], List.mem_range.mp hk⟩
theorem eqv_int {a b : Int} : D.eqv (.int a) (.int b) = some (a == b) := rfl
theorem range_len {lo c : Int} {n : Nat} : (rangeD lo c n).length = n := by unfold rangeD; rw [List.length_map, List.length_range]
theorem map_app {l : List Int} {x : Int} : l.map D.int ++ [D.int x] = (l ++ [x]).map D.int := by rw [List.map_append]; rfl
theorem old_ok {F : Nat → List Ar → FRes} {S : Sl} {c : Int} {s5 : Sl} (m : Nat) (hm : m + 60 < sizeLine) {l : List Int} (hl : l.length ≤ m) {left : Int} {s4 : Sl} (h4 : s4 = .un ∨ ∃ d, s4 = .dat d) :
    ∃ (l' : List Int) (left' : Int) (s4' : Sl), forLoop (.nm 4) (evSs F b_old) (rangeD 0 1 60) [S, .own (l.map D.int), .dat (.int c), .dat (.int left), s4, s5] = .ok .nx [S, .own (l'.map D.int), .dat (.int c), .dat (.int left'), s4', s5] ∧ l'.length ≤ m + 60 ∧ (s4' = .un ∨ ∃ d, s4' = .dat d) := by
  let I : Nat → En → Prop := fun k ρ => ∃ (l : List Int) (left : Int) (s4 : Sl), ρ = [S, .own (l.map D.int), .dat (.int c), .dat (.int left), s4, s5] ∧ l.length ≤ m + k ∧ (s4 = .un ∨ ∃ d, s4 = .dat d)
  have st : ∀ x ∈ rangeD 0 1 60, ∀ j ρ, j < 0 + (rangeD 0 1 60).length → I j ρ → ∃ f ρ', ((Tg.put (.nm 4) x ρ).bind fun _ ρ => evSs F b_old ρ) = .ok f ρ' ∧ (f = .nx ∨ f = .ct ∨ f = .bk) ∧ I (j + 1) ρ' := by
    rintro x hx k ρ hk ⟨l, left, s4, rfl, h1, h2⟩
    rw [range_len] at hk
    obtain ⟨j, rfl, hj⟩ := rng1_mem hx
    have hp : Tg.put (.nm 4) (.int (j : Int)) [S, .own (l.map D.int), .dat (.int c), .dat (.int left), s4, s5] = .ok () [S, .own (l.map D.int), .dat (.int c), .dat (.int left), .dat (.int j), s5] := put_un rfl h2
    rw [hp]
    by_cases h0 : left = 0
    · subst h0
      refine ⟨.bk, [S, .own (l.map D.int), .dat (.int c), .dat (.int 0), .dat (.int j), s5], ?_, .inr (.inr rfl), l, 0, _, rfl, by omega, .inr ⟨_, rfl⟩⟩
      simp only [b_old, Res.bind, evSs, evS, evE, evHof, rdE, opt, Hd.look, List.getElem?_cons_zero, List.getElem?_cons_succ, Cop.ev, eqv_int, Option.map_some, truthM, D.truth, beq_self_eq_true]
    · have hb : (left == 0) = false := by simpa using h0
      have hz : l.length < sizeLine := by omega
      refine ⟨.nx, [S, .own ((l ++ [left.fmod 997]).map D.int), .dat (.int c), .dat (.int (left.fdiv 997)), .dat (.int j), s5], ?_, .inl rfl, _, _, _, rfl, by rw [List.length_append, List.length_singleton]; omega, .inr ⟨_, rfl⟩⟩
      simp only [b_old, Res.bind, evSs, evS, evE, evEs, evHof, rdE, rdO, opt, Hd.look, List.getElem?_cons_zero, List.getElem?_cons_succ, Cop.ev, eqv_int, Option.map_some, truthM, D.truth, hb, Bi.ev, Bop.ev, mod_pos (show (0 : Int) < 997 by decide), fdiv_997, List.length_map, if_pos hz, chg, nx, put, List.set, map_app]
  obtain ⟨k', ρ', e, hk, l', left', s4', rfl, h1, h2⟩ := for_nat I (xs := rangeD 0 1 60) (k := 0) ⟨l, left, s4, rfl, hl, h4⟩ st
  rw [range_len] at hk
  exact ⟨l', left', s4', e, by omega, h2⟩
theorem new_ok {F : Nat → List Ar → FRes} {S : Sl} {c : Int} {s3 : Sl} (m : Nat) (hm : m + 60 < sizeLine) {l : List Int} (hl : l.length ≤ m) {s4 s5 : Sl} (h4 : s4 = .un ∨ ∃ d, s4 = .dat d) (h5 : s5 = .un ∨ ∃ d, s5 = .dat d) :
    ∃ (l' : List Int) (s4' s5' : Sl), forLoop (.nm 4) (evSs F b_new) (rangeD 0 1 4) [S, .own (l.map D.int), .dat (.int c), s3, s4, s5] = .ok .nx [S, .own (l'.map D.int), .dat (.int c), s3, s4', s5'] ∧ l'.length ≤ m + 60 ∧ (s4' = .un ∨ ∃ d, s4' = .dat d) ∧ (s5' = .un ∨ ∃ d, s5' = .dat d) := by
  let I : Nat → En → Prop := fun k ρ => ∃ (l : List Int) (s4 s5 : Sl), ρ = [S, .own (l.map D.int), .dat (.int c), s3, s4, s5] ∧ l.length ≤ m + k ∧ (s4 = .un ∨ ∃ d, s4 = .dat d) ∧ (s5 = .un ∨ ∃ d, s5 = .dat d)
  have st : ∀ x ∈ rangeD 0 1 4, ∀ j ρ, j < 0 + (rangeD 0 1 4).length → I j ρ → ∃ f ρ', ((Tg.put (.nm 4) x ρ).bind fun _ ρ => evSs F b_new ρ) = .ok f ρ' ∧ (f = .nx ∨ f = .ct ∨ f = .bk) ∧ I (j + 1) ρ' := by
    rintro x hx k ρ hk ⟨l, s4, s5, rfl, h1, h2, h3⟩
    rw [range_len] at hk
    obtain ⟨j, rfl, hj⟩ := rng1_mem hx
    have hp : Tg.put (.nm 4) (.int (j : Int)) [S, .own (l.map D.int), .dat (.int c), s3, s4, s5] = .ok () [S, .own (l.map D.int), .dat (.int c), s3, .dat (.int j), s5] := put_un rfl h2
    rw [hp]
    have hz : l.length < sizeLine := by omega
    have h5 : ∀ (y : D), put 5 (.dat y) [S, .own (l.map D.int), .dat (.int c), s3, .dat (.int j), s5] = .ok () [S, .own (l.map D.int), .dat (.int c), s3, .dat (.int j), .dat y] := fun y => put_un rfl h3
    refine ⟨.nx, [S, .own ((l ++ [((((c * 48271 + (j : Int) * 69621) + 11).fmod 2147483647) * 16807 + (j : Int)).fmod 2147483629]).map D.int), .dat (.int c), s3, .dat (.int j), .dat (.int (((c * 48271 + (j : Int) * 69621) + 11).fmod 2147483647))], ?_, .inl rfl, _, _, _, rfl, by rw [List.length_append, List.length_singleton]; omega, .inr ⟨_, rfl⟩, .inr ⟨_, rfl⟩⟩
    simp only [b_new, Res.bind, evSs, evS, evE, evEs, evHof, rdE, rdO, opt, Hd.look, List.getElem?_cons_zero, List.getElem?_cons_succ, Bi.ev, Bop.ev, mul_small (show (48271 : Int).natAbs < 2 ^ 64 by decide), mul_small (show (69621 : Int).natAbs < 2 ^ 64 by decide), mul_small (show (16807 : Int).natAbs < 2 ^ 64 by decide), D.add, mod_pos (show (0 : Int) < 2147483647 by decide), mod_pos (show (0 : Int) < 2147483629 by decide), h5, List.length_map, if_pos hz, chg, nx, List.set, map_app]
  obtain ⟨k', ρ', e, hk, l', s4', s5', rfl, h1, h2, h3⟩ := for_nat I (xs := rangeD 0 1 4) (k := 0) ⟨l, s4, s5, rfl, hl, h4, h5⟩ st
  rw [range_len] at hk
  exact ⟨l', s4', s5', e, by omega, h2, h3⟩
def b_cell : Sts := (.cons (.ite (.cmp .ge (.var 2) (.bin .pow (.int 10) (.int 18))) (.cons (.set 3 (.var 2)) (.cons (.for_ (.nm 4) (.rng1 (.int 60)) b_old) .nil)) (.cons (.for_ (.nm 4) (.rng1 (.int 4)) b_new) .nil)) .nil)
theorem rng1_60 : rng1D (.int 60) = some (rangeD 0 1 60) := by
  show (if smallI 60 = true then some (rangeD 0 1 (60 : Int).toNat) else none) = _
  rw [if_pos (by decide)]
  rfl
theorem rng1_4 : rng1D (.int 4) = some (rangeD 0 1 4) := by
  show (if smallI 4 = true then some (rangeD 0 1 (4 : Int).toNat) else none) = _
  rw [if_pos (by decide)]
  rfl
theorem pow_18 : D.pow (.int 10) (.int 18) = some (.int 1000000000000000000) := by
  show (if (0 : Int) ≤ 18 ∧ (18 : Int) ≤ 1000000 ∧ (10 : Int).natAbs < 2 ^ 64 then some (D.int (10 ^ (18 : Int).toNat)) else none) = _
  rw [if_pos (by decide)]
  rfl
theorem cells_ok {F : Nat → List Ar → FRes} {S : Sl} {xs : List D} (hx : ∀ x ∈ xs, ∃ c : Int, x = .int c) (hn : xs.length ≤ 63) :
    ∃ (l : List Int) (s2 s3 s4 s5 : Sl), forLoop (.nm 2) (evSs F b_cell) xs [S, .own [], .un, .un, .un, .un] = .ok .nx [S, .own (l.map D.int), s2, s3, s4, s5] ∧ l.length ≤ 3780 := by
  let I : Nat → En → Prop := fun k ρ => ∃ (l : List Int) (s2 s3 s4 s5 : Sl), ρ = [S, .own (l.map D.int), s2, s3, s4, s5] ∧ l.length ≤ 60 * k ∧ (s2 = .un ∨ ∃ d, s2 = .dat d) ∧ (s3 = .un ∨ ∃ d, s3 = .dat d) ∧ (s4 = .un ∨ ∃ d, s4 = .dat d) ∧ (s5 = .un ∨ ∃ d, s5 = .dat d)
  have st : ∀ x ∈ xs, ∀ j ρ, j < 0 + xs.length → I j ρ → ∃ f ρ', ((Tg.put (.nm 2) x ρ).bind fun _ ρ => evSs F b_cell ρ) = .ok f ρ' ∧ (f = .nx ∨ f = .ct ∨ f = .bk) ∧ I (j + 1) ρ' := by
    rintro x hxm k ρ hk ⟨l, s2, s3, s4, s5, rfl, h1, h2, h3, h4, h5⟩
    obtain ⟨c, rfl⟩ := hx x hxm
    have hm : 60 * k + 60 < sizeLine := by
      have : (4000 : Nat) < sizeLine := by decide
      omega
    have hp : Tg.put (.nm 2) (.int c) [S, .own (l.map D.int), s2, s3, s4, s5] = .ok () [S, .own (l.map D.int), .dat (.int c), s3, s4, s5] := put_un rfl h2
    rw [hp]
    by_cases hc : (1000000000000000000 : Int) ≤ c
    · have hp3 : put 3 (.dat (.int c)) [S, .own (l.map D.int), .dat (.int c), s3, s4, s5] = .ok () [S, .own (l.map D.int), .dat (.int c), .dat (.int c), s4, s5] := put_un rfl h3
      obtain ⟨l', left', s4', e, q1, q2⟩ := old_ok (F := F) (S := S) (c := c) (s5 := s5) (60 * k) hm h1 (left := c) h4
      refine ⟨.nx, [S, .own (l'.map D.int), .dat (.int c), .dat (.int left'), s4', s5], ?_, .inl rfl, l', _, _, _, _, rfl, by omega, .inr ⟨_, rfl⟩, .inr ⟨_, rfl⟩, q2, h5⟩
      simp only [b_cell, Res.bind, evSs, evS, evE, evHof, rdE, opt, Hd.look, List.getElem?_cons_zero, List.getElem?_cons_succ, Cop.ev, D.ltI, Bop.ev, pow_18, truthM, D.truth, decide_eq_true hc, nx, hp3, evIt, rng1_60, It.locks, lockE, e, unlockE]
    · obtain ⟨l', s4', s5', e, q1, q2, q3⟩ := new_ok (F := F) (S := S) (c := c) (s3 := s3) (60 * k) hm h1 h4 h5
      refine ⟨.nx, [S, .own (l'.map D.int), .dat (.int c), s3, s4', s5'], ?_, .inl rfl, l', _, _, _, _, rfl, by omega, .inr ⟨_, rfl⟩, h3, q2, q3⟩
      simp only [b_cell, Res.bind, evSs, evS, evE, evHof, rdE, opt, Hd.look, List.getElem?_cons_zero, List.getElem?_cons_succ, Cop.ev, D.ltI, Bop.ev, pow_18, truthM, D.truth, decide_eq_false hc, evIt, rng1_4, It.locks, lockE, e, unlockE]
  obtain ⟨k', ρ', e, hk, l, s2, s3, s4, s5, rfl, h1, _⟩ := for_nat I (xs := xs) (k := 0) ⟨[], .un, .un, .un, .un, rfl, Nat.zero_le _, .inl rfl, .inl rfl, .inl rfl, .inl rfl⟩ st
  exact ⟨l, s2, s3, s4, s5, e, by omega⟩
theorem numbers_ok {T : List Fn} {n i : Nat} (hi : T[i]? = some F_numbers) (ns : List Int) : ∃ row : List Int, row ≠ [] ∧ row.length ≤ 3781 ∧ evF T (n + 1) i [.s (ns.map D.int)] = .ok (.lst (row.map D.int)) [] := by
  have he : entry F_numbers.mos [.s (ns.map D.int)] = some [.scr (ns.map D.int)] := rfl
  obtain ⟨c1, c2⟩ := cut_63 (ds := ns.map D.int)
  obtain ⟨l, s2, s3, s4, s5, e, hl⟩ := cells_ok (F := evF T n) (S := .scr (ns.map D.int)) (xs := cutD (ns.map D.int) none (some 63)) (fun x h => by
    obtain ⟨c, _, rfl⟩ := List.mem_map.mp (c2 x h)
    exact ⟨c, rfl⟩) c1
  have hb : F_numbers.body = .cons (.setO 1 (.lst .nil)) (.cons (.for_ (.nm 2) (.seq (.slcS 0 .non (.int 63))) b_cell) (.cons (.ite (.cmp .eq (.cal .len (.cons (.bor 1) .nil)) (.int 0)) (.cons (.app 1 (.int 0)) .nil) .nil) (.cons (.frz 1) (.cons (.ret (.var 1)) .nil)))) := rfl
  have hs : D.slc (.lst (ns.map D.int)) none (some 63) = some (.lst (cutD (ns.map D.int) none (some 63))) := rfl
  rw [run_eq hi he, hb]
  have h01 : (0 : Nat) ≤ sizeLine := Nat.zero_le _
  have h02 : (0 : Nat) < sizeLine := by decide
  cases l with
  | nil =>
    refine ⟨[0], by simp, by simp, ?_⟩
    simp only [F_numbers, List.length_cons, List.length_nil, List.replicate, List.cons_append, List.nil_append, evSs, evS, evE, evEs, evHof, evPof, Res.bind, if_pos h01, opt, asListO, nx, put, List.getElem?_cons_zero, List.getElem?_cons_succ, List.set, evIt, rdS, intP, hs, Hd.look, D.items, It.locks, Ex.lock, lockE, e, unlockE, rdB, Sl.see, Bi.ev, List.map_nil, Cop.ev, eqv_int, Option.map_some, truthM, D.truth, rdO, if_pos h02, chg, frzE, rdE, iosOf, Int.ofNat_zero, Int.natCast_zero, beq_self_eq_true]
    rfl
  | cons x r =>
    refine ⟨x :: r, by simp, by omega, ?_⟩
    have hz : ((((x :: r).map D.int).length : Int) == 0) = false := by
      rw [List.length_map, List.length_cons]
      simp
      omega
    simp only [F_numbers, List.length_cons, List.length_nil, List.replicate, List.cons_append, List.nil_append, evSs, evS, evE, evEs, evHof, evPof, Res.bind, if_pos h01, opt, asListO, nx, put, List.getElem?_cons_zero, List.getElem?_cons_succ, List.set, evIt, rdS, intP, hs, Hd.look, D.items, It.locks, Ex.lock, lockE, e, unlockE, rdB, Sl.see, Bi.ev, Cop.ev, eqv_int, Option.map_some, truthM, D.truth, hz, frzE, rdE, iosOf]
end Sm
end

section
set_option linter.all false
set_option autoImplicit false
set_option maxRecDepth 100000
/-! Pl2: _law_so, by values. -/
namespace Sm
open PySem
def b_so (j : Nat) : Sts := (.cons (.ite (.not_ (.call j (.cons (.idx (.bor 0) (.var 2)) (.cons (.idx (.bor 1) (.var 2)) .nil)))) (.cons (.ret (.bl false)) .nil) .nil) .nil)
def F_so (j : Nat) : Fn := { name := "_law_so", names := ["found", "meant", "k"], mos := [.b, .b], own := false, body :=
  (.cons (.ite (.cmp .is_ (.bor 1) .non) (.cons (.ret (.cmp .is_ (.bor 0) .non)) .nil) .nil) (.cons (.ite (.isi (.bor 1) [.tuple]) (.cons (.ite (.or_ (.not_ (.isi (.bor 0) [.tuple])) (.cmp .ne (.cal .len (.cons (.bor 0) .nil)) (.cal .len (.cons (.bor 1) .nil)))) (.cons (.ret (.bl false)) .nil) .nil) (.cons (.for_ (.nm 2) (.rng1 (.cal .len (.cons (.bor 1) .nil))) (b_so j)) (.cons (.ret (.bl true)) .nil))) .nil) (.cons (.ite (.or_ (.isi (.bor 1) [.bool]) (.isi (.bor 0) [.bool])) (.cons (.ret (.and_ (.isi (.bor 1) [.bool]) (.and_ (.isi (.bor 0) [.bool]) (.cmp .eq (.bor 0) (.bor 1))))) .nil) .nil) (.cons (.ite (.isi (.bor 1) [.int]) (.cons (.ret (.and_ (.isi (.bor 0) [.int]) (.cmp .eq (.bor 0) (.bor 1)))) .nil) .nil) (.cons (.ret (.and_ (.isi (.bor 1) [.str]) (.and_ (.isi (.bor 0) [.str]) (.cmp .eq (.bor 0) (.bor 1))))) .nil))))) }
/-- nested tuples of ints -/
def TI : Nat → D → Prop
  | _, .int _ => True
  | k + 1, .tup ds => ds.length ≤ sizeLine ∧ ∀ d ∈ ds, TI k d
  | _, _ => False
theorem TI.up : ∀ {k : Nat} {d : D}, TI k d → TI (k + 1) d
  | _, .int _, _ => trivial
  | 0, .tup _, h => h.elim
  | k + 1, .tup ds, h => ⟨h.1, fun d hd => (h.2 d hd).up⟩
  | 0, .non, h => h.elim
  | 0, .bl _, h => h.elim
  | 0, .str _, h => h.elim
  | 0, .lst _, h => h.elim
  | 0, .obj _ _, h => h.elim
  | k + 1, .non, h => h.elim
  | k + 1, .bl _, h => h.elim
  | k + 1, .str _, h => h.elim
  | k + 1, .lst _, h => h.elim
  | k + 1, .obj _ _, h => h.elim
theorem entry_bb {a b : Ar} {x y : D} (ha : ArB a x) (hb : ArB b y) : entry [.b, .b] [a, b] = some [.bor x, .bor y] := by
  rw [entry_b ha, entry_b hb]
  rfl
theorem rng1_nat {n : Nat} (h : n ≤ sizeLine) : rng1D (.int (n : Int)) = some (rangeD 0 1 n) := by
  have hs : (sizeLine : Int) < 2 ^ 62 := by decide
  show (if smallI (n : Int) = true then some (rangeD 0 1 (n : Int).toNat) else none) = _
  rw [if_pos (by
    unfold smallI
    rw [Nat.blt_eq]
    omega)]
  rfl
/-- a for whose turns all go on -/
theorem for_all {tg : Tg} {body : En → Res Fl} (I : En → Prop) : ∀ {xs : List D} {ρ : En}, I ρ → (∀ x ∈ xs, ∀ ρ, I ρ → ∃ ρ', ((tg.put x ρ).bind fun _ ρ => body ρ) = .ok .nx ρ' ∧ I ρ') → ∃ ρ', forLoop tg body xs ρ = .ok .nx ρ' ∧ I ρ'
  | [], ρ, h, _ => ⟨ρ, rfl, h⟩
  | x :: xs, ρ, h, st => by
    obtain ⟨ρ1, e, h1⟩ := st x List.mem_cons_self ρ h
    have e2 : forLoop tg body (x :: xs) ρ = ((tg.put x ρ).bind fun _ ρ => body ρ).bind fun f ρ => match f with
      | .nx => forLoop tg body xs ρ
      | .ct => forLoop tg body xs ρ
      | .bk => .ok .nx ρ
      | .rt d => .ok (.rt d) ρ := by
      rw [bind_assoc9]
      rfl
    rw [e2, e]
    exact for_all I h1 fun y hy => st y (List.mem_cons_of_mem _ hy)
theorem idx_tup {ds : List D} {k : Nat} {d : D} (h : ds[k]? = some d) : D.idx (.tup ds) (.int (k : Int)) = some d := by
  have hl : k < ds.length := (List.getElem?_eq_some_iff.mp h).1
  show L2.atI ds (k : Int) = some d
  rw [atI_in (by omega) (by omega), Int.toNat_natCast, h]
theorem so_ok {T : List Fn} {j : Nat} (hj : T[j]? = some (F_so j)) : ∀ (k : Nat) (d : D), TI k d → ∀ (n : Nat), k ≤ n → ∀ {a b : Ar}, ArB a d → ArB b d → evF T (n + 1) j [a, b] = .ok (.bl true) [] := by
  intro k
  induction k with
  | zero =>
    intro d h n hn a b ha hb
    cases d with
    | int i =>
      rw [run_eq hj (entry_bb ha hb)]
      simp only [F_so, List.length_cons, List.length_nil, List.replicate, List.cons_append, List.nil_append, evSs, evS, evE, evHof, Res.bind, rdB, opt, Sl.see, List.getElem?_cons_zero, List.getElem?_cons_succ, Hd.look, Cop.ev, D.isN, truthM, D.truth, List.any_cons, List.any_nil, Ty.has, Bool.or_false, Bool.false_or, eqv_int, Option.map_some, beq_self_eq_true, iosOf]
    | _ => exact h.elim
  | succ k ih =>
    intro d h n hn a b ha hb
    cases d with
    | int i =>
      rw [run_eq hj (entry_bb ha hb)]
      simp only [F_so, List.length_cons, List.length_nil, List.replicate, List.cons_append, List.nil_append, evSs, evS, evE, evHof, Res.bind, rdB, opt, Sl.see, List.getElem?_cons_zero, List.getElem?_cons_succ, Hd.look, Cop.ev, D.isN, truthM, D.truth, List.any_cons, List.any_nil, Ty.has, Bool.or_false, Bool.false_or, eqv_int, Option.map_some, beq_self_eq_true, iosOf]
    | tup ds =>
      obtain ⟨hl, hd⟩ := h
      obtain ⟨m, rfl⟩ : ∃ m, n = m + 1 := ⟨n - 1, by omega⟩
      rw [run_eq hj (entry_bb ha hb)]
      have loop : ∃ ρ', forLoop (.nm 2) (evSs (evF T (m + 1)) (b_so j)) (rangeD 0 1 ds.length) [.bor (.tup ds), .bor (.tup ds), .un] = .ok .nx ρ' ∧ ∃ s, ρ' = [.bor (.tup ds), .bor (.tup ds), s] ∧ (s = .un ∨ ∃ d, s = .dat d) := by
        refine for_all (fun ρ => ∃ s, ρ = [.bor (.tup ds), .bor (.tup ds), s] ∧ (s = .un ∨ ∃ d, s = .dat d)) ⟨.un, rfl, .inl rfl⟩ ?_
        rintro x hx ρ ⟨s, rfl, hs⟩
        obtain ⟨i, rfl, hi⟩ := rng1_mem hx
        have hp : Tg.put (.nm 2) (.int (i : Int)) [.bor (.tup ds), .bor (.tup ds), s] = .ok () [.bor (.tup ds), .bor (.tup ds), .dat (.int (i : Int))] := put_un rfl hs
        have hx : D.idx (.tup ds) (.int (i : Int)) = some ds[i] := idx_tup (List.getElem?_eq_getElem hi)
        have hc : evF T (m + 1) j [.d ds[i], .d ds[i]] = .ok (.bl true) [] := ih ds[i] (hd _ (List.getElem_mem hi)) m (by omega) (.inl rfl) (.inl rfl)
        have hap : apart [Ar.d ds[i], .d ds[i]] = true := rfl
        rw [hp]
        refine ⟨_, ?_, .dat (.int (i : Int)), rfl, .inr ⟨_, rfl⟩⟩
        simp only [b_so, Res.bind, evSs, evS, evE, evAs, evHof, rdB, rdE, opt, Sl.see, List.getElem?_cons_zero, List.getElem?_cons_succ, Hd.look, hx, fillA, callM, hap, if_true, hc, ioBack, truthM, D.truth, Bool.not_true]
      obtain ⟨ρ', e, s, rfl, _⟩ := loop
      simp only [F_so, List.length_cons, List.length_nil, List.replicate, List.cons_append, List.nil_append, evSs, evS, evE, evEs, evHof, Res.bind, rdB, opt, Sl.see, List.getElem?_cons_zero, List.getElem?_cons_succ, Hd.look, Cop.ev, D.isN, truthM, D.truth, List.any_cons, List.any_nil, Ty.has, Bool.or_false, Bool.false_or, Bool.not_true, Bi.ev, eqv_int, Option.map_some, beq_self_eq_true, evIt, rng1_nat hl, It.locks, lockE, e, unlockE, iosOf]
    | _ => exact h.elim
end Sm
end

section
set_option linter.all false
set_option autoImplicit false
set_option maxRecDepth 100000
/-! Fr: a rational as a pair. -/
namespace Sm
open PySem
def fr (q : Rat) : D := .tup [.int q.num, .int q.den]
theorem frac_eq {a b : Int} (hb : b ≠ 0) : a.fdiv (if b < 0 then -(Int.gcd a b : Int) else (Int.gcd a b : Int)) = (Rat.divInt a b).num ∧ b.fdiv (if b < 0 then -(Int.gcd a b : Int) else (Int.gcd a b : Int)) = ((Rat.divInt a b).den : Int) := by
  have hg : 0 < Int.gcd a b := Int.gcd_pos_of_ne_zero_right a hb
  obtain ⟨x, hx⟩ := Int.gcd_dvd_left a b
  obtain ⟨y, hy⟩ := Int.gcd_dvd_right a b
  rw [Rat.num_divInt, Rat.den_divInt, if_neg hb, Int.gcd_comm b a]
  generalize hgg : Int.gcd a b = g at *
  have g0 : (g : Int) ≠ 0 := by omega
  subst hx hy
  have y0 : y ≠ 0 := fun z => hb (by rw [z, Int.mul_zero])
  have den : (((g : Int) * y).natAbs / g : Nat) = y.natAbs := by
    rw [Int.natAbs_mul, Int.natAbs_natCast, Nat.mul_div_cancel_left _ hg]
  rw [den]
  by_cases hn : (g : Int) * y < 0
  · have yn : y < 0 := by
      refine Int.not_le.mp fun z => ?_
      have := Int.mul_nonneg (show (0 : Int) ≤ g by omega) z
      omega
    have sg : ((g : Int) * y).sign = -1 := Int.sign_eq_neg_one_of_neg hn
    rw [if_pos hn, sg]
    have e1 : (g : Int) * x = -(g : Int) * -x := by rw [Int.neg_mul_neg]
    have e2 : (g : Int) * y = -(g : Int) * -y := by rw [Int.neg_mul_neg]
    have e3 : (-1 : Int) * ((g : Int) * x) = (g : Int) * -x := by rw [Int.mul_neg]; omega
    refine ⟨?_, ?_⟩
    · rw [e3, Int.mul_ediv_cancel_left _ g0, e1, Int.mul_fdiv_cancel_left _ (by omega)]
    · rw [e2, Int.mul_fdiv_cancel_left _ (by omega)]
      omega
  · have yp : 0 < y := by
      refine Int.not_le.mp fun z => ?_
      have h1 : (g : Int) * y ≤ 0 := Int.mul_nonpos_of_nonneg_of_nonpos (by omega) z
      have h2 : (g : Int) * y = 0 := by omega
      exact hb h2
    have sg : ((g : Int) * y).sign = 1 := Int.sign_eq_one_of_pos (Int.mul_pos (by omega) yp)
    rw [if_neg hn, sg, Int.one_mul]
    refine ⟨?_, ?_⟩
    · rw [Int.mul_ediv_cancel_left _ g0, Int.mul_fdiv_cancel_left _ g0]
    · rw [Int.mul_fdiv_cancel_left _ g0]
      omega
end Sm
end

section
set_option linter.all false
set_option autoImplicit false
set_option maxRecDepth 100000
/-! Fr2: the law's fractions, by values. -/
namespace Sm
open PySem
def b_gcd : Sts := (.cons (.set 4 (.bin .mod (.cal .int_ (.cons (.var 2) .nil)) (.var 3))) (.cons (.set 2 (.var 3)) (.cons (.set 3 (.var 4)) .nil)))
def w_gcd : St := .whl (.cmp .ne (.var 3) (.int 0)) b_gcd
def F_gcd : Fn := { name := "_law_gcd", names := ["one", "two", "first", "second", "rest"], mos := [.d, .d], own := false, body :=
  (.cons (.set 2 (.cal .abs (.cons (.var 0) .nil))) (.cons (.set 3 (.cal .abs (.cons (.var 1) .nil))) (.cons w_gcd (.cons (.ret (.var 2)) .nil)))) }
abbrev c_gcd (F : Nat → List Ar → FRes) : En → Res Bool := fun ρ => (evE F (.cmp .ne (.var 3) (.int 0)) ρ).bind fun d ρ => truthM d ρ
theorem gcd_zero {F : Nat → List Ar → FRes} {s0 s1 s4 : Sl} {n a : Nat} : whlLoop (c_gcd F) (evSs F b_gcd) (n + 1) [s0, s1, .dat (.int a), .dat (.int (0 : Nat)), s4] = .ok .nx [s0, s1, .dat (.int a), .dat (.int (0 : Nat)), s4] := by
  simp only [whlLoop, c_gcd, evE, evHof, rdE, List.getElem?_cons_zero, List.getElem?_cons_succ, Res.bind, Hd.look, Cop.ev, opt, eqv_int, Option.map_some, truthM, D.truth, Int.natCast_zero, Int.ofNat_zero, beq_self_eq_true, Bool.not_true]
theorem gcd_step {F : Nat → List Ar → FRes} {s0 s1 s4 : Sl} {n a b : Nat} (hb : b ≠ 0) (h4 : s4 = .un ∨ ∃ d, s4 = .dat d) : whlLoop (c_gcd F) (evSs F b_gcd) (n + 1) [s0, s1, .dat (.int a), .dat (.int b), s4] = whlLoop (c_gcd F) (evSs F b_gcd) n [s0, s1, .dat (.int b), .dat (.int ((a % b : Nat) : Int)), .dat (.int ((a % b : Nat) : Int))] := by
  have hne : ((b : Int) == 0) = false := by simpa using hb
  have hm : D.mod (.int (a : Int)) (.int (b : Int)) = some (.int ((a % b : Nat) : Int)) := by
    rw [mod_pos (by omega), Int.fmod_eq_emod_of_nonneg _ (by omega)]
    rfl
  have hp : ∀ y, put 4 (.dat y) [s0, s1, .dat (.int a), .dat (.int b), s4] = .ok () [s0, s1, .dat (.int a), .dat (.int b), .dat y] := fun y => put_un rfl h4
  have p2 : ∀ y z, put 2 (.dat y) [s0, s1, .dat (.int a), .dat (.int b), z] = .ok () [s0, s1, .dat y, .dat (.int b), z] := fun y z => rfl
  have p3 : ∀ y x z, put 3 (.dat y) [s0, s1, x, .dat (.int b), z] = .ok () [s0, s1, x, .dat y, z] := fun y x z => rfl
  simp only [whlLoop, c_gcd, b_gcd, evSs, evS, evE, evEs, evHof, rdE, List.getElem?_cons_zero, List.getElem?_cons_succ, Res.bind, Hd.look, Cop.ev, opt, eqv_int, Option.map_some, truthM, D.truth, hne, Bool.not_false, Bi.ev, Bop.ev, hm, nx, hp, p2, p3]
theorem gcd_loop {F : Nat → List Ar → FRes} {s0 s1 : Sl} : ∀ (k n b a : Nat), b < 2 ^ k → 2 * k + 1 ≤ n → ∀ (s4 : Sl), (s4 = .un ∨ ∃ d, s4 = .dat d) → ∃ s4', whlLoop (c_gcd F) (evSs F b_gcd) n [s0, s1, .dat (.int a), .dat (.int b), s4] = .ok .nx [s0, s1, .dat (.int (Nat.gcd a b : Nat)), .dat (.int (0 : Nat)), s4']
  | 0, n, b, a, h, hn, s4, h4 => by
    have hb : b = 0 := by simpa using h
    subst hb
    obtain ⟨n, rfl⟩ : ∃ m, n = m + 1 := ⟨n - 1, by omega⟩
    exact ⟨s4, by rw [gcd_zero, Nat.gcd_zero_right]⟩
  | k + 1, n, b, a, h, hn, s4, h4 => by
    obtain ⟨n, rfl⟩ : ∃ m, n = m + 2 := ⟨n - 2, by omega⟩
    by_cases hb : b = 0
    · subst hb
      exact ⟨s4, by rw [gcd_zero, Nat.gcd_zero_right]⟩
    · have eg : Nat.gcd a b = Nat.gcd b (a % b) := by rw [Nat.gcd_comm a b, Nat.gcd_rec, Nat.gcd_comm]
      rw [gcd_step hb h4, eg]
      by_cases hr : a % b = 0
      · rw [hr]
        exact ⟨_, by rw [gcd_zero, Nat.gcd_zero_right]⟩
      · have eg2 : Nat.gcd b (a % b) = Nat.gcd (a % b) (b % (a % b)) := by rw [Nat.gcd_comm b (a % b), Nat.gcd_rec, Nat.gcd_comm]
        rw [gcd_step hr (.inr ⟨_, rfl⟩), eg2]
        have l1 : a % b < b := Nat.mod_lt a (by omega)
        have l2 : b % (a % b) < a % b := Nat.mod_lt b (by omega)
        have l3 : b % (a % b) + a % b ≤ b := by
          have e := Nat.div_add_mod b (a % b)
          have q1 : 1 ≤ b / (a % b) := (Nat.le_div_iff_mul_le (by omega)).mpr (by omega)
          have q2 : (a % b) * 1 ≤ (a % b) * (b / (a % b)) := Nat.mul_le_mul_left _ q1
          omega
        have h2 : 2 ^ (k + 1) = 2 * 2 ^ k := by rw [Nat.pow_succ]; omega
        exact gcd_loop k n _ _ (by omega) (by omega) _ (.inr ⟨_, rfl⟩)
theorem abs_nat (a : Int) : (if a < 0 then -a else a) = ((a.natAbs : Nat) : Int) := by
  split <;> omega
theorem gcd_ok {T : List Fn} {n i : Nat} (hi : T[i]? = some F_gcd) (a b : Int) {k : Nat} (hb : b.natAbs < 2 ^ k) (hk : 2 * k + 1 ≤ WF) : evF T (n + 1) i [.d (.int a), .d (.int b)] = .ok (.int (Int.gcd a b : Nat)) [] := by
  have he : entry F_gcd.mos [.d (.int a), .d (.int b)] = some [.dat (.int a), .dat (.int b)] := rfl
  obtain ⟨s4, e⟩ := gcd_loop (F := evF T n) (s0 := .dat (.int a)) (s1 := .dat (.int b)) k WF b.natAbs a.natAbs hb hk .un (.inl rfl)
  have hw : evS (evF T n) w_gcd [.dat (.int a), .dat (.int b), .dat (.int ((a.natAbs : Nat) : Int)), .dat (.int ((b.natAbs : Nat) : Int)), .un] = .ok .nx [.dat (.int a), .dat (.int b), .dat (.int ((Nat.gcd a.natAbs b.natAbs : Nat) : Int)), .dat (.int ((0 : Nat) : Int)), s4] := e
  rw [run_eq hi he]
  have p2 : ∀ x, put 2 (.dat x) [Sl.dat (.int a), .dat (.int b), .un, .un, .un] = .ok () [Sl.dat (.int a), .dat (.int b), .dat x, .un, .un] := fun x => rfl
  have p3 : ∀ x y, put 3 (.dat y) [Sl.dat (.int a), .dat (.int b), .dat x, .un, .un] = .ok () [Sl.dat (.int a), .dat (.int b), .dat x, .dat y, .un] := fun x y => rfl
  have eS : ∀ (i : Nat) (x : Ex) (ρ : En), evS (evF T n) (.set i x) ρ = (evE (evF T n) x ρ).bind fun x ρ => nx (put i (.dat x) ρ) := fun _ _ _ => rfl
  have eR : ∀ (x : Ex) (ρ : En), evS (evF T n) (.ret x) ρ = (evE (evF T n) x ρ).bind fun x ρ => .ok (.rt x) ρ := fun _ _ => rfl
  simp only [F_gcd, List.length_cons, List.length_nil, List.replicate, List.cons_append, List.nil_append, evSs, eS, eR, evE, evEs, rdE, List.getElem?_cons_zero, List.getElem?_cons_succ, Res.bind, Bi.ev, abs_nat, opt, nx, p2, p3, hw, iosOf]
  rfl
end Sm
end

section
set_option linter.all false
set_option autoImplicit false
set_option maxRecDepth 100000
/-! Fr3: _law_frac. -/
namespace Sm
open PySem
theorem log_lt {b k : Nat} (h : b < 2 ^ k) (hk : 0 < k) : b.log2 < k := by
  by_cases e : b = 0
  · subst e
    rw [Nat.log2_zero]
    exact hk
  · exact (Nat.log2_lt e).mpr h
theorem fdiv_small {a b : Int} (hb : b ≠ 0) {k : Nat} (h : b.natAbs < 2 ^ k) (hk : k ≤ 9000) : D.fdiv (.int a) (.int b) = some (.int (a.fdiv b)) := by
  have e : Builtin.divisionGoesByPylong a b = false := by
    unfold Builtin.divisionGoesByPylong
    have k0 : 0 < k := by
      refine Nat.pos_of_ne_zero fun z => ?_
      rw [z] at h
      have : b.natAbs = 0 := by simpa using h
      omega
    have l := log_lt h k0
    have : decide ((if (b == 0) = true then 0 else b.natAbs.log2 / 30 + 1) > 300) = false := by
      rw [decide_eq_false_iff_not]
      split
      · omega
      · omega
    simp only [this, Bool.false_and]
  show (if b ≠ 0 ∧ Builtin.divisionGoesByPylong a b = false then some (D.int (a.fdiv b)) else none) = _
  rw [if_pos ⟨hb, e⟩]
def F_frac (j : Nat) : Fn := { name := "_law_frac", names := ["top", "bottom", "common"], mos := [.d, .d], own := false, body :=
  (.cons (.set 2 (.call j (.cons (.var 0) (.cons (.var 1) .nil)))) (.cons (.ite (.cmp .lt (.var 1) (.int 0)) (.cons (.set 2 (.bin .sub (.int 0) (.var 2))) .nil) .nil) (.cons (.ret (.tup (.cons (.bin .fdiv (.var 0) (.var 2)) (.cons (.bin .fdiv (.var 1) (.var 2)) .nil)))) .nil))) }
theorem frac_ok {T : List Fn} {n i j : Nat} (hi : T[i]? = some (F_frac j)) (hj : T[j]? = some F_gcd) {a b : Int} (hb : b ≠ 0) {k : Nat} (h : b.natAbs < 2 ^ k) (hk : k ≤ 8999) : evF T (n + 2) i [.d (.int a), .d (.int b)] = .ok (fr (Rat.divInt a b)) [] := by
  have he : entry (F_frac j).mos [.d (.int a), .d (.int b)] = some [.dat (.int a), .dat (.int b)] := rfl
  have hg := gcd_ok (n := n) hj a b h (by
    have : 2 * 8999 + 1 ≤ WF := by decide +kernel
    omega)
  have g0 : 0 < Int.gcd a b := Int.gcd_pos_of_ne_zero_right a hb
  have gl : Int.gcd a b < 2 ^ k := Nat.lt_of_le_of_lt (Nat.le_of_dvd (by omega) (Nat.gcd_dvd_right a.natAbs b.natAbs)) h
  obtain ⟨q1, q2⟩ := frac_eq (a := a) hb
  have hap : apart [Ar.d (.int a), .d (.int b)] = true := rfl
  have sz : (2 : Nat) ≤ sizeLine := by decide
  rw [run_eq hi he]
  by_cases hn : b < 0
  · rw [if_pos hn] at q1 q2
    have e0 : (0 : Int) - (Int.gcd a b : Int) = -(Int.gcd a b : Int) := by omega
    have f1 : ∀ x : Int, D.fdiv (.int x) (.int (-(Int.gcd a b : Int))) = some (.int (x.fdiv (-(Int.gcd a b : Int)))) := fun x => fdiv_small (by omega) (k := k) (by rw [Int.natAbs_neg, Int.natAbs_natCast]; exact gl) (by omega)
    simp only [F_frac, List.length_cons, List.length_nil, List.replicate, List.cons_append, List.nil_append, evSs, evS, evE, evEs, evAs, evHof, rdE, List.getElem?_cons_zero, List.getElem?_cons_succ, Res.bind, fillA, callM, hap, if_true, hg, ioBack, nx, put, List.set, Hd.look, Cop.ev, D.ltI, opt, truthM, D.truth, decide_eq_true hn, Bop.ev, D.sub, e0, f1, q1, q2, if_pos sz, iosOf, fr]
  · rw [if_neg hn] at q1 q2
    have f1 : ∀ x : Int, D.fdiv (.int x) (.int (Int.gcd a b : Int)) = some (.int (x.fdiv (Int.gcd a b : Int))) := fun x => fdiv_small (by omega) (k := k) (by rw [Int.natAbs_natCast]; exact gl) (by omega)
    simp only [F_frac, List.length_cons, List.length_nil, List.replicate, List.cons_append, List.nil_append, evSs, evS, evE, evEs, evAs, evHof, rdE, List.getElem?_cons_zero, List.getElem?_cons_succ, Res.bind, fillA, callM, hap, if_true, hg, ioBack, nx, put, List.set, Hd.look, Cop.ev, D.ltI, opt, truthM, D.truth, decide_eq_false hn, Bop.ev, D.sub, f1, q1, q2, if_pos sz, iosOf, fr]
end Sm
end

section
set_option linter.all false
set_option autoImplicit false
set_option maxRecDepth 100000
/-! Fr4: sums and products of the law's fractions. -/
namespace Sm
open PySem
theorem mul_mid {a b : Int} {k : Nat} (ha : a.natAbs < 2 ^ k) (hk : k ≤ 100000) (hb : b.natAbs < 2 ^ k) : D.mul (.int a) (.int b) = some (.int (a * b)) := by
  have bits : ∀ {x : Int}, x.natAbs < 2 ^ k → Builtin.Int.intBits x ≤ 100000 := fun {x} hx => by
    unfold Builtin.Int.intBits
    split
    · omega
    · rename_i h0
      have h0 : x ≠ 0 := by simpa using h0
      have : x.natAbs.log2 < k := (Nat.log2_lt (by omega)).mpr hx
      omega
  have e : mulB a b = true := by
    unfold mulB
    have h1 := bits ha
    have h2 := bits hb
    have hl : (200000 : Nat) < bitsLine := by decide
    have : Builtin.Int.intTooBig (Builtin.Int.intBits a + Builtin.Int.intBits b) = false := by
      unfold Builtin.Int.intTooBig
      rw [decide_eq_false_iff_not]
      omega
    rw [this, Bool.and_false]
    rfl
  show (if mulB a b = true then some (D.int (a * b)) else none) = _
  rw [if_pos e]
/-- a rational of at most k bits -/
def Sz (k : Nat) (q : Rat) : Prop := q.num.natAbs < 2 ^ k ∧ q.den < 2 ^ k
theorem idx_pair {x y : D} : D.idx (.tup [x, y]) (.int 0) = some x ∧ D.idx (.tup [x, y]) (.int 1) = some y := ⟨rfl, rfl⟩
theorem mul_lt2 {x y a b : Nat} (hx : x < 2 ^ a) (hy : y < 2 ^ b) : x * y < 2 ^ (a + b) := by
  rw [Nat.pow_add]
  exact Nat.mul_lt_mul'' hx hy
def F_by (j : Nat) : Fn := { name := "_law_by", names := ["one", "two"], mos := [.b, .b], own := false, body :=
  (.cons (.ret (.call j (.cons (.bin .mul (.idx (.bor 0) (.int 0)) (.idx (.bor 1) (.int 0))) (.cons (.bin .mul (.idx (.bor 0) (.int 1)) (.idx (.bor 1) (.int 1))) .nil)))) .nil) }
theorem by_ok {T : List Fn} {n i j g : Nat} (hi : T[i]? = some (F_by j)) (hj : T[j]? = some (F_frac g)) (hg : T[g]? = some F_gcd) {p q : Rat} {k : Nat} (hp : Sz k p) (hq : Sz k q) (hk : k ≤ 4400) {a b : Ar} (ha : ArB a (fr p)) (hb : ArB b (fr q)) : evF T (n + 3) i [a, b] = .ok (fr (p * q)) [] := by
  have he : entry (F_by j).mos [a, b] = some [.bor (fr p), .bor (fr q)] := entry_bb ha hb
  have hd : (p.den : Int) * (q.den : Int) ≠ 0 := Int.mul_ne_zero (by have := p.den_pos; omega) (by have := q.den_pos; omega)
  have hsz : ((p.den : Int) * (q.den : Int)).natAbs < 2 ^ (k + k) := by
    rw [Int.natAbs_mul, Int.natAbs_natCast, Int.natAbs_natCast]
    exact mul_lt2 hp.2 hq.2
  have hf := frac_ok (n := n) hj hg (a := p.num * q.num) hd hsz (by omega)
  rw [← Rat.divInt_mul_divInt, Rat.num_divInt_den, Rat.num_divInt_den] at hf
  have m1 : D.mul (.int p.num) (.int q.num) = some (.int (p.num * q.num)) := mul_mid hp.1 (by omega) hq.1
  have m2 : D.mul (.int (p.den : Int)) (.int (q.den : Int)) = some (.int ((p.den : Int) * (q.den : Int))) := mul_mid (k := k) (by rw [Int.natAbs_natCast]; exact hp.2) (by omega) (by rw [Int.natAbs_natCast]; exact hq.2)
  have hap : apart [Ar.d (.int (p.num * q.num)), .d (.int ((p.den : Int) * (q.den : Int)))] = true := rfl
  have i1 : ∀ r : Rat, D.idx (fr r) (.int 0) = some (.int r.num) := fun _ => rfl
  have i2 : ∀ r : Rat, D.idx (fr r) (.int 1) = some (.int (r.den : Int)) := fun _ => rfl
  rw [run_eq hi he]
  simp only [F_by, List.length_cons, List.length_nil, List.replicate, List.cons_append, List.nil_append, evSs, evS, evE, evAs, evHof, rdB, Sl.see, List.getElem?_cons_zero, List.getElem?_cons_succ, Res.bind, opt, Hd.look, Bop.ev, i1, i2, m1, m2, fillA, callM, hap, if_true, hf, ioBack, iosOf]
def F_plus (j : Nat) : Fn := { name := "_law_plus", names := ["one", "two"], mos := [.b, .b], own := false, body :=
  (.cons (.ret (.call j (.cons (.bin .add (.bin .mul (.idx (.bor 0) (.int 0)) (.idx (.bor 1) (.int 1))) (.bin .mul (.idx (.bor 1) (.int 0)) (.idx (.bor 0) (.int 1)))) (.cons (.bin .mul (.idx (.bor 0) (.int 1)) (.idx (.bor 1) (.int 1))) .nil)))) .nil) }
theorem plus_ok {T : List Fn} {n i j g : Nat} (hi : T[i]? = some (F_plus j)) (hj : T[j]? = some (F_frac g)) (hg : T[g]? = some F_gcd) {p q : Rat} {k : Nat} (hp : Sz k p) (hq : Sz k q) (hk : k ≤ 4400) {a b : Ar} (ha : ArB a (fr p)) (hb : ArB b (fr q)) : evF T (n + 3) i [a, b] = .ok (fr (p + q)) [] := by
  have he : entry (F_plus j).mos [a, b] = some [.bor (fr p), .bor (fr q)] := entry_bb ha hb
  have p0 : (p.den : Int) ≠ 0 := by have := p.den_pos; omega
  have q0 : (q.den : Int) ≠ 0 := by have := q.den_pos; omega
  have hsz : ((p.den : Int) * (q.den : Int)).natAbs < 2 ^ (k + k) := by
    rw [Int.natAbs_mul, Int.natAbs_natCast, Int.natAbs_natCast]
    exact mul_lt2 hp.2 hq.2
  have hf := frac_ok (n := n) hj hg (a := p.num * (q.den : Int) + q.num * (p.den : Int)) (Int.mul_ne_zero p0 q0) hsz (by omega)
  rw [← Rat.divInt_add_divInt _ _ p0 q0, Rat.num_divInt_den, Rat.num_divInt_den] at hf
  have dp : ((p.den : Int)).natAbs < 2 ^ k := by rw [Int.natAbs_natCast]; exact hp.2
  have dq : ((q.den : Int)).natAbs < 2 ^ k := by rw [Int.natAbs_natCast]; exact hq.2
  have m1 : D.mul (.int p.num) (.int (q.den : Int)) = some (.int (p.num * (q.den : Int))) := mul_mid hp.1 (by omega) dq
  have m3 : D.mul (.int q.num) (.int (p.den : Int)) = some (.int (q.num * (p.den : Int))) := mul_mid hq.1 (by omega) dp
  have m2 : D.mul (.int (p.den : Int)) (.int (q.den : Int)) = some (.int ((p.den : Int) * (q.den : Int))) := mul_mid dp (by omega) dq
  have hap : apart [Ar.d (.int (p.num * (q.den : Int) + q.num * (p.den : Int))), .d (.int ((p.den : Int) * (q.den : Int)))] = true := rfl
  have i1 : ∀ r : Rat, D.idx (fr r) (.int 0) = some (.int r.num) := fun _ => rfl
  have i2 : ∀ r : Rat, D.idx (fr r) (.int 1) = some (.int (r.den : Int)) := fun _ => rfl
  rw [run_eq hi he]
  simp only [F_plus, List.length_cons, List.length_nil, List.replicate, List.cons_append, List.nil_append, evSs, evS, evE, evAs, evHof, rdB, Sl.see, List.getElem?_cons_zero, List.getElem?_cons_succ, Res.bind, opt, Hd.look, Bop.ev, i1, i2, m1, m2, m3, D.add, fillA, callM, hap, if_true, hf, ioBack, iosOf]
def F_neg : Fn := { name := "_law_neg", names := ["one"], mos := [.b], own := false, body :=
  (.cons (.ret (.tup (.cons (.bin .sub (.int 0) (.idx (.bor 0) (.int 0))) (.cons (.idx (.bor 0) (.int 1)) .nil)))) .nil) }
theorem neg_ok {T : List Fn} {n i : Nat} (hi : T[i]? = some F_neg) {p : Rat} {a : Ar} (ha : ArB a (fr p)) : evF T (n + 1) i [a] = .ok (fr (-p)) [] := by
  have he : entry F_neg.mos [a] = some [.bor (fr p)] := by
    rw [show F_neg.mos = [.b] from rfl, entry_b ha]
    rfl
  have i1 : ∀ r : Rat, D.idx (fr r) (.int 0) = some (.int r.num) := fun _ => rfl
  have i2 : ∀ r : Rat, D.idx (fr r) (.int 1) = some (.int (r.den : Int)) := fun _ => rfl
  have e : fr (-p) = .tup [.int (0 - p.num), .int p.den] := by
    unfold fr
    rw [Rat.neg_num, Rat.neg_den]
    simp
  have sz : (2 : Nat) ≤ sizeLine := by decide
  rw [run_eq hi he, e]
  simp only [F_neg, List.length_cons, List.length_nil, List.replicate, List.cons_append, List.nil_append, evSs, evS, evE, evEs, evHof, rdB, Sl.see, List.getElem?_cons_zero, List.getElem?_cons_succ, Res.bind, opt, Hd.look, Bop.ev, D.sub, i1, i2, if_pos sz, iosOf]
theorem Sz.neg {k : Nat} {q : Rat} (h : Sz k q) : Sz k (-q) := by
  unfold Sz
  rw [Rat.neg_num, Rat.neg_den, Int.natAbs_neg]
  exact h
def F_minus (jp jn : Nat) : Fn := { name := "_law_minus", names := ["one", "two"], mos := [.b, .b], own := false, body :=
  (.cons (.ret (.call jp (.cons (.bor 0) (.cons (.call jn (.cons (.bor 1) .nil)) .nil)))) .nil) }
theorem minus_ok {T : List Fn} {n i jp jn j g : Nat} (hi : T[i]? = some (F_minus jp jn)) (hjp : T[jp]? = some (F_plus j)) (hjn : T[jn]? = some F_neg) (hj : T[j]? = some (F_frac g)) (hg : T[g]? = some F_gcd) {p q : Rat} {k : Nat} (hp : Sz k p) (hq : Sz k q) (hk : k ≤ 4400) {a b : Ar} (ha : ArB a (fr p)) (hb : ArB b (fr q)) : evF T (n + 4) i [a, b] = .ok (fr (p - q)) [] := by
  have he : entry (F_minus jp jn).mos [a, b] = some [.bor (fr p), .bor (fr q)] := entry_bb ha hb
  have h1 := neg_ok (n := n + 2) hjn (p := q) (a := .b 1 (fr q)) (.inr ⟨1, rfl⟩)
  have h2 := plus_ok (n := n) hjp hj hg hp hq.neg hk (a := .b 0 (fr p)) (b := .d (fr (-q))) (.inr ⟨0, rfl⟩) (.inl rfl)
  rw [← Rat.sub_eq_add_neg] at h2
  have a1 : apart [Ar.b 1 (fr q)] = true := rfl
  have a2 : apart [Ar.b 0 (fr p), .d (fr (-q))] = true := rfl
  rw [run_eq hi he]
  simp only [F_minus, List.length_cons, List.length_nil, List.replicate, List.cons_append, List.nil_append, evSs, evS, evE, evAs, evHof, rdB, Sl.see, List.getElem?_cons_zero, List.getElem?_cons_succ, Res.bind, opt, fillA, callM, a1, a2, if_true, h1, h2, ioBack, iosOf]
def F_over (j : Nat) : Fn := { name := "_law_over", names := ["one", "two"], mos := [.b, .b], own := false, body :=
  (.cons (.ret (.call j (.cons (.bin .mul (.idx (.bor 0) (.int 0)) (.idx (.bor 1) (.int 1))) (.cons (.bin .mul (.idx (.bor 0) (.int 1)) (.idx (.bor 1) (.int 0))) .nil)))) .nil) }
theorem div_pair (p q : Rat) : Rat.divInt (p.num * q.den) (p.den * q.num) = p / q := by
  rw [← Rat.divInt_mul_divInt, Rat.num_divInt_den, Rat.div_def]
  congr 1
  rw [← Rat.inv_divInt, Rat.num_divInt_den]
theorem over_ok {T : List Fn} {n i j g : Nat} (hi : T[i]? = some (F_over j)) (hj : T[j]? = some (F_frac g)) (hg : T[g]? = some F_gcd) {p q : Rat} {k : Nat} (hp : Sz k p) (hq : Sz k q) (hk : k ≤ 4400) (h0 : q ≠ 0) {a b : Ar} (ha : ArB a (fr p)) (hb : ArB b (fr q)) : evF T (n + 3) i [a, b] = .ok (fr (p / q)) [] := by
  have he : entry (F_over j).mos [a, b] = some [.bor (fr p), .bor (fr q)] := entry_bb ha hb
  have hd : (p.den : Int) * q.num ≠ 0 := Int.mul_ne_zero (by have := p.den_pos; omega) fun z => h0 (Rat.num_eq_zero.mp z)
  have hsz : ((p.den : Int) * q.num).natAbs < 2 ^ (k + k) := by
    rw [Int.natAbs_mul, Int.natAbs_natCast]
    exact mul_lt2 hp.2 hq.1
  have hf := frac_ok (n := n) hj hg (a := p.num * (q.den : Int)) hd hsz (by omega)
  rw [div_pair] at hf
  have dp : ((p.den : Int)).natAbs < 2 ^ k := by rw [Int.natAbs_natCast]; exact hp.2
  have dq : ((q.den : Int)).natAbs < 2 ^ k := by rw [Int.natAbs_natCast]; exact hq.2
  have m1 : D.mul (.int p.num) (.int (q.den : Int)) = some (.int (p.num * (q.den : Int))) := mul_mid hp.1 (by omega) dq
  have m2 : D.mul (.int (p.den : Int)) (.int q.num) = some (.int ((p.den : Int) * q.num)) := mul_mid dp (by omega) hq.1
  have hap : apart [Ar.d (.int (p.num * (q.den : Int))), .d (.int ((p.den : Int) * q.num))] = true := rfl
  have i1 : ∀ r : Rat, D.idx (fr r) (.int 0) = some (.int r.num) := fun _ => rfl
  have i2 : ∀ r : Rat, D.idx (fr r) (.int 1) = some (.int (r.den : Int)) := fun _ => rfl
  rw [run_eq hi he]
  simp only [F_over, List.length_cons, List.length_nil, List.replicate, List.cons_append, List.nil_append, evSs, evS, evE, evAs, evHof, rdB, Sl.see, List.getElem?_cons_zero, List.getElem?_cons_succ, Res.bind, opt, Hd.look, Bop.ev, i1, i2, m1, m2, fillA, callM, hap, if_true, hf, ioBack, iosOf]
end Sm
end

section
set_option linter.all false
namespace Sm
/-- where each def stands in a table -/
structure Ix where
  is_whole : Nat := 0
  is_row : Nat := 0
  is_number : Nat := 0
  fraction : Nat := 0
  number_read : Nat := 0
  vector_read : Nat := 0
  vector_needed : Nat := 0
  vectors_needed : Nat := 0
  rows_needed : Nat := 0
  shared : Nat := 0
  whole_rows_of : Nat := 0
  eliminated : Nat := 0
  first_filled : Nat := 0
  reduced : Nat := 0
  rank_of : Nat := 0
  fractions_of : Nat := 0
  echelon : Nat := 0
  rank : Nat := 0
  Lso : Nat := 0
  Lnumbers : Nat := 0
  Ldraw : Nat := 0
  Ltake : Nat := 0
  Lloose : Nat := 0
  Lnumeric : Nat := 0
  Lgcd : Nat := 0
  Lfrac : Nat := 0
  Lnum : Nat := 0
  Lvec : Nat := 0
  Lplus : Nat := 0
  Lneg : Nat := 0
  Lminus : Nat := 0
  Lby : Nat := 0
  Lover : Nat := 0
  Lechelon : Nat := 0
  Lcleared : Nat := 0
  Ldrawn_number : Nat := 0
  Ldrawn_rows : Nat := 0
  Lvecs : Nat := 0
  nought : Nat := 0
  kernel_of : Nat := 0
  kernel : Nat := 0
  beside : Nat := 0
  solved : Nat := 0
  Lsum : Nat := 0
  Ldot : Nat := 0
  Lpivots : Nat := 0
  Lkernel : Nat := 0
  Lsolve : Nat := 0
  Ldrawn_row : Nat := 0
  dot : Nat := 0
  unit : Nat := 0
  flipped : Nat := 0
  unsolved : Nat := 0
  unsolved_holds : Nat := 0
  Lset : Nat := 0
  Lscaled : Nat := 0
  Ladded : Nat := 0
  Lzero : Nat := 0
  Lis_frac : Nat := 0
  Lis_vec : Nat := 0
  Lcombined : Nat := 0
  Lunsolves : Nat := 0
  Lis_num : Nat := 0
  determinant_of : Nat := 0
  square_needed : Nat := 0
  determinant : Nat := 0
  inverse : Nat := 0
  Lare_vecs : Nat := 0
  Ldeterminant : Nat := 0
  Lunit : Nat := 0
end Sm
end

section
set_option linter.all false
namespace Sm
open PySem
def F_is_whole (I : Ix) : Fn := { name := "is_whole", names := ["value"], mos := [.b], own := false, body :=
  (.cons (.ret (.and_ (.isi (.bor 0) [.int]) (.not_ (.isi (.bor 0) [.bool])))) .nil) }
def F_is_row (I : Ix) : Fn := { name := "is_row", names := ["value"], mos := [.b], own := false, body :=
  (.cons (.ret (.isi (.bor 0) [.list, .tuple])) .nil) }
def F_is_number (I : Ix) : Fn := { name := "is_number", names := ["value"], mos := [.b], own := false, body :=
  (.cons (.ite (.call I.is_row (.cons (.bor 0) .nil)) (.cons (.ret (.and_ (.cmp .eq (.cal .len (.cons (.bor 0) .nil)) (.int 2)) (.and_ (.call I.is_whole (.cons (.idx (.bor 0) (.int 0)) .nil)) (.and_ (.call I.is_whole (.cons (.idx (.bor 0) (.int 1)) .nil)) (.cmp .gt (.idx (.bor 0) (.int 1)) (.int 0)))))) .nil) .nil) (.cons (.ret (.call I.is_whole (.cons (.bor 0) .nil))) .nil)) }
def F_fraction (I : Ix) : Fn := { name := "fraction", names := ["top", "bottom", "common"], mos := [.d, .d], own := false, body :=
  (.cons (.ite (.cmp .eq (.var 1) (.int 1)) (.cons (.ret (.tup (.cons (.var 0) (.cons (.int 1) .nil)))) .nil) .nil) (.cons (.set 2 (.cal .gcd (.cons (.var 0) (.cons (.var 1) .nil)))) (.cons (.ite (.cmp .lt (.var 1) (.int 0)) (.cons (.set 2 (.neg (.var 2))) .nil) .nil) (.cons (.ret (.tup (.cons (.bin .fdiv (.var 0) (.var 2)) (.cons (.bin .fdiv (.var 1) (.var 2)) .nil)))) .nil)))) }
def F_number_read (I : Ix) : Fn := { name := "number_read", names := ["value"], mos := [.d], own := false, body :=
  (.cons (.ite (.not_ (.call I.is_number (.cons (.var 0) .nil))) (.cons (.ret .non) .nil) .nil) (.cons (.ite (.call I.is_row (.cons (.var 0) .nil)) (.cons (.ret (.call I.fraction (.cons (.idx (.var 0) (.int 0)) (.cons (.idx (.var 0) (.int 1)) .nil)))) .nil) .nil) (.cons (.ret (.tup (.cons (.var 0) (.cons (.int 1) .nil)))) .nil))) }
def b_vector_read_0 (I : Ix) : Sts := (.cons (.set 4 (.call I.number_read (.cons (.var 3) .nil))) (.cons (.ite (.cmp .is_ (.var 4) .non) (.cons (.ret .non) .nil) .nil) (.cons (.app 2 (.var 4)) .nil)))
def s_vector_read_0 (I : Ix) : St := .for_ (.nm 3) (.seq (.bor 0)) (b_vector_read_0 I)
def F_vector_read (I : Ix) : Fn := { name := "vector_read", names := ["value", "size", "members", "one", "member"], mos := [.b, .b], own := false, body :=
  (.cons (.ite (.or_ (.not_ (.call I.is_row (.cons (.bor 0) .nil))) (.cmp .ne (.cal .len (.cons (.bor 0) .nil)) (.bor 1))) (.cons (.ret .non) .nil) .nil) (.cons (.setO 2 (.lst .nil)) (.cons (s_vector_read_0 I) (.cons (.ret (.cal .tuple (.cons (.bor 2) .nil))) .nil)))) }
def F_vector_needed (I : Ix) : Fn := { name := "vector_needed", names := ["value", "size", "at", "read"], mos := [.b, .b, .d], own := false, body :=
  (.cons (.set 3 (.call I.vector_read (.cons (.bor 0) (.cons (.bor 1) .nil)))) (.cons (.ite (.cmp .is_ (.var 3) .non) (.cons .never .nil) .nil) (.cons (.ret (.var 3)) .nil))) }
def e_vectors_needed_0 (I : Ix) : Ex := (.lc (.nm 5) [5] (.seq (.bor 0)) (.bl true) (.call I.vector_needed (.cons (.var 5) (.cons (.bor 3) (.cons (.var 4) .nil)))))
def F_vectors_needed (I : Ix) : Fn := { name := "vectors_needed", names := ["value", "least", "most", "size", "at", "one"], mos := [.b, .b, .b, .b, .d], own := false, body :=
  (.cons (.ite (.or_ (.not_ (.call I.is_row (.cons (.bor 0) .nil))) (.or_ (.cmp .lt (.cal .len (.cons (.bor 0) .nil)) (.bor 1)) (.cmp .gt (.cal .len (.cons (.bor 0) .nil)) (.bor 2)))) (.cons .never .nil) .nil) (.cons (.ret (.cal .tuple (.cons (e_vectors_needed_0 I) .nil))) .nil)) }
def F_rows_needed (I : Ix) : Fn := { name := "rows_needed", names := ["value", "at", "size"], mos := [.b, .d], own := false, body :=
  (.cons (.ite (.or_ (.not_ (.call I.is_row (.cons (.bor 0) .nil))) (.or_ (.cmp .lt (.cal .len (.cons (.bor 0) .nil)) (.int 1)) (.not_ (.call I.is_row (.cons (.idx (.bor 0) (.int 0)) .nil))))) (.cons .never .nil) .nil) (.cons (.set 2 (.cal .len (.cons (.idx (.bor 0) (.int 0)) .nil))) (.cons (.ite (.or_ (.cmp .lt (.var 2) (.int 1)) (.cmp .gt (.var 2) (.int 8))) (.cons .never .nil) .nil) (.cons (.ret (.call I.vectors_needed (.cons (.bor 0) (.cons (.int 1) (.cons (.int 24) (.cons (.var 2) (.cons (.var 1) .nil))))))) .nil)))) }
def b_shared_0 (I : Ix) : Sts := (.cons (.ite (.cmp .ne (.idx (.var 2) (.int 1)) (.int 1)) (.cons (.set 1 (.cal .lcm (.cons (.var 1) (.cons (.idx (.var 2) (.int 1)) .nil)))) .nil) .nil) .nil)
def s_shared_0 (I : Ix) : St := .for_ (.nm 2) (.seq (.bor 0)) (b_shared_0 I)
def e_shared_0 (I : Ix) : Ex := (.lc (.tp (.nm 3) (.tp (.nm 4) .nl)) [3, 4] (.seq (.bor 0)) (.bl true) (.bin .mul (.var 3) (.bin .fdiv (.var 1) (.var 4))))
def F_shared (I : Ix) : Fn := { name := "shared", names := ["vector", "bottom", "member", "top", "low"], mos := [.b], own := false, body :=
  (.cons (.set 1 (.int 1)) (.cons (s_shared_0 I) (.cons (.ret (.tup (.cons (.cal .tuple (.cons (e_shared_0 I) .nil)) (.cons (.var 1) .nil)))) .nil))) }
def e_whole_rows_of_0 (I : Ix) : Ex := (.lc (.nm 1) [1] (.seq (.bor 0)) (.bl true) (.idx (.call I.shared (.cons (.var 1) .nil)) (.int 0)))
def F_whole_rows_of (I : Ix) : Fn := { name := "whole_rows_of", names := ["rows", "row"], mos := [.b], own := false, body :=
  (.cons (.ret (e_whole_rows_of_0 I)) .nil) }
def e_eliminated_0 (I : Ix) : Ex := (.lc (.nm 6) [6] (.seq (.var 0)) (.bl true) (.bin .fdiv (.bin .mul (.var 4) (.var 6)) (.var 3)))
def e_eliminated_1 (I : Ix) : Ex := (.lc (.tp (.nm 6) (.tp (.nm 7) .nl)) [6, 7] (.zip (.var 0) (.bor 1)) (.bl true) (.bin .fdiv (.bin .sub (.bin .mul (.var 4) (.var 6)) (.bin .mul (.var 5) (.var 7))) (.var 3)))
def F_eliminated (I : Ix) : Fn := { name := "eliminated", names := ["row", "chosen", "place", "bottom", "factor", "extent", "one", "other"], mos := [.d, .b, .d, .d], own := false, body :=
  (.cons (.par [(4, false), (5, false)] (.cons (.idx (.bor 1) (.var 2)) (.cons (.idx (.var 0) (.var 2)) .nil))) (.cons (.ite (.cmp .eq (.var 5) (.int 0)) (.cons (.ite (.cmp .eq (.var 4) (.var 3)) (.cons (.ret (.var 0)) .nil) .nil) (.cons (.ret (e_eliminated_0 I)) .nil)) .nil) (.cons (.ret (e_eliminated_1 I)) .nil))) }
def b_first_filled_0 (I : Ix) : Sts := (.cons (.ite (.cmp .ne (.idx (.idx (.bor 0) (.var 3)) (.var 2)) (.int 0)) (.cons (.ret (.var 3)) .nil) .nil) .nil)
def s_first_filled_0 (I : Ix) : St := .for_ (.nm 3) (.rng2 (.var 1) (.cal .len (.cons (.bor 0) .nil))) (b_first_filled_0 I)
def F_first_filled (I : Ix) : Fn := { name := "first_filled", names := ["work", "start", "place", "at"], mos := [.b, .d, .d], own := false, body :=
  (.cons (s_first_filled_0 I) (.cons (.ret .non) .nil)) }
def e_reduced_0 (I : Ix) : Ex := (.lc (.nm 3) [3] (.seq (.bor 0)) (.bl true) (.cal .list (.cons (.var 3) .nil)))
def b_reduced_1 (I : Ix) : Sts := (.cons (.ite (.cmp .ne (.var 10) (.var 7)) (.cons (.sto 2 (.var 10) (.call I.eliminated (.cons (.idx (.bor 2) (.var 10)) (.cons (.var 9) (.cons (.var 6) (.cons (.var 5) .nil)))))) .nil) .nil) .nil)
def s_reduced_1 (I : Ix) : St := .for_ (.nm 10) (.rng1 (.cal .len (.cons (.bor 2) .nil))) (b_reduced_1 I)
def b_reduced_0 (I : Ix) : Sts := (.cons (.set 7 (.cal .len (.cons (.bor 4) .nil))) (.cons (.set 8 (.call I.first_filled (.cons (.bor 2) (.cons (.var 7) (.cons (.var 6) .nil))))) (.cons (.ite (.cmp .is_ (.var 8) .non) (.cons .cnt .nil) .nil) (.cons (.asgs [.sub 2 (.var 7), .sub 2 (.var 8)] (.cons (.idx (.bor 2) (.var 8)) (.cons (.idx (.bor 2) (.var 7)) .nil))) (.cons (.set 9 (.idx (.bor 2) (.var 7))) (.cons (s_reduced_1 I) (.cons (.set 5 (.idx (.var 9) (.var 6))) (.cons (.app 4 (.var 6)) .nil))))))))
def s_reduced_0 (I : Ix) : St := .for_ (.nm 6) (.rng1 (.var 1)) (b_reduced_0 I)
def e_reduced_1 (I : Ix) : Ex := (.lc (.nm 11) [11] (.seq (.var 3)) (.bl true) (.neg (.var 11)))
def e_reduced_2 (I : Ix) : Ex := (.lc (.nm 3) [3] (.seq (.bor 2)) (.bl true) (e_reduced_1 I))
def F_reduced (I : Ix) : Fn := { name := "reduced", names := ["rows", "width", "work", "row", "pivots", "bottom", "place", "height", "found", "chosen", "at", "one"], mos := [.b, .d], own := false, body :=
  (.cons (.setO 2 (e_reduced_0 I)) (.cons (.setO 4 (.lst .nil)) (.cons (.set 5 (.int 1)) (.cons (s_reduced_0 I) (.cons (.ite (.cmp .lt (.var 5) (.int 0)) (.cons (.setO 2 (e_reduced_2 I)) (.cons (.set 5 (.neg (.var 5))) .nil)) .nil) (.cons (.frz 4) (.cons (.ret (.tup (.cons (.slc (.bor 2) .non (.cal .len (.cons (.bor 4) .nil))) (.cons (.var 4) (.cons (.var 5) .nil))))) .nil))))))) }
def F_rank_of (I : Ix) : Fn := { name := "rank_of", names := ["rows", "width"], mos := [.b, .d], own := false, body :=
  (.cons (.ret (.cal .len (.cons (.idx (.call I.reduced (.cons (.bor 0) (.cons (.var 1) .nil))) (.int 1)) .nil))) .nil) }
def e_fractions_of_0 (I : Ix) : Ex := (.lc (.nm 2) [2] (.seq (.bor 0)) (.bl true) (.call I.fraction (.cons (.var 2) (.cons (.var 1) .nil))))
def F_fractions_of (I : Ix) : Fn := { name := "fractions_of", names := ["row", "bottom", "top"], mos := [.b, .d], own := false, body :=
  (.cons (.ret (.cal .tuple (.cons (e_fractions_of_0 I) .nil))) .nil) }
def e_echelon_0 (I : Ix) : Ex := (.lc (.nm 5) [5] (.seq (.var 2)) (.bl true) (.call I.fractions_of (.cons (.var 5) (.cons (.var 4) .nil))))
def F_echelon (I : Ix) : Fn := { name := "echelon", names := ["rows", "told", "stood", "_", "bottom", "row"], mos := [.b], own := false, body :=
  (.cons (.set 1 (.call I.rows_needed (.cons (.bor 0) (.cons (.int 1) .nil)))) (.cons (.unp (.tp (.nm 2) (.tp (.nm 3) (.tp (.nm 4) .nl))) (.call I.reduced (.cons (.call I.whole_rows_of (.cons (.var 1) .nil)) (.cons (.cal .len (.cons (.idx (.var 1) (.int 0)) .nil)) .nil)))) (.cons (.ret (.cal .tuple (.cons (e_echelon_0 I) .nil))) .nil))) }
def F_rank (I : Ix) : Fn := { name := "rank", names := ["rows", "told"], mos := [.b], own := false, body :=
  (.cons (.set 1 (.call I.rows_needed (.cons (.bor 0) (.cons (.int 1) .nil)))) (.cons (.ret (.call I.rank_of (.cons (.call I.whole_rows_of (.cons (.var 1) .nil)) (.cons (.cal .len (.cons (.idx (.var 1) (.int 0)) .nil)) .nil)))) .nil)) }
def b_Lso_0 (I : Ix) : Sts := (.cons (.ite (.not_ (.call I.Lso (.cons (.idx (.bor 0) (.var 2)) (.cons (.idx (.bor 1) (.var 2)) .nil)))) (.cons (.ret (.bl false)) .nil) .nil) .nil)
def s_Lso_0 (I : Ix) : St := .for_ (.nm 2) (.rng1 (.cal .len (.cons (.bor 1) .nil))) (b_Lso_0 I)
def F_Lso (I : Ix) : Fn := { name := "_law_so", names := ["found", "meant", "k"], mos := [.b, .b], own := false, body :=
  (.cons (.ite (.cmp .is_ (.bor 1) .non) (.cons (.ret (.cmp .is_ (.bor 0) .non)) .nil) .nil) (.cons (.ite (.isi (.bor 1) [.tuple]) (.cons (.ite (.or_ (.not_ (.isi (.bor 0) [.tuple])) (.cmp .ne (.cal .len (.cons (.bor 0) .nil)) (.cal .len (.cons (.bor 1) .nil)))) (.cons (.ret (.bl false)) .nil) .nil) (.cons (s_Lso_0 I) (.cons (.ret (.bl true)) .nil))) .nil) (.cons (.ite (.or_ (.isi (.bor 1) [.bool]) (.isi (.bor 0) [.bool])) (.cons (.ret (.and_ (.isi (.bor 1) [.bool]) (.and_ (.isi (.bor 0) [.bool]) (.cmp .eq (.bor 0) (.bor 1))))) .nil) .nil) (.cons (.ite (.isi (.bor 1) [.int]) (.cons (.ret (.and_ (.isi (.bor 0) [.int]) (.cmp .eq (.bor 0) (.bor 1)))) .nil) .nil) (.cons (.ret (.and_ (.isi (.bor 1) [.str]) (.and_ (.isi (.bor 0) [.str]) (.cmp .eq (.bor 0) (.bor 1))))) .nil))))) }
def b_Lnumbers_1 (I : Ix) : Sts := (.cons (.ite (.cmp .eq (.var 3) (.int 0)) (.cons .brk .nil) .nil) (.cons (.app 1 (.bin .mod (.cal .int_ (.cons (.var 3) .nil)) (.int 997))) (.cons (.set 3 (.bin .fdiv (.var 3) (.int 997))) .nil)))
def s_Lnumbers_1 (I : Ix) : St := .for_ (.nm 4) (.rng1 (.int 60)) (b_Lnumbers_1 I)
def b_Lnumbers_2 (I : Ix) : Sts := (.cons (.set 5 (.bin .mod (.cal .int_ (.cons (.bin .add (.bin .add (.bin .mul (.var 2) (.int 48271)) (.bin .mul (.var 4) (.int 69621))) (.int 11)) .nil)) (.int 2147483647))) (.cons (.app 1 (.bin .mod (.cal .int_ (.cons (.bin .add (.bin .mul (.var 5) (.int 16807)) (.var 4)) .nil)) (.int 2147483629))) .nil))
def s_Lnumbers_2 (I : Ix) : St := .for_ (.nm 4) (.rng1 (.int 4)) (b_Lnumbers_2 I)
def b_Lnumbers_0 (I : Ix) : Sts := (.cons (.ite (.cmp .ge (.var 2) (.bin .pow (.int 10) (.int 18))) (.cons (.set 3 (.var 2)) (.cons (s_Lnumbers_1 I) .nil)) (.cons (s_Lnumbers_2 I) .nil)) .nil)
def s_Lnumbers_0 (I : Ix) : St := .for_ (.nm 2) (.seq (.slcS 0 .non (.int 63))) (b_Lnumbers_0 I)
def F_Lnumbers (I : Ix) : Fn := { name := "_law_numbers", names := ["script", "row", "cell", "left", "k", "mixed"], mos := [.s], own := false, body :=
  (.cons (.setO 1 (.lst .nil)) (.cons (s_Lnumbers_0 I) (.cons (.ite (.cmp .eq (.cal .len (.cons (.bor 1) .nil)) (.int 0)) (.cons (.app 1 (.int 0)) .nil) .nil) (.cons (.frz 1) (.cons (.ret (.var 1)) .nil))))) }
def F_Ldraw (I : Ix) : Fn := { name := "_law_draw", names := ["row", "at", "limit", "mixed"], mos := [.b, .d, .d], own := false, body :=
  (.cons (.ite (.cmp .lt (.var 1) (.cal .len (.cons (.bor 0) .nil))) (.cons (.ret (.bin .mod (.cal .int_ (.cons (.idx (.bor 0) (.var 1)) .nil)) (.var 2))) .nil) .nil) (.cons (.set 3 (.bin .mod (.cal .int_ (.cons (.bin .add (.bin .add (.bin .mul (.idx (.bor 0) (.bin .mod (.cal .int_ (.cons (.var 1) .nil)) (.cal .len (.cons (.bor 0) .nil)))) (.int 40692)) (.bin .mul (.var 1) (.int 7919))) (.int 3)) .nil)) (.int 2147483399))) (.cons (.ret (.bin .mod (.cal .int_ (.cons (.bin .mod (.cal .int_ (.cons (.bin .add (.bin .mul (.var 3) (.int 48271)) (.var 1)) .nil)) (.int 2147483647)) .nil)) (.var 2))) .nil))) }
def F_Ltake (I : Ix) : Fn := { name := "_law_take", names := ["row", "spot", "limit"], mos := [.b, .o, .d], own := false, body :=
  (.cons (.sto 1 (.int 0) (.bin .add (.idx (.bor 1) (.int 0)) (.int 1))) (.cons (.ret (.call I.Ldraw (.cons (.bor 0) (.cons (.bin .sub (.idx (.bor 1) (.int 0)) (.int 1)) (.cons (.var 2) .nil))))) .nil)) }
def e_Lloose_0 (I : Ix) : Ex := (.lc (.nm 3) [3] (.seq (.var 0)) (.bl true) (.call I.Lloose (.cons (.var 3) (.cons (.bin .add (.var 1) (.int 1)) .nil))))
def F_Lloose (I : Ix) : Fn := { name := "_law_loose", names := ["value", "turn", "made", "one"], mos := [.d, .d], own := false, body :=
  (.cons (.ite (.isi (.var 0) [.tuple]) (.cons (.set 2 (e_Lloose_0 I)) (.cons (.ret (.ife (.cmp .eq (.bin .mod (.cal .int_ (.cons (.var 1) .nil)) (.int 2)) (.int 0)) (.var 2) (.cal .tuple (.cons (.var 2) .nil)))) .nil)) .nil) (.cons (.ret (.var 0)) .nil)) }
def F_Lnumeric (I : Ix) : Fn := { name := "_law_numeric", names := ["value"], mos := [.b], own := false, body :=
  (.cons (.ret (.and_ (.isi (.bor 0) [.int]) (.not_ (.isi (.bor 0) [.bool])))) .nil) }
def b_Lgcd_0 (I : Ix) : Sts := (.cons (.set 4 (.bin .mod (.cal .int_ (.cons (.var 2) .nil)) (.var 3))) (.cons (.set 2 (.var 3)) (.cons (.set 3 (.var 4)) .nil)))
def c_Lgcd_0 (I : Ix) : Ex := (.cmp .ne (.var 3) (.int 0))
def s_Lgcd_0 (I : Ix) : St := .whl (c_Lgcd_0 I) (b_Lgcd_0 I)
def F_Lgcd (I : Ix) : Fn := { name := "_law_gcd", names := ["one", "two", "first", "second", "rest"], mos := [.d, .d], own := false, body :=
  (.cons (.set 2 (.cal .abs (.cons (.var 0) .nil))) (.cons (.set 3 (.cal .abs (.cons (.var 1) .nil))) (.cons (s_Lgcd_0 I) (.cons (.ret (.var 2)) .nil)))) }
def F_Lfrac (I : Ix) : Fn := { name := "_law_frac", names := ["top", "bottom", "common"], mos := [.d, .d], own := false, body :=
  (.cons (.set 2 (.call I.Lgcd (.cons (.var 0) (.cons (.var 1) .nil)))) (.cons (.ite (.cmp .lt (.var 1) (.int 0)) (.cons (.set 2 (.bin .sub (.int 0) (.var 2))) .nil) .nil) (.cons (.ret (.tup (.cons (.bin .fdiv (.var 0) (.var 2)) (.cons (.bin .fdiv (.var 1) (.var 2)) .nil)))) .nil))) }
def F_Lnum (I : Ix) : Fn := { name := "_law_num", names := ["value"], mos := [.d], own := false, body :=
  (.cons (.ret (.ife (.call I.Lnumeric (.cons (.var 0) .nil)) (.tup (.cons (.var 0) (.cons (.int 1) .nil))) (.call I.Lfrac (.cons (.idx (.var 0) (.int 0)) (.cons (.idx (.var 0) (.int 1)) .nil))))) .nil) }
def e_Lvec_0 (I : Ix) : Ex := (.lc (.nm 1) [1] (.seq (.bor 0)) (.bl true) (.call I.Lnum (.cons (.var 1) .nil)))
def F_Lvec (I : Ix) : Fn := { name := "_law_vec", names := ["values", "one"], mos := [.b], own := false, body :=
  (.cons (.ret (.cal .tuple (.cons (e_Lvec_0 I) .nil))) .nil) }
def F_Lplus (I : Ix) : Fn := { name := "_law_plus", names := ["one", "two"], mos := [.b, .b], own := false, body :=
  (.cons (.ret (.call I.Lfrac (.cons (.bin .add (.bin .mul (.idx (.bor 0) (.int 0)) (.idx (.bor 1) (.int 1))) (.bin .mul (.idx (.bor 1) (.int 0)) (.idx (.bor 0) (.int 1)))) (.cons (.bin .mul (.idx (.bor 0) (.int 1)) (.idx (.bor 1) (.int 1))) .nil)))) .nil) }
def F_Lneg (I : Ix) : Fn := { name := "_law_neg", names := ["one"], mos := [.b], own := false, body :=
  (.cons (.ret (.tup (.cons (.bin .sub (.int 0) (.idx (.bor 0) (.int 0))) (.cons (.idx (.bor 0) (.int 1)) .nil)))) .nil) }
def F_Lminus (I : Ix) : Fn := { name := "_law_minus", names := ["one", "two"], mos := [.b, .b], own := false, body :=
  (.cons (.ret (.call I.Lplus (.cons (.bor 0) (.cons (.call I.Lneg (.cons (.bor 1) .nil)) .nil)))) .nil) }
def F_Lby (I : Ix) : Fn := { name := "_law_by", names := ["one", "two"], mos := [.b, .b], own := false, body :=
  (.cons (.ret (.call I.Lfrac (.cons (.bin .mul (.idx (.bor 0) (.int 0)) (.idx (.bor 1) (.int 0))) (.cons (.bin .mul (.idx (.bor 0) (.int 1)) (.idx (.bor 1) (.int 1))) .nil)))) .nil) }
def F_Lover (I : Ix) : Fn := { name := "_law_over", names := ["one", "two"], mos := [.b, .b], own := false, body :=
  (.cons (.ret (.call I.Lfrac (.cons (.bin .mul (.idx (.bor 0) (.int 0)) (.idx (.bor 1) (.int 1))) (.cons (.bin .mul (.idx (.bor 0) (.int 1)) (.idx (.bor 1) (.int 0))) .nil)))) .nil) }
def e_Lechelon_0 (I : Ix) : Ex := (.lc (.nm 2) [2] (.seq (.bor 0)) (.bl true) (.cal .list (.cons (.var 2) .nil)))
def e_Lechelon_1 (I : Ix) : Ex := (.lc (.nm 7) [7] (.rng1 (.cal .len (.cons (.var 1) .nil))) (.cmp .ne (.idx (.idx (.idx (.var 1) (.var 7)) (.var 5)) (.int 0)) (.int 0)) (.var 7))
def e_Lechelon_2 (I : Ix) : Ex := (.lc (.nm 2) [2] (.seq (.var 8)) (.bl true) (.call I.Lover (.cons (.var 2) (.cons (.idx (.var 8) (.var 5)) .nil))))
def e_Lechelon_3 (I : Ix) : Ex := (.lc (.nm 2) [2] (.seq (.var 10)) (.bl true) (.call I.Lcleared (.cons (.var 2) (.cons (.var 9) (.cons (.var 5) .nil)))))
def e_Lechelon_4 (I : Ix) : Ex := (.lc (.nm 2) [2] (.seq (.var 3)) (.bl true) (.call I.Lcleared (.cons (.var 2) (.cons (.var 9) (.cons (.var 5) .nil)))))
def b_Lechelon_0 (I : Ix) : Sts := (.cons (.set 6 (e_Lechelon_1 I)) (.cons (.ite (.cmp .eq (.cal .len (.cons (.var 6) .nil)) (.int 0)) (.cons .cnt .nil) .nil) (.cons (.set 8 (.idx (.var 1) (.idx (.var 6) (.int 0)))) (.cons (.set 9 (e_Lechelon_2 I)) (.cons (.set 10 (.bin .add (.slc (.var 1) .non (.idx (.var 6) (.int 0))) (.slc (.var 1) (.bin .add (.idx (.var 6) (.int 0)) (.int 1)) .non))) (.cons (.set 1 (e_Lechelon_3 I)) (.cons (.set 3 (.bin .add (e_Lechelon_4 I) (.lst (.cons (.var 9) .nil)))) .nil)))))))
def s_Lechelon_0 (I : Ix) : St := .for_ (.nm 5) (.rng1 (.var 4)) (b_Lechelon_0 I)
def e_Lechelon_5 (I : Ix) : Ex := (.lc (.nm 2) [2] (.seq (.var 3)) (.bl true) (.cal .tuple (.cons (.var 2) .nil)))
def F_Lechelon (I : Ix) : Fn := { name := "_law_echelon", names := ["rows", "left", "one", "made", "many", "column", "found", "k", "head", "pivot", "others"], mos := [.b], own := false, body :=
  (.cons (.set 1 (e_Lechelon_0 I)) (.cons (.set 3 (.lst .nil)) (.cons (.set 4 (.ife (.cmp .gt (.cal .len (.cons (.var 1) .nil)) (.int 0)) (.cal .len (.cons (.idx (.var 1) (.int 0)) .nil)) (.int 0))) (.cons (s_Lechelon_0 I) (.cons (.ret (.cal .tuple (.cons (e_Lechelon_5 I) .nil))) .nil))))) }
def e_Lcleared_0 (I : Ix) : Ex := (.lc (.nm 4) [4] (.rng1 (.cal .len (.cons (.bor 0) .nil))) (.bl true) (.call I.Lminus (.cons (.idx (.bor 0) (.var 4)) (.cons (.call I.Lby (.cons (.var 3) (.cons (.idx (.bor 1) (.var 4)) .nil))) .nil))))
def F_Lcleared (I : Ix) : Fn := { name := "_law_cleared", names := ["vector", "pivot", "column", "factor", "k"], mos := [.b, .b, .d], own := false, body :=
  (.cons (.set 3 (.idx (.bor 0) (.var 2))) (.cons (.ite (.cmp .eq (.idx (.var 3) (.int 0)) (.int 0)) (.cons (.ret (.cal .list (.cons (.bor 0) .nil))) .nil) .nil) (.cons (.ret (e_Lcleared_0 I)) .nil))) }
def F_Ldrawn_number (I : Ix) : Fn := { name := "_law_drawn_number", names := ["row", "spot", "span", "top", "style"], mos := [.b, .o, .d], own := false, body :=
  (.cons (.set 3 (.bin .sub (.call I.Ltake (.cons (.bor 0) (.cons (.io 1) (.cons (.bin .add (.bin .mul (.int 2) (.var 2)) (.int 1)) .nil)))) (.var 2))) (.cons (.set 4 (.call I.Ltake (.cons (.bor 0) (.cons (.io 1) (.cons (.int 6) .nil))))) (.cons (.ite (.cmp .eq (.var 4) (.int 0)) (.cons (.ret (.tup (.cons (.var 3) (.cons (.bin .add (.int 2) (.call I.Ltake (.cons (.bor 0) (.cons (.io 1) (.cons (.int 3) .nil))))) .nil)))) .nil) .nil) (.cons (.ret (.var 3)) .nil)))) }
def e_Ldrawn_rows_0 (I : Ix) : Ex := (.lc (.nm 7) [7] (.rng1 (.var 3)) (.bl true) (.ife (.and_ (.call I.Lnumeric (.cons (.idx (.idx (.bor 5) (.int 0)) (.var 7)) .nil)) (.call I.Lnumeric (.cons (.idx (.idx (.bor 5) (.int 1)) (.var 7)) .nil))) (.bin .add (.idx (.idx (.bor 5) (.int 0)) (.var 7)) (.idx (.idx (.bor 5) (.int 1)) (.var 7))) (.int 0)))
def e_Ldrawn_rows_1 (I : Ix) : Ex := (.lc (.nm 7) [7] (.rng1 (.var 3)) (.bl true) (.call I.Ldrawn_number (.cons (.bor 0) (.cons (.io 1) (.cons (.var 4) .nil)))))
def b_Ldrawn_rows_0 (I : Ix) : Sts := (.cons (.ite (.and_ (.cmp .gt (.var 6) (.int 1)) (.cmp .eq (.call I.Ltake (.cons (.bor 0) (.cons (.io 1) (.cons (.int 5) .nil)))) (.int 0))) (.cons (.app 5 (.cal .tuple (.cons (e_Ldrawn_rows_0 I) .nil))) .nil) (.cons (.app 5 (.cal .tuple (.cons (e_Ldrawn_rows_1 I) .nil))) .nil)) .nil)
def s_Ldrawn_rows_0 (I : Ix) : St := .for_ (.nm 6) (.rng1 (.var 2)) (b_Ldrawn_rows_0 I)
def F_Ldrawn_rows (I : Ix) : Fn := { name := "_law_drawn_rows", names := ["row", "spot", "many", "wide", "span", "made", "k", "j"], mos := [.b, .o, .d, .d, .d], own := false, body :=
  (.cons (.setO 5 (.lst .nil)) (.cons (s_Ldrawn_rows_0 I) (.cons (.ret (.cal .tuple (.cons (.bor 5) .nil))) .nil))) }
def e_Lvecs_0 (I : Ix) : Ex := (.lc (.nm 1) [1] (.seq (.bor 0)) (.bl true) (.call I.Lvec (.cons (.var 1) .nil)))
def F_Lvecs (I : Ix) : Fn := { name := "_law_vecs", names := ["rows", "one"], mos := [.b], own := false, body :=
  (.cons (.ret (.cal .tuple (.cons (e_Lvecs_0 I) .nil))) .nil) }
def e_nought_0 (I : Ix) : Ex := (.lc (.nm 1) [1] (.rng1 (.var 0)) (.bl true) (.tup (.cons (.int 0) (.cons (.int 1) .nil))))
def F_nought (I : Ix) : Fn := { name := "nought", names := ["size", "_"], mos := [.d], own := false, body :=
  (.cons (.ret (.cal .tuple (.cons (e_nought_0 I) .nil))) .nil) }
def b_kernel_of_1 (I : Ix) : Sts := (.cons (.sto 7 (.var 8) (.neg (.idx (.var 9) (.var 6)))) .nil)
def s_kernel_of_1 (I : Ix) : St := .for_ (.tp (.nm 8) (.tp (.nm 9) .nl)) (.zip (.var 3) (.var 2)) (b_kernel_of_1 I)
def b_kernel_of_0 (I : Ix) : Sts := (.cons (.ite (.cmp .in_ (.var 6) (.var 3)) (.cons .cnt .nil) .nil) (.cons (.setO 7 (.bin .mul (.lst (.cons (.int 0) .nil)) (.var 1))) (.cons (.sto 7 (.var 6) (.var 4)) (.cons (s_kernel_of_1 I) (.cons (.frz 7) (.cons (.app 5 (.var 7)) .nil))))))
def s_kernel_of_0 (I : Ix) : St := .for_ (.nm 6) (.rng1 (.var 1)) (b_kernel_of_0 I)
def F_kernel_of (I : Ix) : Fn := { name := "kernel_of", names := ["rows", "width", "told", "pivots", "bottom", "vectors", "place", "vector", "pivot", "row"], mos := [.b, .d], own := false, body :=
  (.cons (.unp (.tp (.nm 2) (.tp (.nm 3) (.tp (.nm 4) .nl))) (.call I.reduced (.cons (.bor 0) (.cons (.var 1) .nil)))) (.cons (.setO 5 (.lst .nil)) (.cons (s_kernel_of_0 I) (.cons (.frz 5) (.cons (.ret (.tup (.cons (.var 5) (.cons (.var 4) .nil)))) .nil))))) }
def e_kernel_0 (I : Ix) : Ex := (.lc (.nm 4) [4] (.seq (.var 2)) (.bl true) (.call I.fractions_of (.cons (.var 4) (.cons (.var 3) .nil))))
def F_kernel (I : Ix) : Fn := { name := "kernel", names := ["rows", "told", "vectors", "bottom", "vector"], mos := [.b], own := false, body :=
  (.cons (.set 1 (.call I.rows_needed (.cons (.bor 0) (.cons (.int 1) .nil)))) (.cons (.unp (.tp (.nm 2) (.tp (.nm 3) .nl)) (.call I.kernel_of (.cons (.call I.whole_rows_of (.cons (.var 1) .nil)) (.cons (.cal .len (.cons (.idx (.var 1) (.int 0)) .nil)) .nil)))) (.cons (.ret (.cal .tuple (.cons (e_kernel_0 I) .nil))) .nil))) }
def e_beside_0 (I : Ix) : Ex := (.lc (.tp (.nm 2) (.tp (.nm 3) .nl)) [2, 3] (.zip (.bor 0) (.bor 1)) (.bl true) (.bin .add (.var 2) (.tup (.cons (.var 3) .nil))))
def F_beside (I : Ix) : Fn := { name := "beside", names := ["rows", "bounds", "row", "bound"], mos := [.b, .b], own := false, body :=
  (.cons (.ret (e_beside_0 I)) .nil) }
def b_solved_0 (I : Ix) : Sts := (.cons (.sto 8 (.var 9) (.call I.fraction (.cons (.idx (.var 10) (.var 4)) (.cons (.var 7) .nil)))) .nil)
def s_solved_0 (I : Ix) : St := .for_ (.tp (.nm 9) (.tp (.nm 10) .nl)) (.zip (.var 6) (.var 5)) (b_solved_0 I)
def F_solved (I : Ix) : Fn := { name := "solved", names := ["rows", "bounds", "told", "wanted", "size", "stood", "pivots", "bottom", "members", "pivot", "row"], mos := [.b, .b], own := false, body :=
  (.cons (.set 2 (.call I.rows_needed (.cons (.bor 0) (.cons (.int 1) .nil)))) (.cons (.set 3 (.call I.vector_needed (.cons (.bor 1) (.cons (.cal .len (.cons (.var 2) .nil)) (.cons (.int 2) .nil))))) (.cons (.set 4 (.cal .len (.cons (.idx (.var 2) (.int 0)) .nil))) (.cons (.unp (.tp (.nm 5) (.tp (.nm 6) (.tp (.nm 7) .nl))) (.call I.reduced (.cons (.call I.whole_rows_of (.cons (.call I.beside (.cons (.var 2) (.cons (.var 3) .nil))) .nil)) (.cons (.bin .add (.var 4) (.int 1)) .nil)))) (.cons (.ite (.cmp .in_ (.var 4) (.var 6)) (.cons (.ret .non) .nil) .nil) (.cons (.setO 8 (.cal .list (.cons (.call I.nought (.cons (.var 4) .nil)) .nil))) (.cons (s_solved_0 I) (.cons (.ret (.tup (.cons (.cal .tuple (.cons (.bor 8) .nil)) (.cons (.call I.kernel (.cons (.var 2) .nil)) .nil)))) .nil)))))))) }
def b_Lsum_0 (I : Ix) : Sts := (.cons (.set 1 (.call I.Lplus (.cons (.var 1) (.cons (.var 2) .nil)))) .nil)
def s_Lsum_0 (I : Ix) : St := .for_ (.nm 2) (.seq (.bor 0)) (b_Lsum_0 I)
def F_Lsum (I : Ix) : Fn := { name := "_law_sum", names := ["values", "made", "one"], mos := [.b], own := false, body :=
  (.cons (.set 1 (.tup (.cons (.int 0) (.cons (.int 1) .nil)))) (.cons (s_Lsum_0 I) (.cons (.ret (.var 1)) .nil))) }
def e_Ldot_0 (I : Ix) : Ex := (.lc (.nm 2) [2] (.rng1 (.cal .len (.cons (.bor 0) .nil))) (.bl true) (.call I.Lby (.cons (.idx (.bor 0) (.var 2)) (.cons (.idx (.bor 1) (.var 2)) .nil))))
def F_Ldot (I : Ix) : Fn := { name := "_law_dot", names := ["left", "right", "k"], mos := [.b, .b], own := false, body :=
  (.cons (.ret (.call I.Lsum (.cons (e_Ldot_0 I) .nil))) .nil) }
def e_Lpivots_0 (I : Ix) : Ex := (.lc (.nm 3) [3] (.rng1 (.cal .len (.cons (.var 2) .nil))) (.cmp .ne (.idx (.idx (.var 2) (.var 3)) (.int 0)) (.int 0)) (.var 3))
def b_Lpivots_0 (I : Ix) : Sts := (.cons (.app 1 (.idx (e_Lpivots_0 I) (.int 0))) .nil)
def s_Lpivots_0 (I : Ix) : St := .for_ (.nm 2) (.seq (.bor 0)) (b_Lpivots_0 I)
def F_Lpivots (I : Ix) : Fn := { name := "_law_pivots", names := ["stair", "made", "one", "k"], mos := [.b], own := false, body :=
  (.cons (.setO 1 (.lst .nil)) (.cons (s_Lpivots_0 I) (.cons (.frz 1) (.cons (.ret (.var 1)) .nil)))) }
def e_Lkernel_0 (I : Ix) : Ex := (.lc (.nm 7) [7] (.rng1 (.var 1)) (.bl true) (.tup (.cons (.int 0) (.cons (.int 1) .nil))))
def b_Lkernel_1 (I : Ix) : Sts := (.cons (.sto 6 (.idx (.var 3) (.var 7)) (.call I.Lneg (.cons (.idx (.idx (.var 2) (.var 7)) (.var 5)) .nil))) .nil)
def s_Lkernel_1 (I : Ix) : St := .for_ (.nm 7) (.rng1 (.cal .len (.cons (.var 2) .nil))) (b_Lkernel_1 I)
def b_Lkernel_0 (I : Ix) : Sts := (.cons (.ite (.cmp .in_ (.var 5) (.var 3)) (.cons .cnt .nil) .nil) (.cons (.setO 6 (e_Lkernel_0 I)) (.cons (.sto 6 (.var 5) (.tup (.cons (.int 1) (.cons (.int 1) .nil)))) (.cons (s_Lkernel_1 I) (.cons (.app 4 (.cal .tuple (.cons (.bor 6) .nil))) .nil)))))
def s_Lkernel_0 (I : Ix) : St := .for_ (.nm 5) (.rng1 (.var 1)) (b_Lkernel_0 I)
def F_Lkernel (I : Ix) : Fn := { name := "_law_kernel", names := ["rows", "many", "stair", "pivots", "made", "free", "vector", "k"], mos := [.b, .d], own := false, body :=
  (.cons (.set 2 (.call I.Lechelon (.cons (.bor 0) .nil))) (.cons (.set 3 (.call I.Lpivots (.cons (.var 2) .nil))) (.cons (.setO 4 (.lst .nil)) (.cons (s_Lkernel_0 I) (.cons (.ret (.cal .tuple (.cons (.bor 4) .nil))) .nil))))) }
def e_Lsolve_0 (I : Ix) : Ex := (.lc (.nm 4) [4] (.rng1 (.cal .len (.cons (.bor 0) .nil))) (.bl true) (.bin .add (.cal .tuple (.cons (.idx (.bor 0) (.var 4)) .nil)) (.tup (.cons (.idx (.bor 1) (.var 4)) .nil))))
def e_Lsolve_1 (I : Ix) : Ex := (.lc (.nm 4) [4] (.rng1 (.var 2)) (.bl true) (.tup (.cons (.int 0) (.cons (.int 1) .nil))))
def b_Lsolve_0 (I : Ix) : Sts := (.cons (.sto 6 (.idx (.var 5) (.var 4)) (.idx (.idx (.var 3) (.var 4)) (.var 2))) .nil)
def s_Lsolve_0 (I : Ix) : St := .for_ (.nm 4) (.rng1 (.cal .len (.cons (.var 3) .nil))) (b_Lsolve_0 I)
def F_Lsolve (I : Ix) : Fn := { name := "_law_solve", names := ["rows", "bounds", "many", "stair", "k", "pivots", "vector"], mos := [.b, .b, .d], own := false, body :=
  (.cons (.set 3 (.call I.Lechelon (.cons (e_Lsolve_0 I) .nil))) (.cons (.set 5 (.call I.Lpivots (.cons (.var 3) .nil))) (.cons (.ite (.cmp .in_ (.var 2) (.var 5)) (.cons (.ret .non) .nil) .nil) (.cons (.setO 6 (e_Lsolve_1 I)) (.cons (s_Lsolve_0 I) (.cons (.ret (.cal .tuple (.cons (.bor 6) .nil))) .nil)))))) }
def e_Ldrawn_row_0 (I : Ix) : Ex := (.lc (.nm 4) [4] (.rng1 (.var 2)) (.bl true) (.bin .sub (.call I.Ltake (.cons (.bor 0) (.cons (.io 1) (.cons (.bin .add (.bin .mul (.int 2) (.var 3)) (.int 1)) .nil)))) (.var 3)))
def F_Ldrawn_row (I : Ix) : Fn := { name := "_law_drawn_row", names := ["row", "spot", "many", "span", "k"], mos := [.b, .o, .d, .d], own := false, body :=
  (.cons (.ret (.cal .tuple (.cons (e_Ldrawn_row_0 I) .nil))) .nil) }
def b_dot_0 (I : Ix) : Sts := (.cons (.ite (.and_ (.cmp .ne (.idx (.var 4) (.int 0)) (.int 0)) (.cmp .ne (.idx (.var 5) (.int 0)) (.int 0))) (.cons (.set 6 (.bin .mul (.idx (.var 4) (.int 1)) (.idx (.var 5) (.int 1)))) (.cons (.ite (.cmp .eq (.var 6) (.var 3)) (.cons (.set 2 (.bin .add (.var 2) (.bin .mul (.idx (.var 4) (.int 0)) (.idx (.var 5) (.int 0))))) .nil) (.cons (.par [(2, false), (3, false)] (.cons (.bin .add (.bin .mul (.var 2) (.var 6)) (.bin .mul (.bin .mul (.idx (.var 4) (.int 0)) (.idx (.var 5) (.int 0))) (.var 3))) (.cons (.bin .mul (.var 3) (.var 6)) .nil))) .nil)) .nil)) .nil) .nil)
def s_dot_0 (I : Ix) : St := .for_ (.tp (.nm 4) (.tp (.nm 5) .nl)) (.zip (.bor 0) (.bor 1)) (b_dot_0 I)
def F_dot (I : Ix) : Fn := { name := "dot", names := ["one", "other", "top", "bottom", "first", "second", "low"], mos := [.b, .b], own := false, body :=
  (.cons (.par [(2, false), (3, false)] (.cons (.int 0) (.cons (.int 1) .nil))) (.cons (s_dot_0 I) (.cons (.ret (.call I.fraction (.cons (.var 2) (.cons (.var 3) .nil)))) .nil))) }
def e_unit_0 (I : Ix) : Ex := (.lc (.nm 2) [2] (.rng1 (.var 0)) (.bl true) (.ife (.cmp .eq (.var 2) (.bor 1)) (.tup (.cons (.int 1) (.cons (.int 1) .nil))) (.tup (.cons (.int 0) (.cons (.int 1) .nil)))))
def F_unit (I : Ix) : Fn := { name := "unit", names := ["size", "place", "at"], mos := [.d, .b], own := false, body :=
  (.cons (.ret (.cal .tuple (.cons (e_unit_0 I) .nil))) .nil) }
def e_flipped_0 (I : Ix) : Ex := (.lc (.nm 1) [1] (.seq (.bor 0)) (.bl true) (.idx (.var 1) (.var 2)))
def e_flipped_1 (I : Ix) : Ex := (.lc (.nm 2) [2] (.rng1 (.cal .len (.cons (.idx (.bor 0) (.int 0)) .nil))) (.bl true) (.cal .tuple (.cons (e_flipped_0 I) .nil)))
def F_flipped (I : Ix) : Fn := { name := "flipped", names := ["rows", "row", "at"], mos := [.b], own := false, body :=
  (.cons (.ret (e_flipped_1 I)) .nil) }
def e_unsolved_0 (I : Ix) : Ex := (.lc (.tp (.nm 7) (.tp (.nm 8) .nl)) [7, 8] (.enum (.call I.beside (.cons (.var 2) (.cons (.var 3) .nil)))) (.bl true) (.idx (.call I.shared (.cons (.bin .add (.var 8) (.call I.unit (.cons (.var 5) (.cons (.var 7) .nil)))) .nil)) (.int 0)))
def F_unsolved (I : Ix) : Fn := { name := "unsolved", names := ["rows", "bounds", "told", "wanted", "size", "many", "work", "at", "row", "stood", "pivots", "_"], mos := [.b, .b], own := false, body :=
  (.cons (.set 2 (.call I.rows_needed (.cons (.bor 0) (.cons (.int 1) .nil)))) (.cons (.set 3 (.call I.vector_needed (.cons (.bor 1) (.cons (.cal .len (.cons (.var 2) .nil)) (.cons (.int 2) .nil))))) (.cons (.par [(4, false), (5, false)] (.cons (.cal .len (.cons (.idx (.var 2) (.int 0)) .nil)) (.cons (.cal .len (.cons (.var 2) .nil)) .nil))) (.cons (.set 6 (e_unsolved_0 I)) (.cons (.unp (.tp (.nm 9) (.tp (.nm 10) (.tp (.nm 11) .nl))) (.call I.reduced (.cons (.var 6) (.cons (.bin .add (.var 4) (.int 1)) .nil)))) (.cons (.ite (.cmp .notin (.var 4) (.var 10)) (.cons (.ret .non) .nil) .nil) (.cons (.ret (.call I.fractions_of (.cons (.slc (.idx (.var 9) (.neg (.int 1))) (.bin .add (.var 4) (.int 1)) .non) (.cons (.int 1) .nil)))) .nil))))))) }
def b_unsolved_holds_0 (I : Ix) : Sts := (.cons (.ite (.cmp .ne (.idx (.call I.dot (.cons (.var 5) (.cons (.var 6) .nil))) (.int 0)) (.int 0)) (.cons (.ret (.bl false)) .nil) .nil) .nil)
def s_unsolved_holds_0 (I : Ix) : St := .for_ (.nm 6) (.seq (.call I.flipped (.cons (.var 3) .nil))) (b_unsolved_holds_0 I)
def F_unsolved_holds (I : Ix) : Fn := { name := "unsolved_holds", names := ["rows", "bounds", "paper", "told", "wanted", "numbers", "column"], mos := [.b, .b, .b], own := false, body :=
  (.cons (.set 3 (.call I.rows_needed (.cons (.bor 0) (.cons (.int 1) .nil)))) (.cons (.set 4 (.call I.vector_needed (.cons (.bor 1) (.cons (.cal .len (.cons (.var 3) .nil)) (.cons (.int 2) .nil))))) (.cons (.set 5 (.call I.vector_read (.cons (.bor 2) (.cons (.cal .len (.cons (.var 3) .nil)) .nil)))) (.cons (.ite (.cmp .is_ (.var 5) .non) (.cons (.ret (.bl false)) .nil) .nil) (.cons (s_unsolved_holds_0 I) (.cons (.ret (.cmp .ne (.idx (.call I.dot (.cons (.var 5) (.cons (.var 4) .nil))) (.int 0)) (.int 0))) .nil)))))) }
def F_Lset (I : Ix) : Fn := { name := "_law_set", names := ["values", "at", "value", "made"], mos := [.b, .d, .d], own := false, body :=
  (.cons (.setO 3 (.cal .list (.cons (.bor 0) .nil))) (.cons (.sto 3 (.var 1) (.var 2)) (.cons (.ret (.cal .tuple (.cons (.bor 3) .nil))) .nil))) }
def e_Lscaled_0 (I : Ix) : Ex := (.lc (.nm 2) [2] (.seq (.bor 1)) (.bl true) (.call I.Lby (.cons (.bor 0) (.cons (.var 2) .nil))))
def F_Lscaled (I : Ix) : Fn := { name := "_law_scaled", names := ["factor", "vector", "one"], mos := [.b, .b], own := false, body :=
  (.cons (.ret (.cal .tuple (.cons (e_Lscaled_0 I) .nil))) .nil) }
def e_Ladded_0 (I : Ix) : Ex := (.lc (.nm 2) [2] (.rng1 (.cal .len (.cons (.bor 0) .nil))) (.bl true) (.call I.Lplus (.cons (.idx (.bor 0) (.var 2)) (.cons (.idx (.bor 1) (.var 2)) .nil))))
def F_Ladded (I : Ix) : Fn := { name := "_law_added", names := ["left", "right", "k"], mos := [.b, .b], own := false, body :=
  (.cons (.ret (.cal .tuple (.cons (e_Ladded_0 I) .nil))) .nil) }
def e_Lzero_0 (I : Ix) : Ex := (.lc (.nm 1) [1] (.seq (.bor 0)) (.cmp .ne (.idx (.var 1) (.int 0)) (.int 0)) (.var 1))
def F_Lzero (I : Ix) : Fn := { name := "_law_zero", names := ["vector", "one"], mos := [.b], own := false, body :=
  (.cons (.ret (.cmp .eq (.cal .len (.cons (e_Lzero_0 I) .nil)) (.int 0))) .nil) }
def F_Lis_frac (I : Ix) : Fn := { name := "_law_is_frac", names := ["value"], mos := [.b], own := false, body :=
  (.cons (.ite (.or_ (.not_ (.isi (.bor 0) [.tuple])) (.cmp .ne (.cal .len (.cons (.bor 0) .nil)) (.int 2))) (.cons (.ret (.bl false)) .nil) .nil) (.cons (.ite (.or_ (.not_ (.call I.Lnumeric (.cons (.idx (.bor 0) (.int 0)) .nil))) (.not_ (.call I.Lnumeric (.cons (.idx (.bor 0) (.int 1)) .nil)))) (.cons (.ret (.bl false)) .nil) .nil) (.cons (.ret (.and_ (.cmp .gt (.idx (.bor 0) (.int 1)) (.int 0)) (.cmp .eq (.call I.Lgcd (.cons (.idx (.bor 0) (.int 0)) (.cons (.idx (.bor 0) (.int 1)) .nil))) (.int 1)))) .nil))) }
def e_Lis_vec_0 (I : Ix) : Ex := (.lc (.nm 2) [2] (.seq (.bor 0)) (.not_ (.call I.Lis_frac (.cons (.var 2) .nil))) (.var 2))
def F_Lis_vec (I : Ix) : Fn := { name := "_law_is_vec", names := ["value", "many", "one"], mos := [.b, .b], own := false, body :=
  (.cons (.ite (.or_ (.not_ (.isi (.bor 0) [.tuple])) (.cmp .ne (.cal .len (.cons (.bor 0) .nil)) (.bor 1))) (.cons (.ret (.bl false)) .nil) .nil) (.cons (.ret (.cmp .eq (.cal .len (.cons (e_Lis_vec_0 I) .nil)) (.int 0))) .nil)) }
def e_Lcombined_0 (I : Ix) : Ex := (.lc (.nm 4) [4] (.rng1 (.var 2)) (.bl true) (.tup (.cons (.int 0) (.cons (.int 1) .nil))))
def b_Lcombined_0 (I : Ix) : Sts := (.cons (.set 3 (.call I.Ladded (.cons (.var 3) (.cons (.call I.Lscaled (.cons (.idx (.bor 0) (.var 4)) (.cons (.idx (.bor 1) (.var 4)) .nil))) .nil)))) .nil)
def s_Lcombined_0 (I : Ix) : St := .for_ (.nm 4) (.rng1 (.cal .len (.cons (.bor 1) .nil))) (b_Lcombined_0 I)
def F_Lcombined (I : Ix) : Fn := { name := "_law_combined", names := ["shares", "rows", "many", "total", "k"], mos := [.b, .b, .d], own := false, body :=
  (.cons (.set 3 (.cal .tuple (.cons (e_Lcombined_0 I) .nil))) (.cons (s_Lcombined_0 I) (.cons (.ret (.var 3)) .nil))) }
def e_Lunsolves_0 (I : Ix) : Ex := (.lc (.nm 3) [3] (.seq (.bor 2)) (.not_ (.call I.Lis_num (.cons (.var 3) .nil))) (.var 3))
def e_Lunsolves_1 (I : Ix) : Ex := (.lc (.nm 3) [3] (.seq (.bor 2)) (.bl true) (.call I.Lnum (.cons (.var 3) .nil)))
def F_Lunsolves (I : Ix) : Fn := { name := "_law_unsolves", names := ["rows", "bounds", "paper", "one", "told"], mos := [.b, .b, .b], own := false, body :=
  (.cons (.ite (.or_ (.not_ (.isi (.bor 2) [.list, .tuple])) (.cmp .ne (.cal .len (.cons (.bor 2) .nil)) (.cal .len (.cons (.bor 0) .nil)))) (.cons (.ret (.bl false)) .nil) .nil) (.cons (.ite (.cmp .gt (.cal .len (.cons (e_Lunsolves_0 I) .nil)) (.int 0)) (.cons (.ret (.bl false)) .nil) .nil) (.cons (.set 4 (e_Lunsolves_1 I)) (.cons (.ite (.not_ (.call I.Lzero (.cons (.call I.Lcombined (.cons (.var 4) (.cons (.bor 0) (.cons (.cal .len (.cons (.idx (.bor 0) (.int 0)) .nil)) .nil)))) .nil))) (.cons (.ret (.bl false)) .nil) .nil) (.cons (.ret (.cmp .ne (.idx (.call I.Ldot (.cons (.cal .tuple (.cons (.var 4) .nil)) (.cons (.cal .tuple (.cons (.bor 1) .nil)) .nil))) (.int 0)) (.int 0))) .nil))))) }
def F_Lis_num (I : Ix) : Fn := { name := "_law_is_num", names := ["value"], mos := [.b], own := false, body :=
  (.cons (.ite (.call I.Lnumeric (.cons (.bor 0) .nil)) (.cons (.ret (.bl true)) .nil) .nil) (.cons (.ite (.or_ (.not_ (.isi (.bor 0) [.list, .tuple])) (.cmp .ne (.cal .len (.cons (.bor 0) .nil)) (.int 2))) (.cons (.ret (.bl false)) .nil) .nil) (.cons (.ite (.or_ (.not_ (.call I.Lnumeric (.cons (.idx (.bor 0) (.int 0)) .nil))) (.not_ (.call I.Lnumeric (.cons (.idx (.bor 0) (.int 1)) .nil)))) (.cons (.ret (.bl false)) .nil) .nil) (.cons (.ret (.cmp .gt (.idx (.bor 0) (.int 1)) (.int 0))) .nil)))) }
def e_determinant_of_0 (I : Ix) : Ex := (.lc (.nm 2) [2] (.seq (.bor 0)) (.bl true) (.cal .list (.cons (.var 2) .nil)))
def b_determinant_of_1 (I : Ix) : Sts := (.cons (.sto 1 (.var 8) (.call I.eliminated (.cons (.idx (.bor 1) (.var 8)) (.cons (.var 7) (.cons (.var 5) (.cons (.var 4) .nil)))))) .nil)
def s_determinant_of_1 (I : Ix) : St := .for_ (.nm 8) (.rng2 (.bin .add (.var 5) (.int 1)) (.cal .len (.cons (.bor 1) .nil))) (b_determinant_of_1 I)
def b_determinant_of_0 (I : Ix) : Sts := (.cons (.set 6 (.call I.first_filled (.cons (.bor 1) (.cons (.var 5) (.cons (.var 5) .nil))))) (.cons (.ite (.cmp .is_ (.var 6) .non) (.cons (.ret (.int 0)) .nil) .nil) (.cons (.ite (.cmp .ne (.var 6) (.var 5)) (.cons (.asgs [.sub 1 (.var 5), .sub 1 (.var 6)] (.cons (.idx (.bor 1) (.var 6)) (.cons (.idx (.bor 1) (.var 5)) .nil))) (.cons (.set 3 (.neg (.var 3))) .nil)) .nil) (.cons (.set 7 (.idx (.bor 1) (.var 5))) (.cons (s_determinant_of_1 I) (.cons (.set 4 (.idx (.var 7) (.var 5))) .nil))))))
def s_determinant_of_0 (I : Ix) : St := .for_ (.nm 5) (.rng1 (.cal .len (.cons (.bor 1) .nil))) (b_determinant_of_0 I)
def F_determinant_of (I : Ix) : Fn := { name := "determinant_of", names := ["rows", "work", "row", "sign", "bottom", "place", "found", "chosen", "at"], mos := [.b], own := false, body :=
  (.cons (.setO 1 (e_determinant_of_0 I)) (.cons (.par [(3, false), (4, false)] (.cons (.int 1) (.cons (.int 1) .nil))) (.cons (s_determinant_of_0 I) (.cons (.ret (.bin .mul (.var 3) (.var 4))) .nil)))) }
def F_square_needed (I : Ix) : Fn := { name := "square_needed", names := ["value", "at", "told"], mos := [.b, .d], own := false, body :=
  (.cons (.set 2 (.call I.rows_needed (.cons (.bor 0) (.cons (.var 1) .nil)))) (.cons (.ite (.cmp .ne (.cal .len (.cons (.var 2) .nil)) (.cal .len (.cons (.idx (.var 2) (.int 0)) .nil))) (.cons .never .nil) .nil) (.cons (.ret (.var 2)) .nil))) }
def b_determinant_0 (I : Ix) : Sts := (.cons (.unp (.tp (.nm 5) (.tp (.nm 6) .nl)) (.call I.shared (.cons (.var 4) .nil))) (.cons (.app 3 (.var 5)) (.cons (.set 2 (.bin .mul (.var 2) (.var 6))) .nil)))
def s_determinant_0 (I : Ix) : St := .for_ (.nm 4) (.seq (.var 1)) (b_determinant_0 I)
def F_determinant (I : Ix) : Fn := { name := "determinant", names := ["rows", "told", "bottom", "work", "row", "tops", "low"], mos := [.b], own := false, body :=
  (.cons (.set 1 (.call I.square_needed (.cons (.bor 0) (.cons (.int 1) .nil)))) (.cons (.set 2 (.int 1)) (.cons (.setO 3 (.lst .nil)) (.cons (s_determinant_0 I) (.cons (.ret (.call I.fraction (.cons (.call I.determinant_of (.cons (.bor 3) .nil)) (.cons (.var 2) .nil)))) .nil))))) }
def e_inverse_0 (I : Ix) : Ex := (.lc (.tp (.nm 4) (.tp (.nm 5) .nl)) [4, 5] (.enum (.var 1)) (.bl true) (.idx (.call I.shared (.cons (.bin .add (.var 5) (.call I.unit (.cons (.var 2) (.cons (.var 4) .nil)))) .nil)) (.int 0)))
def e_inverse_1 (I : Ix) : Ex := (.lc (.nm 5) [5] (.seq (.var 6)) (.bl true) (.call I.fractions_of (.cons (.slc (.var 5) (.var 2) .non) (.cons (.var 8) .nil))))
def F_inverse (I : Ix) : Fn := { name := "inverse", names := ["rows", "told", "size", "work", "at", "row", "stood", "pivots", "bottom"], mos := [.b], own := false, body :=
  (.cons (.set 1 (.call I.square_needed (.cons (.bor 0) (.cons (.int 1) .nil)))) (.cons (.set 2 (.cal .len (.cons (.var 1) .nil))) (.cons (.set 3 (e_inverse_0 I)) (.cons (.unp (.tp (.nm 6) (.tp (.nm 7) (.tp (.nm 8) .nl))) (.call I.reduced (.cons (.var 3) (.cons (.var 2) .nil)))) (.cons (.ite (.cmp .lt (.cal .len (.cons (.var 7) .nil)) (.var 2)) (.cons (.ret .non) .nil) .nil) (.cons (.ret (.cal .tuple (.cons (e_inverse_1 I) .nil))) .nil)))))) }
def e_Lare_vecs_0 (I : Ix) : Ex := (.lc (.nm 2) [2] (.seq (.bor 0)) (.not_ (.call I.Lis_vec (.cons (.var 2) (.cons (.bor 1) .nil)))) (.var 2))
def F_Lare_vecs (I : Ix) : Fn := { name := "_law_are_vecs", names := ["value", "many", "one"], mos := [.b, .b], own := false, body :=
  (.cons (.ite (.not_ (.isi (.bor 0) [.tuple])) (.cons (.ret (.bl false)) .nil) .nil) (.cons (.ret (.cmp .eq (.cal .len (.cons (e_Lare_vecs_0 I) .nil)) (.int 0))) .nil)) }
def e_Ldeterminant_0 (I : Ix) : Ex := (.lc (.nm 2) [2] (.seq (.bor 0)) (.bl true) (.cal .list (.cons (.var 2) .nil)))
def b_Ldeterminant_1 (I : Ix) : Sts := (.cons (.set 5 (.bin .add (.var 5) (.int 1))) .nil)
def c_Ldeterminant_1 (I : Ix) : Ex := (.and_ (.cmp .lt (.var 5) (.cal .len (.cons (.bor 1) .nil))) (.cmp .eq (.idx (.idx (.idx (.bor 1) (.var 5)) (.var 4)) (.int 0)) (.int 0)))
def s_Ldeterminant_1 (I : Ix) : St := .whl (c_Ldeterminant_1 I) (b_Ldeterminant_1 I)
def e_Ldeterminant_1 (I : Ix) : Ex := (.lc (.nm 9) [9] (.rng1 (.cal .len (.cons (.bor 1) .nil))) (.bl true) (.call I.Lminus (.cons (.idx (.idx (.bor 1) (.var 7)) (.var 9)) (.cons (.call I.Lby (.cons (.var 8) (.cons (.idx (.idx (.bor 1) (.var 4)) (.var 9)) .nil))) .nil))))
def b_Ldeterminant_2 (I : Ix) : Sts := (.cons (.set 8 (.call I.Lover (.cons (.idx (.idx (.bor 1) (.var 7)) (.var 4)) (.cons (.idx (.idx (.bor 1) (.var 4)) (.var 4)) .nil)))) (.cons (.sto 1 (.var 7) (e_Ldeterminant_1 I)) .nil))
def s_Ldeterminant_2 (I : Ix) : St := .for_ (.nm 7) (.rng2 (.bin .add (.var 4) (.int 1)) (.cal .len (.cons (.bor 1) .nil))) (b_Ldeterminant_2 I)
def b_Ldeterminant_0 (I : Ix) : Sts := (.cons (.set 5 (.var 4)) (.cons (s_Ldeterminant_1 I) (.cons (.ite (.cmp .eq (.var 5) (.cal .len (.cons (.bor 1) .nil))) (.cons (.ret (.tup (.cons (.int 0) (.cons (.int 1) .nil)))) .nil) .nil) (.cons (.ite (.cmp .ne (.var 5) (.var 4)) (.cons (.set 6 (.idx (.bor 1) (.var 5))) (.cons (.sto 1 (.var 5) (.idx (.bor 1) (.var 4))) (.cons (.sto 1 (.var 4) (.var 6)) (.cons (.set 3 (.call I.Lneg (.cons (.var 3) .nil))) .nil)))) .nil) (.cons (.set 3 (.call I.Lby (.cons (.var 3) (.cons (.idx (.idx (.bor 1) (.var 4)) (.var 4)) .nil)))) (.cons (s_Ldeterminant_2 I) .nil))))))
def s_Ldeterminant_0 (I : Ix) : St := .for_ (.nm 4) (.rng1 (.cal .len (.cons (.bor 1) .nil))) (b_Ldeterminant_0 I)
def F_Ldeterminant (I : Ix) : Fn := { name := "_law_determinant", names := ["rows", "left", "one", "made", "column", "at", "keep", "k", "factor", "j"], mos := [.b], own := false, body :=
  (.cons (.setO 1 (e_Ldeterminant_0 I)) (.cons (.set 3 (.tup (.cons (.int 1) (.cons (.int 1) .nil)))) (.cons (s_Ldeterminant_0 I) (.cons (.ret (.var 3)) .nil)))) }
def e_Lunit_0 (I : Ix) : Ex := (.lc (.nm 2) [2] (.rng1 (.var 0)) (.bl true) (.ife (.cmp .eq (.var 2) (.bor 1)) (.tup (.cons (.int 1) (.cons (.int 1) .nil))) (.tup (.cons (.int 0) (.cons (.int 1) .nil)))))
def F_Lunit (I : Ix) : Fn := { name := "_law_unit", names := ["many", "at", "k"], mos := [.d, .b], own := false, body :=
  (.cons (.ret (.cal .tuple (.cons (e_Lunit_0 I) .nil))) .nil) }
end Sm
end

section
set_option linter.all false
set_option autoImplicit false
set_option maxRecDepth 100000
/-! Ev: loops and comprehensions by values, once for all. -/
namespace Sm
open PySem
/-- a slot that may be stored -/
def Sl.free : Sl → Bool
  | .un => true | .dat _ => true | .own _ => true | .bor _ => true | _ => false
abbrev Fr (s : Sl) : Prop := s.free = true
theorem free_un : Sl.free .un = true := rfl
theorem free_dat {d : D} : Sl.free (.dat d) = true := rfl
theorem free_own {d : List D} : Sl.free (.own d) = true := rfl
theorem free_bor {d : D} : Sl.free (.bor d) = true := rfl
theorem Fr.un : Fr .un := rfl
theorem Fr.dat {d : D} : Fr (.dat d) := rfl
theorem Fr.own {d : List D} : Fr (.own d) := rfl
theorem put_free {i : Nat} {ρ : En} {s : Sl} (h : (ρ.getD i (.lk [])).free = true) : put i s ρ = .ok () (ρ.set i s) := by
  unfold put
  rw [List.getD_eq_getElem?_getD] at h
  cases e : ρ[i]? with
  | none => rw [e] at h; cases h
  | some t =>
    rw [e] at h
    cases t with
    | un => rfl
    | dat _ => rfl
    | own _ => rfl
    | bor _ => rfl
    | io _ => cases h
    | lk _ => cases h
    | lki _ => cases h
    | scr _ => cases h
theorem put_fr {i : Nat} {ρ : En} {s t : Sl} (e : ρ[i]? = some t) (h : Fr t) : put i s ρ = .ok () (ρ.set i s) := by
  refine put_free ?_
  rw [List.getD_eq_getElem?_getD, e]
  exact h
theorem rangeD_nat {n : Nat} : rangeD 0 1 n = (List.range n).map fun k : Nat => D.int (k : Int) := by
  unfold rangeD
  refine List.map_congr_left fun k _ => ?_
  rw [Int.mul_one, Int.zero_add]
/-- a for over things told by a: goes on, or hands back -/
theorem for_inv {α : Type} {tg : Tg} {body : En → Res Fl} (d : α → D) (R : D → En → Prop) : ∀ (l : List α) (J : Nat → En → Prop) {ρ : En}, J 0 ρ →
    (∀ (j : Nat) (a : α) (ρ : En), l[j]? = some a → J j ρ → (∃ f ρ', ((tg.put (d a) ρ).bind fun _ ρ => body ρ) = .ok f ρ' ∧ (f = .nx ∨ f = .ct) ∧ J (j + 1) ρ') ∨ ∃ x ρ', ((tg.put (d a) ρ).bind fun _ ρ => body ρ) = .ok (.rt x) ρ' ∧ R x ρ') →
    (∃ ρ', forLoop tg body (l.map d) ρ = .ok .nx ρ' ∧ J l.length ρ') ∨ ∃ x ρ', forLoop tg body (l.map d) ρ = .ok (.rt x) ρ' ∧ R x ρ'
  | [], J, ρ, h, _ => .inl ⟨ρ, rfl, h⟩
  | a :: l, J, ρ, h, st => by
    have e2 : forLoop tg body ((a :: l).map d) ρ = ((tg.put (d a) ρ).bind fun _ ρ => body ρ).bind fun f ρ => match f with
      | .nx => forLoop tg body (l.map d) ρ
      | .ct => forLoop tg body (l.map d) ρ
      | .bk => .ok .nx ρ
      | .rt d => .ok (.rt d) ρ := by
      rw [bind_assoc9]
      rfl
    rw [e2]
    rcases st 0 a ρ rfl h with ⟨f, ρ', e, hf, h1⟩ | ⟨x, ρ', e, h1⟩
    · rw [e]
      have rest := for_inv d R l (fun j => J (j + 1)) h1 fun j b ρ hb hj => st (j + 1) b ρ (by rw [List.getElem?_cons_succ]; exact hb) hj
      rcases hf with rfl | rfl
      · exact rest
      · exact rest
    · rw [e]
      exact .inr ⟨x, ρ', rfl, h1⟩
/-- a for whose turns all go on -/
theorem for_go {α : Type} {tg : Tg} {body : En → Res Fl} (d : α → D) (l : List α) (J : Nat → En → Prop) {ρ : En} (h : J 0 ρ)
    (st : ∀ (j : Nat) (a : α) (ρ : En), l[j]? = some a → J j ρ → ∃ f ρ', ((tg.put (d a) ρ).bind fun _ ρ => body ρ) = .ok f ρ' ∧ (f = .nx ∨ f = .ct) ∧ J (j + 1) ρ') :
    ∃ ρ', forLoop tg body (l.map d) ρ = .ok .nx ρ' ∧ J l.length ρ' := by
  rcases for_inv d (fun _ _ => False) l J h (fun j a ρ e hj => .inl (st j a ρ e hj)) with h | ⟨_, _, _, h⟩
  · exact h
  · exact h.elim
/-- a comprehension, in all -/
theorem lc_inv {α : Type} {tg : Tg} {own : List Nat} {cond : En → Res Bool} {elt : En → Res D} (d : α → D) : ∀ (l : List α) (J : Nat → List D → En → Prop) {acc : List D} {ρ : En}, J 0 acc ρ →
    (∀ (j : Nat) (a : α) (acc : List D) (ρ : En), l[j]? = some a → J j acc ρ → ∃ ρ1 b ρ2, tg.put (d a) ρ = .ok () ρ1 ∧ cond ρ1 = .ok b ρ2 ∧ (b = false → J (j + 1) acc (wipeE ρ2 own)) ∧ (b = true → ∃ x ρ3, elt ρ2 = .ok x ρ3 ∧ acc.length < sizeLine ∧ J (j + 1) (acc ++ [x]) (wipeE ρ3 own))) →
    ∃ acc' ρ', lcLoop tg own cond elt (l.map d) acc ρ = .ok acc' ρ' ∧ J l.length acc' ρ'
  | [], J, acc, ρ, h, _ => ⟨acc, ρ, rfl, h⟩
  | a :: l, J, acc, ρ, h, st => by
    obtain ⟨ρ1, b, ρ2, e1, e2, hf, ht⟩ := st 0 a acc ρ rfl h
    have e : lcLoop tg own cond elt ((a :: l).map d) acc ρ = (tg.put (d a) ρ).bind fun _ ρ => (cond ρ).bind fun b ρ => match b with
      | true => (elt ρ).bind fun x ρ => if acc.length < sizeLine then lcLoop tg own cond elt (l.map d) (acc ++ [x]) (wipeE ρ own) else .bad
      | false => lcLoop tg own cond elt (l.map d) acc (wipeE ρ own) := rfl
    rw [e, e1]
    show ∃ acc' ρ', ((cond ρ1).bind _) = _ ∧ _
    rw [e2]
    have st' : ∀ (j : Nat) (b : α) (acc : List D) (ρ : En), l[j]? = some b → J (j + 1) acc ρ → _ := fun j b acc ρ hb hj => st (j + 1) b acc ρ (by rw [List.getElem?_cons_succ]; exact hb) hj
    cases b with
    | false => exact lc_inv d l (fun j => J (j + 1)) (hf rfl) st'
    | true =>
      obtain ⟨x, ρ3, e3, hs, h3⟩ := ht rfl
      obtain ⟨acc', ρ', q1, q2⟩ := lc_inv d l (fun j => J (j + 1)) h3 st'
      refine ⟨acc', ρ', ?_, q2⟩
      show ((elt ρ2).bind _) = _
      rw [e3]
      show (if acc.length < sizeLine then _ else _) = _
      rw [if_pos hs]
      exact q1
/-- the expression that a comprehension is -/
theorem evE_lc {F : Nat → List Ar → FRes} {tg : Tg} {own : List Nat} {src : It} {cond elt : Ex} {ρ ρ1 ρ2 : En} {xs ys : List D} (h1 : evIt F src ρ = .ok xs ρ1) (h2 : ownFree ρ1 own = true)
    (h3 : lcLoop tg own (fun ρ => ((evE F cond ρ).bind fun d ρ => truthM d ρ).nox) (fun ρ => (evE F elt ρ).nox) xs [] (wipeE (lockE ρ1 src.locks) own) = .ok ys ρ2) :
    evE F (.lc tg own src cond elt) ρ = .ok (.lst ys) (backE (unlockE ρ2 ρ1 src.locks) ρ1 own) := by
  show ((evIt F src ρ).bind fun xs ρ => if ownFree ρ own = true then
      (lcLoop tg own (fun ρ => ((evE F cond ρ).bind fun d ρ => truthM d ρ).nox) (fun ρ => (evE F elt ρ).nox) xs [] (wipeE (lockE ρ src.locks) own)).bind fun ys ρ2 => .ok (D.lst ys) (backE (unlockE ρ2 ρ src.locks) ρ own) else .bad) = _
  rw [h1]
  show (if ownFree ρ1 own = true then _ else _) = _
  rw [if_pos h2, h3]
  rfl
/-- a comprehension that only looks: its elements by a filter and a map -/
theorem lc_fil {α : Type} {F : Nat → List Ar → FRes} {tg : Tg} {own : List Nat} {src : It} {cond elt : Ex} {ρ : En} (l : List α) (d g : α → D) (p : α → Bool) (h1 : evIt F src ρ = .ok (l.map d) ρ) (h2 : ownFree ρ own = true) (hs : l.length ≤ sizeLine)
    (h : ∀ a ∈ l, ∃ ρ1, tg.put (d a) (wipeE (lockE ρ src.locks) own) = .ok () ρ1 ∧ ((evE F cond ρ1).bind fun d ρ => truthM d ρ) = .ok (p a) ρ1 ∧ wipeE ρ1 own = wipeE (lockE ρ src.locks) own ∧ (p a = true → evE F elt ρ1 = .ok (g a) ρ1))
    (hb : backE (unlockE (wipeE (lockE ρ src.locks) own) ρ src.locks) ρ own = ρ) : evE F (.lc tg own src cond elt) ρ = .ok (.lst ((l.filter p).map g)) ρ := by
  generalize hw : wipeE (lockE ρ src.locks) own = ρ0 at h hb
  have key : ∀ (l' : List α) (acc : List D), (∀ a ∈ l', a ∈ l) → acc.length + l'.length ≤ sizeLine → lcLoop tg own (fun ρ => ((evE F cond ρ).bind fun d ρ => truthM d ρ).nox) (fun ρ => (evE F elt ρ).nox) (l'.map d) acc ρ0 = .ok (acc ++ (l'.filter p).map g) ρ0 := by
    intro l'
    induction l' with
    | nil => intro acc _ _; rw [List.filter_nil, List.map_nil (f := g), List.append_nil]; rfl
    | cons a l' ih =>
      intro acc ha hl
      rw [List.length_cons] at hl
      obtain ⟨ρ1, e1, e2, e3, e4⟩ := h a (ha a List.mem_cons_self)
      have e : lcLoop tg own (fun ρ => ((evE F cond ρ).bind fun d ρ => truthM d ρ).nox) (fun ρ => (evE F elt ρ).nox) ((a :: l').map d) acc ρ0 = (tg.put (d a) ρ0).bind fun _ ρ => (((evE F cond ρ).bind fun d ρ => truthM d ρ).nox).bind fun b ρ => match b with
        | true => ((evE F elt ρ).nox).bind fun x ρ => if acc.length < sizeLine then lcLoop tg own (fun ρ => ((evE F cond ρ).bind fun d ρ => truthM d ρ).nox) (fun ρ => (evE F elt ρ).nox) (l'.map d) (acc ++ [x]) (wipeE ρ own) else .bad
        | false => lcLoop tg own (fun ρ => ((evE F cond ρ).bind fun d ρ => truthM d ρ).nox) (fun ρ => (evE F elt ρ).nox) (l'.map d) acc (wipeE ρ own) := rfl
      rw [e, e1]
      show ((((evE F cond ρ1).bind fun d ρ => truthM d ρ).nox).bind _) = _
      rw [e2]
      cases hp : p a with
      | false =>
        show lcLoop tg own _ _ (l'.map d) acc (wipeE ρ1 own) = _
        rw [e3, ih acc (fun b hb => ha b (List.mem_cons_of_mem _ hb)) (by omega), List.filter_cons_of_neg (by rw [hp]; decide)]
      | true =>
        show (((evE F elt ρ1).nox).bind _) = _
        rw [e4 hp]
        show (if acc.length < sizeLine then _ else _) = _
        rw [if_pos (by omega), e3, ih (acc ++ [g a]) (fun b hb => ha b (List.mem_cons_of_mem _ hb)) (by rw [List.length_append, List.length_singleton]; omega), List.filter_cons_of_pos (by rw [hp]), List.map_cons, List.append_assoc, List.singleton_append]
  have := evE_lc (ρ := ρ) (cond := cond) (elt := elt) (tg := tg) (own := own) h1 h2 (by rw [hw]; exact key l [] (fun _ h => h) (by rw [List.length_nil]; omega))
  rw [this, hb, List.nil_append]
/-- .. by a map alone -/
theorem lc_map {α : Type} {F : Nat → List Ar → FRes} {tg : Tg} {own : List Nat} {src : It} {elt : Ex} {ρ : En} (l : List α) (d g : α → D) (h1 : evIt F src ρ = .ok (l.map d) ρ) (h2 : ownFree ρ own = true) (hs : l.length ≤ sizeLine)
    (h : ∀ a ∈ l, ∃ ρ1, tg.put (d a) (wipeE (lockE ρ src.locks) own) = .ok () ρ1 ∧ wipeE ρ1 own = wipeE (lockE ρ src.locks) own ∧ evE F elt ρ1 = .ok (g a) ρ1)
    (hb : backE (unlockE (wipeE (lockE ρ src.locks) own) ρ src.locks) ρ own = ρ) : evE F (.lc tg own src (.bl true) elt) ρ = .ok (.lst (l.map g)) ρ := by
  have := lc_fil (cond := .bl true) (elt := elt) (tg := tg) (own := own) l d g (fun _ => true) h1 h2 hs (fun a ha => by
    obtain ⟨ρ1, e1, e2, e3⟩ := h a ha
    exact ⟨ρ1, e1, rfl, e2, fun _ => e3⟩) hb
  rwa [List.filter_eq_self.mpr fun _ _ => rfl] at this
/-- a for as a statement -/
theorem for_st {F : Nat → List Ar → FRes} {t : Tg} {it : It} {b : Sts} {ρ ρ1 ρ2 : En} {xs : List D} {f : Fl} (h1 : evIt F it ρ = .ok xs ρ1) (h2 : forLoop t (evSs F b) xs (lockE ρ1 it.locks) = .ok f ρ2) : evS F (.for_ t it b) ρ = .ok f (unlockE ρ2 ρ1 it.locks) := by
  show ((evIt F it ρ).bind fun xs ρ => (forLoop t (evSs F b) xs (lockE ρ it.locks)).bind fun f ρ2 => .ok f (unlockE ρ2 ρ it.locks)) = _
  rw [h1]
  show ((forLoop t (evSs F b) xs (lockE ρ1 it.locks)).bind _) = _
  rw [h2]
  rfl
theorem le_size {n : Nat} (h : n ≤ 100) : n ≤ sizeLine := by
  have : (100 : Nat) ≤ sizeLine := by decide
  omega
theorem size0 : ((0 : Nat) ≤ sizeLine) = True := eq_true (le_size (by decide))
theorem size1 : ((1 : Nat) ≤ sizeLine) = True := eq_true (le_size (by decide))
theorem size2 : ((2 : Nat) ≤ sizeLine) = True := eq_true (le_size (by decide))
theorem size3 : ((3 : Nat) ≤ sizeLine) = True := eq_true (le_size (by decide))
theorem bi_int {i : Int} : Bi.ev .int_ [.int i] = some (.int i) := rfl
theorem bi_intb {b : Bool} : Bi.ev .int_ [.bl b] = some (.int (if b then 1 else 0)) := rfl
theorem bi_abs {i : Int} : Bi.ev .abs [.int i] = some (.int (if i < 0 then -i else i)) := rfl
theorem bi_tupl {ds : List D} : Bi.ev .tuple [.lst ds] = some (.tup ds) := rfl
theorem bi_tupt {ds : List D} : Bi.ev .tuple [.tup ds] = some (.tup ds) := rfl
theorem bi_lstl {ds : List D} : Bi.ev .list [.lst ds] = some (.lst ds) := rfl
theorem bi_lstt {ds : List D} : Bi.ev .list [.tup ds] = some (.lst ds) := rfl
theorem bi_gcd {a b : Int} : Bi.ev .gcd [.int a, .int b] = some (.int (Nat.gcd a.natAbs b.natAbs : Nat)) := rfl
theorem isN_n : D.isN .non = true := rfl
theorem isN_i {i : Int} : D.isN (.int i) = false := rfl
theorem isN_t {ds : List D} : D.isN (.tup ds) = false := rfl
theorem isN_l {ds : List D} : D.isN (.lst ds) = false := rfl
theorem isN_b {b : Bool} : D.isN (.bl b) = false := rfl
theorem items_t {ds : List D} : D.items (.tup ds) = some ds := rfl
theorem items_l {ds : List D} : D.items (.lst ds) = some ds := rfl
theorem divInt_one (a : Int) : Rat.divInt a 1 = (a : Rat) := by
  have := Rat.num_divInt_den (a : Rat)
  rwa [Rat.num_intCast, Rat.den_intCast] at this
/-- a for as a statement, what is locked told -/
theorem for_st2 {F : Nat → List Ar → FRes} {t : Tg} {it : It} {b : Sts} {ρ ρ1 ρL ρ2 ρ3 : En} {xs : List D} {f : Fl} (h1 : evIt F it ρ = .ok xs ρ1) (hL : lockE ρ1 it.locks = ρL) (h2 : forLoop t (evSs F b) xs ρL = .ok f ρ2) (hU : unlockE ρ2 ρ1 it.locks = ρ3) : evS F (.for_ t it b) ρ = .ok f ρ3 := by
  subst hL hU
  exact for_st h1 h2
theorem for_st3 {F : Nat → List Ar → FRes} {t : Tg} {it : It} {b : Sts} {ρ ρL ρ2 ρ3 : En} {xs : List D} {f : Fl} (h1 : evIt F it ρ = .ok xs ρ) (hL : lockE ρ it.locks = ρL) (h2 : forLoop t (evSs F b) xs ρL = .ok f ρ2) (hU : unlockE ρ2 ρ it.locks = ρ3) : evS F (.for_ t it b) ρ = .ok f ρ3 := by
  subst hL hU
  exact for_st h1 h2
theorem hof_bor {i : Nat} {m : En → Res D} {ρ : En} : evHof (.bor i) m ρ = (rdB i ρ).bind fun _ ρ => .ok (.b i) ρ := rfl
theorem hof_var {i : Nat} {m : En → Res D} {ρ : En} : evHof (.var i) m ρ = (m ρ).bind fun x ρ => .ok (.d x) ρ := rfl
theorem hof_non  {m : En → Res D} {ρ : En} : evHof .non m ρ = (m ρ).bind fun x ρ => .ok (.d x) ρ := rfl
theorem hof_bl {b : Bool} {m : En → Res D} {ρ : En} : evHof (.bl b) m ρ = (m ρ).bind fun x ρ => .ok (.d x) ρ := rfl
theorem hof_int {z : Int} {m : En → Res D} {ρ : En} : evHof (.int z) m ρ = (m ρ).bind fun x ρ => .ok (.d x) ρ := rfl
theorem hof_str {s : Str} {m : En → Res D} {ρ : En} : evHof (.str s) m ρ = (m ρ).bind fun x ρ => .ok (.d x) ρ := rfl
theorem hof_tup {es : Exs} {m : En → Res D} {ρ : En} : evHof (.tup es) m ρ = (m ρ).bind fun x ρ => .ok (.d x) ρ := rfl
theorem hof_lst {es : Exs} {m : En → Res D} {ρ : En} : evHof (.lst es) m ρ = (m ρ).bind fun x ρ => .ok (.d x) ρ := rfl
theorem hof_bin {o : Bop} {a b : Ex} {m : En → Res D} {ρ : En} : evHof (.bin o a b) m ρ = (m ρ).bind fun x ρ => .ok (.d x) ρ := rfl
theorem hof_neg {a : Ex} {m : En → Res D} {ρ : En} : evHof (.neg a) m ρ = (m ρ).bind fun x ρ => .ok (.d x) ρ := rfl
theorem hof_not {a : Ex} {m : En → Res D} {ρ : En} : evHof (.not_ a) m ρ = (m ρ).bind fun x ρ => .ok (.d x) ρ := rfl
theorem hof_cmp {o : Cop} {a b : Ex} {m : En → Res D} {ρ : En} : evHof (.cmp o a b) m ρ = (m ρ).bind fun x ρ => .ok (.d x) ρ := rfl
theorem hof_and {a b : Ex} {m : En → Res D} {ρ : En} : evHof (.and_ a b) m ρ = (m ρ).bind fun x ρ => .ok (.d x) ρ := rfl
theorem hof_or {a b : Ex} {m : En → Res D} {ρ : En} : evHof (.or_ a b) m ρ = (m ρ).bind fun x ρ => .ok (.d x) ρ := rfl
theorem hof_ife {c a b : Ex} {m : En → Res D} {ρ : En} : evHof (.ife c a b) m ρ = (m ρ).bind fun x ρ => .ok (.d x) ρ := rfl
theorem hof_idx {a i : Ex} {m : En → Res D} {ρ : En} : evHof (.idx a i) m ρ = (m ρ).bind fun x ρ => .ok (.d x) ρ := rfl
theorem hof_slc {a l h : Ex} {m : En → Res D} {ρ : En} : evHof (.slc a l h) m ρ = (m ρ).bind fun x ρ => .ok (.d x) ρ := rfl
theorem hof_slcS {i : Nat} {l h : Ex} {m : En → Res D} {ρ : En} : evHof (.slcS i l h) m ρ = (m ρ).bind fun x ρ => .ok (.d x) ρ := rfl
theorem hof_call {f : Nat} {es : Exs} {m : En → Res D} {ρ : En} : evHof (.call f es) m ρ = (m ρ).bind fun x ρ => .ok (.d x) ρ := rfl
theorem hof_cal {f : Bi} {es : Exs} {m : En → Res D} {ρ : En} : evHof (.cal f es) m ρ = (m ρ).bind fun x ρ => .ok (.d x) ρ := rfl
theorem hof_isi {a : Ex} {ts : List Ty} {m : En → Res D} {ρ : En} : evHof (.isi a ts) m ρ = (m ρ).bind fun x ρ => .ok (.d x) ρ := rfl
theorem hof_lc {tg : Tg} {own : List Nat} {src : It} {cond elt : Ex} {m : En → Res D} {ρ : En} : evHof (.lc tg own src cond elt) m ρ = (m ρ).bind fun x ρ => .ok (.d x) ρ := rfl
theorem add_ii {a b : Int} : D.add (.int a) (.int b) = some (.int (a + b)) := rfl
theorem add_tt {a b : List D} : D.add (.tup a) (.tup b) = if a.length + b.length ≤ sizeLine then some (.tup (a ++ b)) else none := rfl
theorem add_ll {a b : List D} : D.add (.lst a) (.lst b) = if a.length + b.length ≤ sizeLine then some (.lst (a ++ b)) else none := rfl
theorem sub_ii {a b : Int} : D.sub (.int a) (.int b) = some (.int (a - b)) := rfl
theorem neg_ii {a : Int} : D.neg (.int a) = some (.int (-a)) := rfl
theorem as_nil {F : Nat → List Ar → FRes} {ρ : En} : evAs F .nil ρ = .ok [] ρ := rfl
theorem as_io {F : Nat → List Ar → FRes} {i : Nat} {r : Exs} {ρ : En} : evAs F (.cons (.io i) r) ρ = (rdO i ρ).bind fun _ ρ => (evAs F r ρ).bind fun xs ρ => .ok (.o i :: xs) ρ := rfl
theorem as_scr {F : Nat → List Ar → FRes} {i : Nat} {r : Exs} {ρ : En} : evAs F (.cons (.scr i) r) ρ = (rdS i ρ).bind fun _ ρ => (evAs F r ρ).bind fun xs ρ => .ok (.s i :: xs) ρ := rfl
theorem as_bor {i : Nat} {F : Nat → List Ar → FRes} {r : Exs} {ρ : En} : evAs F (.cons (.bor i) r) ρ = (evHof (.bor i) (evE F (.bor i)) ρ).bind fun h ρ => (evAs F r ρ).bind fun xs ρ => .ok (h :: xs) ρ := rfl
theorem as_var {i : Nat} {F : Nat → List Ar → FRes} {r : Exs} {ρ : En} : evAs F (.cons (.var i) r) ρ = (evHof (.var i) (evE F (.var i)) ρ).bind fun h ρ => (evAs F r ρ).bind fun xs ρ => .ok (h :: xs) ρ := rfl
theorem as_non  {F : Nat → List Ar → FRes} {r : Exs} {ρ : En} : evAs F (.cons .non r) ρ = (evHof .non (evE F .non) ρ).bind fun h ρ => (evAs F r ρ).bind fun xs ρ => .ok (h :: xs) ρ := rfl
theorem as_bl {b : Bool} {F : Nat → List Ar → FRes} {r : Exs} {ρ : En} : evAs F (.cons (.bl b) r) ρ = (evHof (.bl b) (evE F (.bl b)) ρ).bind fun h ρ => (evAs F r ρ).bind fun xs ρ => .ok (h :: xs) ρ := rfl
theorem as_int {z : Int} {F : Nat → List Ar → FRes} {r : Exs} {ρ : En} : evAs F (.cons (.int z) r) ρ = (evHof (.int z) (evE F (.int z)) ρ).bind fun h ρ => (evAs F r ρ).bind fun xs ρ => .ok (h :: xs) ρ := rfl
theorem as_str {s : Str} {F : Nat → List Ar → FRes} {r : Exs} {ρ : En} : evAs F (.cons (.str s) r) ρ = (evHof (.str s) (evE F (.str s)) ρ).bind fun h ρ => (evAs F r ρ).bind fun xs ρ => .ok (h :: xs) ρ := rfl
theorem as_tup {es : Exs} {F : Nat → List Ar → FRes} {r : Exs} {ρ : En} : evAs F (.cons (.tup es) r) ρ = (evHof (.tup es) (evE F (.tup es)) ρ).bind fun h ρ => (evAs F r ρ).bind fun xs ρ => .ok (h :: xs) ρ := rfl
theorem as_lst {es : Exs} {F : Nat → List Ar → FRes} {r : Exs} {ρ : En} : evAs F (.cons (.lst es) r) ρ = (evHof (.lst es) (evE F (.lst es)) ρ).bind fun h ρ => (evAs F r ρ).bind fun xs ρ => .ok (h :: xs) ρ := rfl
theorem as_bin {o : Bop} {a b : Ex} {F : Nat → List Ar → FRes} {r : Exs} {ρ : En} : evAs F (.cons (.bin o a b) r) ρ = (evHof (.bin o a b) (evE F (.bin o a b)) ρ).bind fun h ρ => (evAs F r ρ).bind fun xs ρ => .ok (h :: xs) ρ := rfl
theorem as_neg {a : Ex} {F : Nat → List Ar → FRes} {r : Exs} {ρ : En} : evAs F (.cons (.neg a) r) ρ = (evHof (.neg a) (evE F (.neg a)) ρ).bind fun h ρ => (evAs F r ρ).bind fun xs ρ => .ok (h :: xs) ρ := rfl
theorem as_not {a : Ex} {F : Nat → List Ar → FRes} {r : Exs} {ρ : En} : evAs F (.cons (.not_ a) r) ρ = (evHof (.not_ a) (evE F (.not_ a)) ρ).bind fun h ρ => (evAs F r ρ).bind fun xs ρ => .ok (h :: xs) ρ := rfl
theorem as_cmp {o : Cop} {a b : Ex} {F : Nat → List Ar → FRes} {r : Exs} {ρ : En} : evAs F (.cons (.cmp o a b) r) ρ = (evHof (.cmp o a b) (evE F (.cmp o a b)) ρ).bind fun h ρ => (evAs F r ρ).bind fun xs ρ => .ok (h :: xs) ρ := rfl
theorem as_and {a b : Ex} {F : Nat → List Ar → FRes} {r : Exs} {ρ : En} : evAs F (.cons (.and_ a b) r) ρ = (evHof (.and_ a b) (evE F (.and_ a b)) ρ).bind fun h ρ => (evAs F r ρ).bind fun xs ρ => .ok (h :: xs) ρ := rfl
theorem as_or {a b : Ex} {F : Nat → List Ar → FRes} {r : Exs} {ρ : En} : evAs F (.cons (.or_ a b) r) ρ = (evHof (.or_ a b) (evE F (.or_ a b)) ρ).bind fun h ρ => (evAs F r ρ).bind fun xs ρ => .ok (h :: xs) ρ := rfl
theorem as_ife {c a b : Ex} {F : Nat → List Ar → FRes} {r : Exs} {ρ : En} : evAs F (.cons (.ife c a b) r) ρ = (evHof (.ife c a b) (evE F (.ife c a b)) ρ).bind fun h ρ => (evAs F r ρ).bind fun xs ρ => .ok (h :: xs) ρ := rfl
theorem as_idx {a i : Ex} {F : Nat → List Ar → FRes} {r : Exs} {ρ : En} : evAs F (.cons (.idx a i) r) ρ = (evHof (.idx a i) (evE F (.idx a i)) ρ).bind fun h ρ => (evAs F r ρ).bind fun xs ρ => .ok (h :: xs) ρ := rfl
theorem as_slc {a l h : Ex} {F : Nat → List Ar → FRes} {r : Exs} {ρ : En} : evAs F (.cons (.slc a l h) r) ρ = (evHof (.slc a l h) (evE F (.slc a l h)) ρ).bind fun h ρ => (evAs F r ρ).bind fun xs ρ => .ok (h :: xs) ρ := rfl
theorem as_slcS {i : Nat} {l h : Ex} {F : Nat → List Ar → FRes} {r : Exs} {ρ : En} : evAs F (.cons (.slcS i l h) r) ρ = (evHof (.slcS i l h) (evE F (.slcS i l h)) ρ).bind fun h ρ => (evAs F r ρ).bind fun xs ρ => .ok (h :: xs) ρ := rfl
theorem as_call {f : Nat} {es : Exs} {F : Nat → List Ar → FRes} {r : Exs} {ρ : En} : evAs F (.cons (.call f es) r) ρ = (evHof (.call f es) (evE F (.call f es)) ρ).bind fun h ρ => (evAs F r ρ).bind fun xs ρ => .ok (h :: xs) ρ := rfl
theorem as_cal {f : Bi} {es : Exs} {F : Nat → List Ar → FRes} {r : Exs} {ρ : En} : evAs F (.cons (.cal f es) r) ρ = (evHof (.cal f es) (evE F (.cal f es)) ρ).bind fun h ρ => (evAs F r ρ).bind fun xs ρ => .ok (h :: xs) ρ := rfl
theorem as_isi {a : Ex} {ts : List Ty} {F : Nat → List Ar → FRes} {r : Exs} {ρ : En} : evAs F (.cons (.isi a ts) r) ρ = (evHof (.isi a ts) (evE F (.isi a ts)) ρ).bind fun h ρ => (evAs F r ρ).bind fun xs ρ => .ok (h :: xs) ρ := rfl
theorem as_lc {tg : Tg} {own : List Nat} {src : It} {cond elt : Ex} {F : Nat → List Ar → FRes} {r : Exs} {ρ : En} : evAs F (.cons (.lc tg own src cond elt) r) ρ = (evHof (.lc tg own src cond elt) (evE F (.lc tg own src cond elt)) ρ).bind fun h ρ => (evAs F r ρ).bind fun xs ρ => .ok (h :: xs) ρ := rfl
/-- a comprehension that has a name of its own -/
theorem as_lce {e : Ex} {tg : Tg} {own : List Nat} {src : It} {cond elt : Ex} (he : e = .lc tg own src cond elt) {F : Nat → List Ar → FRes} {r : Exs} {ρ : En} : evAs F (.cons e r) ρ = ((evE F e ρ).bind fun x ρ => .ok (.d x) ρ).bind fun h ρ => (evAs F r ρ).bind fun xs ρ => .ok (h :: xs) ρ := by subst he; rfl
theorem hof_lce {e : Ex} {tg : Tg} {own : List Nat} {src : It} {cond elt : Ex} (he : e = .lc tg own src cond elt) {m : En → Res D} {ρ : En} : evHof e m ρ = (m ρ).bind fun x ρ => .ok (.d x) ρ := by subst he; rfl
theorem ty_int_obj {c : Str} {l : List D} : Ty.int.has (.obj c l) = false := rfl
theorem ty_bool_obj {c : Str} {l : List D} : Ty.bool.has (.obj c l) = false := rfl
theorem ty_str_obj {c : Str} {l : List D} : Ty.str.has (.obj c l) = false := rfl
theorem ty_list_obj {c : Str} {l : List D} : Ty.list.has (.obj c l) = false := rfl
theorem ty_tuple_obj {c : Str} {l : List D} : Ty.tuple.has (.obj c l) = false := rfl
theorem ty_cls_non {c : Str} : (Ty.cls c).has .non = false := rfl
theorem ty_cls_bl {c : Str} {b : Bool} : (Ty.cls c).has (.bl b) = false := rfl
theorem ty_cls_int {c : Str} {i : Int} : (Ty.cls c).has (.int i) = false := rfl
theorem ty_cls_str {c : Str} {s : Str} : (Ty.cls c).has (.str s) = false := rfl
theorem ty_cls_tup {c : Str} {l : List D} : (Ty.cls c).has (.tup l) = false := rfl
theorem ty_cls_lst {c : Str} {l : List D} : (Ty.cls c).has (.lst l) = false := rfl
theorem ty_cls_obj {c c' : Str} {l : List D} : (Ty.cls c).has (.obj c' l) = (c == c') := rfl
theorem ty_int_non : Ty.int.has .non = false := rfl
theorem ty_int_bl {b : Bool} : Ty.int.has (.bl b) = true := rfl
theorem ty_int_int {i : Int} : Ty.int.has (.int i) = true := rfl
theorem ty_int_str {s : Str} : Ty.int.has (.str s) = false := rfl
theorem ty_int_tup {l : List D} : Ty.int.has (.tup l) = false := rfl
theorem ty_int_lst {l : List D} : Ty.int.has (.lst l) = false := rfl
theorem ty_bool_non : Ty.bool.has .non = false := rfl
theorem ty_bool_bl {b : Bool} : Ty.bool.has (.bl b) = true := rfl
theorem ty_bool_int {i : Int} : Ty.bool.has (.int i) = false := rfl
theorem ty_bool_str {s : Str} : Ty.bool.has (.str s) = false := rfl
theorem ty_bool_tup {l : List D} : Ty.bool.has (.tup l) = false := rfl
theorem ty_bool_lst {l : List D} : Ty.bool.has (.lst l) = false := rfl
theorem ty_str_non : Ty.str.has .non = false := rfl
theorem ty_str_bl {b : Bool} : Ty.str.has (.bl b) = false := rfl
theorem ty_str_int {i : Int} : Ty.str.has (.int i) = false := rfl
theorem ty_str_str {s : Str} : Ty.str.has (.str s) = true := rfl
theorem ty_str_tup {l : List D} : Ty.str.has (.tup l) = false := rfl
theorem ty_str_lst {l : List D} : Ty.str.has (.lst l) = false := rfl
theorem ty_list_non : Ty.list.has .non = false := rfl
theorem ty_list_bl {b : Bool} : Ty.list.has (.bl b) = false := rfl
theorem ty_list_int {i : Int} : Ty.list.has (.int i) = false := rfl
theorem ty_list_str {s : Str} : Ty.list.has (.str s) = false := rfl
theorem ty_list_tup {l : List D} : Ty.list.has (.tup l) = false := rfl
theorem ty_list_lst {l : List D} : Ty.list.has (.lst l) = true := rfl
theorem ty_tuple_non : Ty.tuple.has .non = false := rfl
theorem ty_tuple_bl {b : Bool} : Ty.tuple.has (.bl b) = false := rfl
theorem ty_tuple_int {i : Int} : Ty.tuple.has (.int i) = false := rfl
theorem ty_tuple_str {s : Str} : Ty.tuple.has (.str s) = false := rfl
theorem ty_tuple_tup {l : List D} : Ty.tuple.has (.tup l) = true := rfl
theorem ty_tuple_lst {l : List D} : Ty.tuple.has (.lst l) = false := rfl
theorem list_ext {u v : List Rat} (hl : u.length = v.length) (h : ∀ c, c < u.length → u.getD c 0 = v.getD c 0) : u = v := by
  refine List.ext_getElem hl fun c h1 h2 => ?_
  have := h c h1
  simpa only [List.getD_eq_getElem?_getD, List.getElem?_eq_getElem h1, List.getElem?_eq_getElem h2, Option.getD_some] using this
theorem ap_nil : apart [] = true := rfl
theorem ap1 {x : D} : apart [.d x] = true := rfl
theorem ap2 {x y : D} : apart [.d x, .d y] = true := rfl
theorem ap3 {x y z : D} : apart [.d x, .d y, .d z] = true := rfl
theorem ap4 {x y z w : D} : apart [.d x, .d y, .d z, .d w] = true := rfl
theorem ap_b {i : Nat} {x : D} : apart [.b i x] = true := rfl
theorem ap_bb {i j : Nat} {x y : D} : apart [.b i x, .b j y] = true := rfl
theorem ap_bd {i : Nat} {x y : D} : apart [.b i x, .d y] = true := rfl
theorem ap_db {i : Nat} {x y : D} : apart [.d y, .b i x] = true := rfl
theorem ap_bdd {i : Nat} {x y z : D} : apart [.b i x, .d y, .d z] = true := rfl
theorem ap_dbd {i : Nat} {x y z : D} : apart [.d y, .b i x, .d z] = true := rfl
theorem ap_dbdd {i : Nat} {x y z w : D} : apart [.d y, .b i x, .d z, .d w] = true := rfl
theorem ap_bbd {i j : Nat} {x y z : D} : apart [.b i x, .b j y, .d z] = true := rfl
theorem ap_ddbd {i : Nat} {x y z w : D} : apart [.d x, .d y, .b i z, .d w] = true := rfl
theorem ap_dbb {i j : Nat} {x y z : D} : apart [.d z, .b i x, .b j y] = true := rfl
theorem ap_ddb {i : Nat} {x y z : D} : apart [.d x, .d y, .b i z] = true := rfl
theorem ap_bdb {i j : Nat} {x y z : D} : apart [.b i x, .d y, .b j z] = true := rfl
theorem ap_bddb {i j : Nat} {x y z w : D} : apart [.b i x, .d y, .d z, .b j w] = true := rfl
theorem ap_bddbd {i j : Nat} {x y z w v : D} : apart [.b i x, .d y, .d z, .b j w, .d v] = true := rfl
theorem ap_s {x : List D} : apart [.s x] = true := rfl
theorem ap_o {i j : Nat} {x : D} {ds : List D} (h : (i == j) = false) : apart [.b i x, .o j ds] = true := by
  have : j ≠ i := by have := ne_of_beq_false h; omega
  show (decide ([j] : List Nat).Nodup && (decide (j ∉ [i]) && true && (!false || false))) = true
  simp [this]
theorem ap_bo {i j : Nat} {x y : D} {ds : List D} (h : (i == j) = false) : apart [.b i x, .o j ds, .d y] = true := by
  have : j ≠ i := by have := ne_of_beq_false h; omega
  show (decide ([j] : List Nat).Nodup && (decide (j ∉ [i]) && true && (!false || false))) = true
  simp [this]
theorem ap_bodd {i j : Nat} {x y z : D} {ds : List D} (h : (i == j) = false) : apart [.b i x, .o j ds, .d y, .d z] = true := by
  have : j ≠ i := by have := ne_of_beq_false h; omega
  show (decide ([j] : List Nat).Nodup && (decide (j ∉ [i]) && true && (!false || false))) = true
  simp [this]
theorem ap_boddd {i j : Nat} {x y z w : D} {ds : List D} (h : (i == j) = false) : apart [.b i x, .o j ds, .d y, .d z, .d w] = true := by
  have : j ≠ i := by have := ne_of_beq_false h; omega
  show (decide ([j] : List Nat).Nodup && (decide (j ∉ [i]) && true && (!false || false))) = true
  simp [this]
theorem ap_do {j : Nat} {x y : D} {ds : List D} : apart [.d x, .o j ds, .d y] = true := by
  show (decide ([j] : List Nat).Nodup && (true && (!false || false))) = true
  simp
theorem ap_dodd {j : Nat} {x y z : D} {ds : List D} : apart [.d x, .o j ds, .d y, .d z] = true := by
  show (decide ([j] : List Nat).Nodup && (true && (!false || false))) = true
  simp
theorem ap_doddd {j : Nat} {x y z w : D} {ds : List D} : apart [.d x, .o j ds, .d y, .d z, .d w] = true := by
  show (decide ([j] : List Nat).Nodup && (true && (!false || false))) = true
  simp
theorem len_tup {ds : List D} : Bi.ev .len [.tup ds] = some (.int ds.length) := rfl
theorem len_lst {ds : List D} : Bi.ev .len [.lst ds] = some (.int ds.length) := rfl
theorem bool_tt {b : Bool} : (match b with | true => true | false => false) = b := by cases b <;> rfl
theorem idx_lst {ds : List D} {k : Nat} {d : D} (h : ds[k]? = some d) : D.idx (.lst ds) (.int (k : Int)) = some d := idx_tup h
theorem idx0l {x : D} {r : List D} : D.idx (.lst (x :: r)) (.int 0) = some x := by
  show L2.atI (x :: r) 0 = some x
  rw [atI_in (by decide) (by rw [List.length_cons]; omega)]
  rfl
theorem idx0t {x : D} {r : List D} : D.idx (.tup (x :: r)) (.int 0) = some x := idx0l
theorem idx1l {x y : D} {r : List D} : D.idx (.lst (x :: y :: r)) (.int 1) = some y := by
  show L2.atI (x :: y :: r) 1 = some y
  rw [atI_in (by decide) (by rw [List.length_cons, List.length_cons]; omega)]
  rfl
theorem idx1t {x y : D} {r : List D} : D.idx (.tup (x :: y :: r)) (.int 1) = some y := idx1l
theorem dif_t {x y : Bool} : (x && y) = (if x = true then y else false) := by cases x <;> rfl
/-- the rules by which a text is read off, in one word: simp! [..] -/
theorem nat_pos_eq {n : Nat} (h : 0 < n) : ((n : Int) == 0) = false := by
  rw [beq_eq_false_iff_ne]
  omega
end Sm
end

section
set_option linter.all false
set_option autoImplicit false
set_option maxRecDepth 100000
/-! W1: the program reads numbers. -/
namespace Sm
open PySem
local macro_rules | `(tactic| simp! [$ls,*]) => `(tactic| simp only [evSs, evS, evE, evEs, as_nil, as_io, as_scr, as_bor, as_var, as_non, as_bl, as_int, as_str, as_tup, as_lst, as_bin, as_neg, as_not, as_cmp, as_and, as_or, as_ife, as_idx, as_slc, as_slcS, as_call, as_cal, as_isi, as_lc, hof_bor, hof_var, hof_non, hof_bl, hof_int, hof_str, hof_tup, hof_lst, hof_bin, hof_neg, hof_not, hof_cmp, hof_and, hof_or, hof_ife, hof_idx, hof_slc, hof_slcS, hof_call, hof_cal, hof_isi, hof_lc, evPof, evIt, Res.bind, rdB, rdE, rdO, rdS, Hd.look, opt, Sl.see, List.getElem?_cons_zero, List.getElem?_cons_succ, List.getD_cons_zero, List.getD_cons_succ, len_tup, len_lst, bi_int, bi_intb, bi_abs, bi_tupl, bi_tupt, bi_lstl, bi_lstt, bi_gcd, Cop.ev, Bop.ev, add_ii, add_tt, add_ll, sub_ii, neg_ii, D.ltI, isN_n, isN_i, isN_t, isN_l, isN_b, items_t, items_l, eqv_int, truthM, D.truth, nx, put_free, free_un, free_dat, free_own, free_bor, chg, List.set, asListO, It.locks, Ex.lock, Sl.lock, Sl.unlock, lockE, unlockE, wipeE, backE, fillA, callM, ioBack, iosOf, Option.map_some, if_true, List.length_cons, List.length_nil, List.replicate, List.cons_append, List.nil_append, List.append_nil, Nat.zero_add, List.any_cons, List.any_nil, ty_int_obj, ty_bool_obj, ty_str_obj, ty_list_obj, ty_tuple_obj, ty_cls_non, ty_cls_bl, ty_cls_int, ty_cls_str, ty_cls_tup, ty_cls_lst, ty_cls_obj, ty_int_non, ty_int_bl, ty_int_int, ty_int_str, ty_int_tup, ty_int_lst, ty_bool_non, ty_bool_bl, ty_bool_int, ty_bool_str, ty_bool_tup, ty_bool_lst, ty_str_non, ty_str_bl, ty_str_int, ty_str_str, ty_str_tup, ty_str_lst, ty_list_non, ty_list_bl, ty_list_int, ty_list_str, ty_list_tup, ty_list_lst, ty_tuple_non, ty_tuple_bl, ty_tuple_int, ty_tuple_str, ty_tuple_tup, ty_tuple_lst, Bool.or_false, Bool.false_or, Bool.not_true, Bool.not_false, Bool.true_or, Bool.or_true, ap_nil, ap1, ap2, ap3, ap4, ap_b, ap_bb, ap_bd, ap_db, ap_bdd, ap_dbd, ap_dbdd, ap_bbd, ap_ddbd, ap_dbb, ap_ddb, ap_bdb, ap_bddb, ap_bddbd, ap_s, ap_do, ap_dodd, ap_doddd, idx0l, idx0t, idx1l, idx1t, Nat.reduceAdd, Nat.reduceSub, Nat.reduceLeDiff, List.drop, Tg.put, intP, frzE, beq_self_eq_true, size1, size2, size0, $ls,*])
/-- a number as the program reads it -/
inductive RdN (k : Nat) : D → Rat → Prop where
  | int (a : Int) : RdN k (.int a) (a : Rat)
  | tup (a b : Int) (h : 0 < b) (hk : b.natAbs < 2 ^ k) : RdN k (.tup [.int a, .int b]) (Rat.divInt a b)
  | lst (a b : Int) (h : 0 < b) (hk : b.natAbs < 2 ^ k) : RdN k (.lst [.int a, .int b]) (Rat.divInt a b)
def RdV (k : Nat) (d : D) (v : List Rat) : Prop := ∃ l : List (D × Rat), (d = .tup (l.map Prod.fst) ∨ d = .lst (l.map Prod.fst)) ∧ v = l.map Prod.snd ∧ ∀ p ∈ l, RdN k p.1 p.2
def RdR (k : Nat) (d : D) (M : List (List Rat)) : Prop := ∃ l : List (D × List Rat), (d = .tup (l.map Prod.fst) ∨ d = .lst (l.map Prod.fst)) ∧ M = l.map Prod.snd ∧ ∀ p ∈ l, RdV k p.1 p.2
/-- a vector, rows of vectors, as the program and the law hold them -/
def vd (v : List Rat) : D := .tup (v.map fr)
def md (M : List (List Rat)) : D := .tup (M.map vd)
structure HNum (T : List Fn) (I : Ix) : Prop where
  is_whole : T[I.is_whole]? = some (F_is_whole I)
  is_row : T[I.is_row]? = some (F_is_row I)
  is_number : T[I.is_number]? = some (F_is_number I)
  fraction : T[I.fraction]? = some (F_fraction I)
  number_read : T[I.number_read]? = some (F_number_read I)
  vector_read : T[I.vector_read]? = some (F_vector_read I)
structure HChk (T : List Fn) (I : Ix) : Prop extends HNum T I where
  vector_needed : T[I.vector_needed]? = some (F_vector_needed I)
  vectors_needed : T[I.vectors_needed]? = some (F_vectors_needed I)
  rows_needed : T[I.rows_needed]? = some (F_rows_needed I)
section
variable {T : List Fn} {I : Ix} {n : Nat}
theorem entry_b1 {a : Ar} {x : D} (h : ArB a x) : entry [.b] [a] = some [.bor x] := by rw [entry_b h]; rfl
theorem entry_bd {a : Ar} {x y : D} (h : ArB a x) : entry [.b, .d] [a, .d y] = some [.bor x, .dat y] := by rw [entry_b h]; rfl
theorem arB {k : Nat} {x : D} : ArB (.b k x) x := .inr ⟨k, rfl⟩
theorem arD {x : D} : ArB (.d x) x := .inl rfl
theorem is_whole_ok (H : HNum T I) {a : Ar} {x : Int} (ha : ArB a (.int x)) : evF T (n + 1) I.is_whole [a] = .ok (.bl true) [] := by
  rw [run_eq H.is_whole (entry_b1 ha)]
  simp! [F_is_whole]
def D.isRow : D → Bool
  | .tup _ => true | .lst _ => true | _ => false
theorem is_row_ok (H : HNum T I) {a : Ar} {x : D} (ha : ArB a x) : evF T (n + 1) I.is_row [a] = .ok (.bl x.isRow) [] := by
  rw [run_eq H.is_row (entry_b1 ha)]
  cases x <;> simp! [F_is_row, D.isRow]
theorem fr_int (a : Int) : fr (a : Rat) = .tup [.int a, .int 1] := rfl
theorem fraction_ok (H : HNum T I) {a b : Int} {k : Nat} (hb : b ≠ 0) (hk : b.natAbs < 2 ^ k) (hk2 : k ≤ 9000) : evF T (n + 1) I.fraction [.d (.int a), .d (.int b)] = .ok (fr (Rat.divInt a b)) [] := by
  have he : entry (F_fraction I).mos [.d (.int a), .d (.int b)] = some [.dat (.int a), .dat (.int b)] := rfl
  rw [run_eq H.fraction he]
  by_cases h1 : b = 1
  · subst h1
    rw [divInt_one, fr_int]
    simp! [F_fraction, beq_self_eq_true, if_pos (show (2 : Nat) ≤ sizeLine by decide)]
  · have h1' : (b == 1) = false := by simpa using h1
    obtain ⟨q1, q2⟩ := frac_eq (a := a) hb
    have g0 : 0 < Int.gcd a b := Int.gcd_pos_of_ne_zero_right a hb
    have gl : Int.gcd a b < 2 ^ k := Nat.lt_of_le_of_lt (Nat.le_of_dvd (by omega) (Nat.gcd_dvd_right a.natAbs b.natAbs)) hk
    have ge : Nat.gcd a.natAbs b.natAbs = Int.gcd a b := rfl
    by_cases hn : b < 0
    · rw [if_pos hn] at q1 q2
      have f1 : ∀ x : Int, D.fdiv (.int x) (.int (-(Int.gcd a b : Int))) = some (.int (x.fdiv (-(Int.gcd a b : Int)))) := fun x => fdiv_small (by omega) (k := k) (by rw [Int.natAbs_neg, Int.natAbs_natCast]; exact gl) (by omega)
      simp! [F_fraction, h1', ge, decide_eq_true hn, f1, q1, q2, if_pos (show (2 : Nat) ≤ sizeLine by decide), fr]
    · rw [if_neg hn] at q1 q2
      have f1 : ∀ x : Int, D.fdiv (.int x) (.int (Int.gcd a b : Int)) = some (.int (x.fdiv (Int.gcd a b : Int))) := fun x => fdiv_small (by omega) (k := k) (by rw [Int.natAbs_natCast]; exact gl) (by omega)
      simp! [F_fraction, h1', ge, decide_eq_false hn, f1, q1, q2, if_pos (show (2 : Nat) ≤ sizeLine by decide), fr]
theorem is_number_ok (H : HNum T I) {a : Ar} {x : D} {k : Nat} {q : Rat} (hx : RdN k x q) (ha : ArB a x) : evF T (n + 2) I.is_number [a] = .ok (.bl true) [] := by
  rw [run_eq H.is_number (entry_b1 ha)]
  have e1 := is_row_ok H (n := n) (a := .b 0 x) arB
  have w : ∀ z : Int, evF T (n + 1) I.is_whole [.d (.int z)] = .ok (.bl true) [] := fun z => is_whole_ok H arD
  have w0 : ∀ z : Int, evF T (n + 1) I.is_whole [.b 0 (.int z)] = .ok (.bl true) [] := fun z => is_whole_ok H arB
  have i1 : ∀ z w : Int, D.idx (.tup [.int z, .int w]) (.int 0) = some (.int z) := fun _ _ => rfl
  have i2 : ∀ z w : Int, D.idx (.tup [.int z, .int w]) (.int 1) = some (.int w) := fun _ _ => rfl
  have i3 : ∀ z w : Int, D.idx (.lst [.int z, .int w]) (.int 0) = some (.int z) := fun _ _ => rfl
  have i4 : ∀ z w : Int, D.idx (.lst [.int z, .int w]) (.int 1) = some (.int w) := fun _ _ => rfl
  have l2 : ((((2 : Nat) : Int)) == 2) = true := by decide
  cases hx with
  | int z => simp! [F_is_number, e1, D.isRow, w0]
  | tup z b h hk => simp! [F_is_number, e1, D.isRow, w, i1, i2, l2, decide_eq_true h]
  | lst z b h hk => simp! [F_is_number, e1, D.isRow, w, i3, i4, l2, decide_eq_true h]
theorem number_read_ok (H : HNum T I) {x : D} {k : Nat} {q : Rat} (hx : RdN k x q) (hk2 : k ≤ 9000) : evF T (n + 3) I.number_read [.d x] = .ok (fr q) [] := by
  have he : entry (F_number_read I).mos [.d x] = some [.dat x] := rfl
  rw [run_eq H.number_read he]
  have e1 := is_number_ok H (n := n) hx (a := .d x) arD
  have e2 := is_row_ok H (n := n + 1) (a := .d x) arD
  have i1 : ∀ z w : Int, D.idx (.tup [.int z, .int w]) (.int 0) = some (.int z) := fun _ _ => rfl
  have i2 : ∀ z w : Int, D.idx (.tup [.int z, .int w]) (.int 1) = some (.int w) := fun _ _ => rfl
  have i3 : ∀ z w : Int, D.idx (.lst [.int z, .int w]) (.int 0) = some (.int z) := fun _ _ => rfl
  have i4 : ∀ z w : Int, D.idx (.lst [.int z, .int w]) (.int 1) = some (.int w) := fun _ _ => rfl
  cases hx with
  | int z => simp! [F_number_read, e1, e2, D.isRow, fr_int, if_pos (show (2 : Nat) ≤ sizeLine by decide)]
  | tup z b h hk => simp! [F_number_read, e1, e2, D.isRow, i1, i2, fraction_ok H (n := n + 1) (a := z) (b := b) (by omega) hk hk2]
  | lst z b h hk => simp! [F_number_read, e1, e2, D.isRow, i3, i4, fraction_ok H (n := n + 1) (a := z) (b := b) (by omega) hk hk2]
theorem fr_isN (q : Rat) : (fr q).isN = false := rfl
/-- the numbers of a vector, one by one -/
theorem vector_read_loop (H : HNum T I) {x y : D} {l : List (D × Rat)} {k : Nat} (hk2 : k ≤ 9000) (hl : ∀ p ∈ l, RdN k p.1 p.2) (hs : l.length ≤ sizeLine) (hx : x.items = some (l.map Prod.fst)) :
    ∃ s3 s4, evS (evF T (n + 3)) (s_vector_read_0 I) [.bor x, .bor y, .own [], .un, .un] = .ok .nx [.bor x, .bor y, .own (l.map fun p => fr p.2), s3, s4] := by
  have h1 : evIt (evF T (n + 3)) (.seq (.bor 0)) [.bor x, .bor y, .own [], .un, .un] = .ok (l.map Prod.fst) [.bor x, .bor y, .own [], .un, .un] := by
    simp! [hx]
  obtain ⟨ρ', e, s3, s4, rfl, _⟩ := for_go (tg := .nm 3) (body := evSs (evF T (n + 3)) (b_vector_read_0 I)) Prod.fst l (fun j ρ => ∃ s3 s4, ρ = [.bor x, .bor y, .own ((l.take j).map fun p => fr p.2), s3, s4] ∧ s3.free = true ∧ s4.free = true) (ρ := [.bor x, .bor y, .own [], .un, .un]) ⟨.un, .un, rfl, rfl, rfl⟩ (by
    rintro j p ρ hp ⟨s3, s4, rfl, f3, f4⟩
    have hj : j < l.length := (List.getElem?_eq_some_iff.mp hp).1
    have r := number_read_ok H (n := n) (hl p (List.mem_of_getElem? hp)) hk2
    have p3 : ∀ d, put 3 (.dat d) [.bor x, .bor y, .own ((l.take j).map fun p => fr p.2), s3, s4] = .ok () [.bor x, .bor y, .own ((l.take j).map fun p => fr p.2), .dat d, s4] := fun d => put_fr rfl f3
    have p4 : ∀ d c, put 4 (.dat d) [.bor x, .bor y, .own ((l.take j).map fun p => fr p.2), c, s4] = .ok () [.bor x, .bor y, .own ((l.take j).map fun p => fr p.2), c, .dat d] := fun d c => put_fr rfl f4
    refine ⟨.nx, _, ?_, .inl rfl, .dat p.1, .dat (fr p.2), rfl, rfl, rfl⟩
    have hlen : ((l.take j).map fun p => fr p.2).length < sizeLine := by rw [List.length_map, List.length_take]; omega
    have ht : ((l.take (j + 1)).map fun p => fr p.2) = (l.take j).map (fun p => fr p.2) ++ [fr p.2] := by
      rw [List.take_add_one, hp, Option.toList_some, List.map_append]
      rfl
    rw [ht]
    simp only [Tg.put, p3, Res.bind, b_vector_read_0, evSs, evS, evE, evAs, evHof, rdE, List.getElem?_cons_zero, List.getElem?_cons_succ, fillA, callM, ap1, if_true, r, ioBack, nx, p4, Hd.look, Cop.ev, fr_isN, opt, truthM, D.truth, rdO, if_pos hlen, chg, List.set])
  rw [List.take_length] at e
  refine ⟨s3, s4, ?_⟩
  exact for_st2 (t := .nm 3) h1 rfl e rfl
theorem RdV.len {k : Nat} {d : D} {v : List Rat} (h : RdV k d v) : ∃ ds, d.items = some ds ∧ d.isRow = true ∧ Bi.ev .len [d] = some (.int (v.length : Int)) ∧ ds.length = v.length := by
  obtain ⟨l, hd, rfl, _⟩ := h
  rcases hd with rfl | rfl
  · exact ⟨_, rfl, rfl, by rw [len_tup, List.length_map, List.length_map], by rw [List.length_map, List.length_map]⟩
  · exact ⟨_, rfl, rfl, by rw [len_lst, List.length_map, List.length_map], by rw [List.length_map, List.length_map]⟩
theorem vector_read_ok (H : HNum T I) {x : D} {v : List Rat} {k : Nat} (hx : RdV k x v) (hk2 : k ≤ 9000) (hs : v.length ≤ sizeLine) {a b : Ar} (ha : ArB a x) (hb : ArB b (.int (v.length : Int))) : evF T (n + 4) I.vector_read [a, b] = .ok (vd v) [] := by
  obtain ⟨ds, i1, i2, i3, i4⟩ := hx.len
  obtain ⟨l, hd, hv, hl⟩ := hx
  have hit : x.items = some (l.map Prod.fst) := by rcases hd with rfl | rfl <;> rfl
  have e1 := is_row_ok H (n := n + 2) (a := .b 0 x) arB
  have hll : l.length ≤ sizeLine := by rw [hv, List.length_map] at hs; exact hs
  obtain ⟨s3, s4, e⟩ := vector_read_loop (n := n) (y := .int (v.length : Int)) H hk2 hl hll hit
  have ev : vd v = .tup (l.map fun p => fr p.2) := by
    rw [hv, vd, List.map_map]
    rfl
  rw [run_eq H.vector_read (entry_bb ha hb), ev]
  simp! [F_vector_read, e1, i2, i3, e]
end
end Sm
end

section
set_option linter.all false
set_option autoImplicit false
set_option maxRecDepth 100000
/-! W2: the program reads rows, and makes them whole. -/
namespace Sm
open PySem
local macro_rules | `(tactic| simp! [$ls,*]) => `(tactic| simp only [evSs, evS, evE, evEs, as_nil, as_io, as_scr, as_bor, as_var, as_non, as_bl, as_int, as_str, as_tup, as_lst, as_bin, as_neg, as_not, as_cmp, as_and, as_or, as_ife, as_idx, as_slc, as_slcS, as_call, as_cal, as_isi, as_lc, hof_bor, hof_var, hof_non, hof_bl, hof_int, hof_str, hof_tup, hof_lst, hof_bin, hof_neg, hof_not, hof_cmp, hof_and, hof_or, hof_ife, hof_idx, hof_slc, hof_slcS, hof_call, hof_cal, hof_isi, hof_lc, evPof, evIt, Res.bind, rdB, rdE, rdO, rdS, Hd.look, opt, Sl.see, List.getElem?_cons_zero, List.getElem?_cons_succ, List.getD_cons_zero, List.getD_cons_succ, len_tup, len_lst, bi_int, bi_intb, bi_abs, bi_tupl, bi_tupt, bi_lstl, bi_lstt, bi_gcd, Cop.ev, Bop.ev, add_ii, add_tt, add_ll, sub_ii, neg_ii, D.ltI, isN_n, isN_i, isN_t, isN_l, isN_b, items_t, items_l, eqv_int, truthM, D.truth, nx, put_free, free_un, free_dat, free_own, free_bor, chg, List.set, asListO, It.locks, Ex.lock, Sl.lock, Sl.unlock, lockE, unlockE, wipeE, backE, fillA, callM, ioBack, iosOf, Option.map_some, if_true, List.length_cons, List.length_nil, List.replicate, List.cons_append, List.nil_append, List.append_nil, Nat.zero_add, List.any_cons, List.any_nil, ty_int_obj, ty_bool_obj, ty_str_obj, ty_list_obj, ty_tuple_obj, ty_cls_non, ty_cls_bl, ty_cls_int, ty_cls_str, ty_cls_tup, ty_cls_lst, ty_cls_obj, ty_int_non, ty_int_bl, ty_int_int, ty_int_str, ty_int_tup, ty_int_lst, ty_bool_non, ty_bool_bl, ty_bool_int, ty_bool_str, ty_bool_tup, ty_bool_lst, ty_str_non, ty_str_bl, ty_str_int, ty_str_str, ty_str_tup, ty_str_lst, ty_list_non, ty_list_bl, ty_list_int, ty_list_str, ty_list_tup, ty_list_lst, ty_tuple_non, ty_tuple_bl, ty_tuple_int, ty_tuple_str, ty_tuple_tup, ty_tuple_lst, Bool.or_false, Bool.false_or, Bool.not_true, Bool.not_false, Bool.true_or, Bool.or_true, ap_nil, ap1, ap2, ap3, ap4, ap_b, ap_bb, ap_bd, ap_db, ap_bdd, ap_dbd, ap_dbdd, ap_bbd, ap_ddbd, ap_dbb, ap_ddb, ap_bdb, ap_bddb, ap_bddbd, ap_s, ap_do, ap_dodd, ap_doddd, idx0l, idx0t, idx1l, idx1t, Nat.reduceAdd, Nat.reduceSub, Nat.reduceLeDiff, List.drop, Tg.put, intP, frzE, beq_self_eq_true, size1, size2, size0, $ls,*])
section
variable {T : List Fn} {I : Ix} {n : Nat}
theorem vd_isN (v : List Rat) : (vd v).isN = false := rfl
theorem vector_needed_ok (H : HChk T I) {x y : D} {v : List Rat} {k : Nat} (hx : RdV k x v) (hk2 : k ≤ 9000) (hs : v.length ≤ sizeLine) {a b : Ar} (ha : ArB a x) (hb : ArB b (.int (v.length : Int))) : evF T (n + 5) I.vector_needed [a, b, .d y] = .ok (vd v) [] := by
  have he : entry (F_vector_needed I).mos [a, b, .d y] = some [.bor x, .bor (.int (v.length : Int)), .dat y] := by
    rw [show (F_vector_needed I).mos = [.b, .b, .d] from rfl, entry_b ha, entry_b hb]
    rfl
  have e1 := vector_read_ok (n := n) H.toHNum hx hk2 hs (a := .b 0 x) (b := .b 1 (.int (v.length : Int))) arB arB
  rw [run_eq H.vector_needed he]
  simp! [F_vector_needed, e1, vd_isN]
theorem vectors_needed_ok (H : HChk T I) {x y : D} {M : List (List Rat)} {w : Nat} {k : Nat} {lo hi : Int} (hx : RdR k x M) (hw : ∀ v ∈ M, v.length = w) (hk2 : k ≤ 9000) (hs : w ≤ sizeLine) (hm : M.length ≤ sizeLine) (hlo : lo ≤ (M.length : Int)) (hhi : (M.length : Int) ≤ hi) {a : Ar} (ha : ArB a x) {b c e : Ar} (hb : ArB b (.int lo)) (hc : ArB c (.int hi)) (he' : ArB e (.int (w : Int))) :
    evF T (n + 6) I.vectors_needed [a, b, c, e, .d y] = .ok (md M) [] := by
  obtain ⟨l, hd, rfl, hl⟩ := hx
  rw [List.length_map] at hm hlo hhi
  have he : entry (F_vectors_needed I).mos [a, b, c, e, .d y] = some [.bor x, .bor (.int lo), .bor (.int hi), .bor (.int (w : Int)), .dat y] := by
    rw [show (F_vectors_needed I).mos = [.b, .b, .b, .b, .d] from rfl, entry_b ha, entry_b hb, entry_b hc, entry_b he']
    rfl
  have hr : x.isRow = true := by rcases hd with rfl | rfl <;> rfl
  have hlen : Bi.ev .len [x] = some (.int (l.length : Int)) := by
    rcases hd with rfl | rfl
    · rw [len_tup, List.length_map]
    · rw [len_lst, List.length_map]
  have hit : x.items = some (l.map Prod.fst) := by rcases hd with rfl | rfl <;> rfl
  have e1 := is_row_ok H.toHNum (n := n + 4) (a := .b 0 x) arB
  have lc : evE (evF T (n + 5)) (e_vectors_needed_0 I) [.bor x, .bor (.int lo), .bor (.int hi), .bor (.int (w : Int)), .dat y, .un] = .ok (.lst (l.map fun p => vd p.2)) [.bor x, .bor (.int lo), .bor (.int hi), .bor (.int (w : Int)), .dat y, .un] := by
    refine lc_map l Prod.fst (fun p => vd p.2) (by simp! [hit]) rfl hm (fun p hp => ⟨_, rfl, rfl, ?_⟩) rfl
    have hv := hl p hp
    have hpl := hw p.2 (List.mem_map_of_mem hp)
    have := vector_needed_ok (n := n) (y := y) H hv hk2 (by omega) (a := .d p.1) (b := .b 3 (.int (w : Int))) arD (by rw [hpl]; exact arB)
    simp! [this]
  have em : md (l.map Prod.snd) = .tup (l.map fun p => vd p.2) := by
    rw [md, List.map_map]
    rfl
  rw [run_eq H.vectors_needed he, em]
  simp! [F_vectors_needed, e1, hr, hlen, decide_eq_false (Int.not_lt.mpr hlo), decide_eq_false (Int.not_lt.mpr hhi), lc]
theorem rows_needed_ok (H : HChk T I) {x y : D} {M : List (List Rat)} {w : Nat} {k : Nat} (hx : RdR k x M) (hw : ∀ v ∈ M, v.length = w) (hk2 : k ≤ 9000) (hm1 : 1 ≤ M.length) (hm : M.length ≤ 24) (hw1 : 1 ≤ w) (hw8 : w ≤ 8) {a : Ar} (ha : ArB a x) :
    evF T (n + 7) I.rows_needed [a, .d y] = .ok (md M) [] := by
  have r := vectors_needed_ok (n := n) (y := y) (lo := 1) (hi := 24) H hx hw hk2 (le_size (by omega)) (le_size (by omega)) (by omega) (by omega) (a := .b 0 x) arB (b := .d (.int 1)) (c := .d (.int 24)) (e := .d (.int (w : Int))) arD arD arD
  obtain ⟨l, hd, rfl, hl⟩ := hx
  rw [List.length_map] at hm1 hm
  have hr : x.isRow = true := by rcases hd with rfl | rfl <;> rfl
  have hlen : Bi.ev .len [x] = some (.int (l.length : Int)) := by
    rcases hd with rfl | rfl
    · rw [len_tup, List.length_map]
    · rw [len_lst, List.length_map]
  have e1 := is_row_ok H.toHNum (n := n + 5) (a := .b 0 x) arB
  cases l with
  | nil => simp at hm1
  | cons p l =>
    have i0 : D.idx x (.int 0) = some p.1 := by
      rcases hd with rfl | rfl
      · exact idx0t
      · exact idx0l
    obtain ⟨ds, q1, q2, q3, q4⟩ := (hl p List.mem_cons_self).len
    have hpw : p.2.length = w := hw p.2 (List.mem_map_of_mem List.mem_cons_self)
    have e2 := is_row_ok H.toHNum (n := n + 5) (a := .d p.1) arD
    have ap5 : apart [Ar.b 0 x, .d (.int 1), .d (.int 24), .d (.int (w : Int)), .d y] = true := rfl
    rw [hpw] at q3
    rw [run_eq H.rows_needed (entry_bd ha)]
    have d1 : decide (((p :: l).length : Int) < 1) = false := decide_eq_false (by omega)
    have d2 : decide ((w : Int) < 1) = false := decide_eq_false (by omega)
    have d3 : decide ((8 : Int) < (w : Int)) = false := decide_eq_false (by omega)
    rw [List.length_cons] at d1
    simp! [F_rows_needed, e1, hr, hlen, d1, i0, e2, q2, q3, d2, d3, ap5, r]
end
end Sm
end

section
set_option linter.all false
set_option autoImplicit false
/-! DetQ: determinants over the rationals, by the last row. -/
namespace DetQ
def sumTo : Nat → (Nat → Rat) → Rat
  | 0, _ => 0
  | n + 1, f => sumTo n f + f n
theorem sum_congr {n : Nat} {f g : Nat → Rat} (h : ∀ i, i < n → f i = g i) : sumTo n f = sumTo n g := by
  induction n with
  | zero => rfl
  | succ n ih =>
    show sumTo n f + f n = sumTo n g + g n
    rw [ih fun i hi => h i (by omega), h n (by omega)]
theorem sum_add {n : Nat} {f g : Nat → Rat} : sumTo n (fun i => f i + g i) = sumTo n f + sumTo n g := by
  induction n with
  | zero => show (0 : Rat) = 0 + 0; grind
  | succ n ih =>
    show sumTo n (fun i => f i + g i) + (f n + g n) = sumTo n f + f n + (sumTo n g + g n)
    rw [ih]
    grind
theorem sum_mul {n : Nat} {c : Rat} {f : Nat → Rat} : sumTo n (fun i => c * f i) = c * sumTo n f := by
  induction n with
  | zero => show (0 : Rat) = c * 0; grind
  | succ n ih =>
    show sumTo n (fun i => c * f i) + c * f n = c * (sumTo n f + f n)
    rw [ih]
    grind
theorem sum_zero {n : Nat} {f : Nat → Rat} (h : ∀ i, i < n → f i = 0) : sumTo n f = 0 := by
  rw [sum_congr h]
  induction n with
  | zero => rfl
  | succ n ih =>
    show sumTo n (fun _ => (0 : Rat)) + 0 = 0
    rw [ih fun i hi => h i (by omega)]
    grind
theorem sum_swap {n m : Nat} {f : Nat → Nat → Rat} : sumTo n (fun i => sumTo m fun j => f i j) = sumTo m fun j => sumTo n fun i => f i j := by
  induction n with
  | zero => exact (sum_zero fun _ _ => rfl).symm
  | succ n ih =>
    show sumTo n (fun i => sumTo m fun j => f i j) + sumTo m (fun j => f n j) = sumTo m fun j => sumTo n (fun i => f i j) + f n j
    rw [ih, ← sum_add]
/-- the place c behind the removal of the column j -/
def skip (j c : Nat) : Nat := if c < j then c else c + 1
def unskip (j b : Nat) : Nat := if b < j then b else b - 1
theorem sum_skip {n j : Nat} {f : Nat → Rat} (h : j < n + 1) : sumTo n (fun c => f (skip j c)) = sumTo (n + 1) fun b => if b = j then 0 else f b := by
  induction n with
  | zero =>
    have : j = 0 := by omega
    subst this
    show (0 : Rat) = 0 + if 0 = 0 then 0 else f 0
    rw [if_pos rfl]
    grind
  | succ n ih =>
    by_cases hj : j = n + 1
    · subst hj
      show sumTo (n + 1) (fun c => f (skip (n + 1) c)) = sumTo (n + 1) (fun b => if b = n + 1 then 0 else f b) + (if n + 1 = n + 1 then 0 else f (n + 1))
      rw [if_pos rfl, sum_congr (g := fun b => if b = n + 1 then 0 else f b) fun i hi => ?_]
      · grind
      · unfold skip
        rw [if_pos (by omega), if_neg (by omega)]
    · show sumTo n (fun c => f (skip j c)) + f (skip j n) = sumTo (n + 1) (fun b => if b = j then 0 else f b) + (if n + 1 = j then 0 else f (n + 1))
      rw [ih (by omega), if_neg (by omega)]
      unfold skip
      rw [if_neg (by omega)]
def sgn (n : Nat) : Rat := if n % 2 = 0 then 1 else -1
theorem sgn_succ (n : Nat) : sgn (n + 1) = - sgn n := by
  unfold sgn
  by_cases h : n % 2 = 0
  · rw [if_pos h, if_neg (by omega)]
  · rw [if_neg h, if_pos (by omega)]; grind
theorem sgn_add (m n : Nat) : sgn (m + n) = sgn m * sgn n := by
  induction n with
  | zero => show sgn m = sgn m * 1; grind
  | succ n ih => rw [← Nat.add_assoc, sgn_succ, sgn_succ, ih]; grind
abbrev Mx := Nat → Nat → Rat
def minor (j : Nat) (A : Mx) : Mx := fun i c => A i (skip j c)
def det : Nat → Mx → Rat
  | 0, _ => 1
  | n + 1, A => sumTo (n + 1) fun j => sgn (n + j) * A n j * det n (minor j A)
theorem det_ext : ∀ {n : Nat} {A B : Mx}, (∀ i j, i < n → j < n → A i j = B i j) → det n A = det n B
  | 0, _, _, _ => rfl
  | n + 1, A, B, h => sum_congr fun j hj => by
    have m : det n (minor j A) = det n (minor j B) := det_ext fun i c hi hc => h i (skip j c) (by omega) (by unfold skip; split <;> omega)
    rw [h n j (by omega) hj, m]
/-- A with the row r replaced -/
def setRow (A : Mx) (r : Nat) (v : Nat → Rat) : Mx := fun i c => if i = r then v c else A i c
theorem det_lin : ∀ {n : Nat} {A : Mx} {r : Nat} {a b : Rat} {u v : Nat → Rat}, r < n → det n (setRow A r fun c => a * u c + b * v c) = a * det n (setRow A r u) + b * det n (setRow A r v)
  | 0, _, _, _, _, _, _, h => absurd h (by omega)
  | n + 1, A, r, a, b, u, v, h => by
    show sumTo (n + 1) _ = a * sumTo (n + 1) _ + b * sumTo (n + 1) _
    rw [← sum_mul, ← sum_mul, ← sum_add]
    refine sum_congr fun j hj => ?_
    by_cases hr : r = n
    · subst hr
      have m : ∀ w : Nat → Rat, det r (minor j (setRow A r w)) = det r (minor j A) := fun w => det_ext fun i c hi hc => by
        show (if i = r then w (skip j c) else A i (skip j c)) = A i (skip j c)
        rw [if_neg (by omega)]
      rw [m, m, m]
      show sgn (r + j) * (if r = r then a * u j + b * v j else A r j) * det r (minor j A) = a * (sgn (r + j) * (if r = r then u j else A r j) * det r (minor j A)) + b * (sgn (r + j) * (if r = r then v j else A r j) * det r (minor j A))
      rw [if_pos rfl, if_pos rfl, if_pos rfl]
      grind
    · have m : ∀ w : Nat → Rat, minor j (setRow A r w) = setRow (minor j A) r fun c => w (skip j c) := fun w => by
        funext i c
        rfl
      have e : ∀ w : Nat → Rat, setRow A r w n j = A n j := fun w => by
        show (if n = r then w j else A n j) = A n j
        rw [if_neg (by omega)]
      rw [m, m, m, e, e, e, det_lin (A := minor j A) (u := fun c => u (skip j c)) (v := fun c => v (skip j c)) (by omega)]
      grind
def swp (A : Mx) (r s : Nat) : Mx := fun i c => if i = r then A s c else if i = s then A r c else A i c
theorem skip_skip {a b c : Nat} (h : a ≠ b) : skip a (skip (unskip a b) c) = skip b (skip (unskip b a) c) := by
  unfold skip unskip
  repeat' split
  all_goals omega
theorem skip_un {a b : Nat} (h : a ≠ b) : skip a (unskip a b) = b := by
  unfold skip unskip
  repeat' split
  all_goals omega
theorem un_skip {j c : Nat} : unskip j (skip j c) = c := by
  unfold skip unskip
  repeat' split
  all_goals omega
/-- expanded along the last two rows -/
theorem det_two {n : Nat} {A : Mx} : det (n + 2) A = sumTo (n + 2) fun a => sumTo (n + 2) fun b => if b = a then 0 else sgn (n + 1 + a) * A (n + 1) a * (sgn (n + unskip a b) * A n b * det n (minor (unskip a b) (minor a A))) := by
  show sumTo (n + 2) (fun a => sgn (n + 1 + a) * A (n + 1) a * det (n + 1) (minor a A)) = _
  refine sum_congr fun a ha => ?_
  show sgn (n + 1 + a) * A (n + 1) a * sumTo (n + 1) (fun l => sgn (n + l) * A n (skip a l) * det n (minor l (minor a A))) = _
  rw [← sum_mul]
  have z := sum_skip (n := n + 1) (j := a) (f := fun b => sgn (n + 1 + a) * A (n + 1) a * (sgn (n + unskip a b) * A n b * det n (minor (unskip a b) (minor a A)))) ha
  rw [← z]
  refine sum_congr fun l hl => ?_
  show _ = sgn (n + 1 + a) * A (n + 1) a * (sgn (n + unskip a (skip a l)) * A n (skip a l) * det n (minor (unskip a (skip a l)) (minor a A)))
  rw [un_skip]
theorem sgn_sq (n : Nat) : sgn n * sgn n = 1 := by
  unfold sgn
  split <;> grind
theorem sgn_pair {n a b : Nat} (h : a ≠ b) : sgn (n + 1 + a) * sgn (n + unskip a b) = - (sgn (n + 1 + b) * sgn (n + unskip b a)) := by
  have key : (n + 1 + a + (n + unskip a b) + (n + 1 + b + (n + unskip b a))) % 2 = 1 := by
    unfold unskip
    repeat' split
    all_goals omega
  rw [← sgn_add, ← sgn_add]
  generalize n + 1 + a + (n + unskip a b) = x at key ⊢
  generalize n + 1 + b + (n + unskip b a) = y at key ⊢
  unfold sgn
  by_cases hx : x % 2 = 0
  · rw [if_pos hx, if_neg (by omega)]; grind
  · rw [if_neg hx, if_pos (by omega)]
/-- neighbouring rows change places -/
theorem det_swp : ∀ {n : Nat} {A : Mx} {r : Nat}, r + 1 < n → det n (swp A r (r + 1)) = - det n A
  | 0, _, _, h => absurd h (by omega)
  | 1, _, _, h => absurd h (by omega)
  | n + 2, A, r, h => by
    by_cases hr : r = n
    · subst hr
      rw [det_two, det_two, sum_swap]
      have e : (-1 : Rat) * sumTo (r + 2) (fun a => sumTo (r + 2) fun b => if b = a then 0 else sgn (r + 1 + a) * A (r + 1) a * (sgn (r + unskip a b) * A r b * det r (minor (unskip a b) (minor a A)))) = sumTo (r + 2) fun b => sumTo (r + 2) fun a => if b = a then 0 else sgn (r + 1 + a) * swp A r (r + 1) (r + 1) a * (sgn (r + unskip a b) * swp A r (r + 1) r b * det r (minor (unskip a b) (minor a (swp A r (r + 1))))) := by
        rw [← sum_mul]
        refine sum_congr fun a ha => ?_
        rw [← sum_mul]
        refine sum_congr fun b hb => ?_
        by_cases hab : b = a
        · rw [if_pos hab, if_pos hab.symm]; grind
        · rw [if_neg hab, if_neg (Ne.symm hab)]
          have e1 : swp A r (r + 1) (r + 1) b = A r b := by
            show (if r + 1 = r then A (r + 1) b else if r + 1 = r + 1 then A r b else A (r + 1) b) = A r b
            rw [if_neg (by omega), if_pos rfl]
          have e2 : swp A r (r + 1) r a = A (r + 1) a := by
            show (if r = r then A (r + 1) a else _) = A (r + 1) a
            rw [if_pos rfl]
          have e3 : det r (minor (unskip b a) (minor b (swp A r (r + 1)))) = det r (minor (unskip a b) (minor a A)) := det_ext fun i c hi hc => by
            show (if i = r then _ else if i = r + 1 then _ else A i (skip b (skip (unskip b a) c))) = A i (skip a (skip (unskip a b) c))
            rw [if_neg (by omega), if_neg (by omega), skip_skip hab]
          rw [e1, e2, e3]
          have sp := sgn_pair (n := r) (Ne.symm hab)
          grind
      rw [← e]
      grind
    · show sumTo (n + 2) (fun j => sgn (n + 1 + j) * swp A r (r + 1) (n + 1) j * det (n + 1) (minor j (swp A r (r + 1)))) = - sumTo (n + 2) fun j => sgn (n + 1 + j) * A (n + 1) j * det (n + 1) (minor j A)
      have e : (-1 : Rat) * sumTo (n + 2) (fun j => sgn (n + 1 + j) * A (n + 1) j * det (n + 1) (minor j A)) = sumTo (n + 2) (fun j => sgn (n + 1 + j) * swp A r (r + 1) (n + 1) j * det (n + 1) (minor j (swp A r (r + 1)))) := by
        rw [← sum_mul]
        refine sum_congr fun j hj => ?_
        have e1 : swp A r (r + 1) (n + 1) j = A (n + 1) j := by
          show (if n + 1 = r then _ else if n + 1 = r + 1 then _ else A (n + 1) j) = A (n + 1) j
          rw [if_neg (by omega), if_neg (by omega)]
        have e2 : minor j (swp A r (r + 1)) = swp (minor j A) r (r + 1) := by
          funext i c
          rfl
        rw [e1, e2, det_swp (n := n + 1) (A := minor j A) (by omega)]
        grind
      rw [← e]
      grind
/-- two equal rows -/
theorem det_eq : ∀ (d : Nat) {n : Nat} {A : Mx} {r : Nat}, r + 1 + d < n → (∀ c, A r c = A (r + 1 + d) c) → det n A = 0
  | 0, n, A, r, h, he => by
    have z := det_swp (n := n) (A := A) (r := r) (by omega)
    have e : det n (swp A r (r + 1)) = det n A := det_ext fun i c _ _ => by
      show (if i = r then A (r + 1) c else if i = r + 1 then A r c else A i c) = A i c
      by_cases h1 : i = r
      · rw [if_pos h1, h1]; exact (he c).symm
      · rw [if_neg h1]
        by_cases h2 : i = r + 1
        · rw [if_pos h2, h2]; exact he c
        · rw [if_neg h2]
    rw [e] at z
    grind
  | d + 1, n, A, r, h, he => by
    have z := det_swp (n := n) (A := A) (r := r + 1 + d) (by omega)
    have e : det n (swp A (r + 1 + d) (r + 1 + d + 1)) = 0 := det_eq d (r := r) (by omega) fun c => by
      show (if r = r + 1 + d then _ else if r = r + 1 + d + 1 then _ else A r c) = (if r + 1 + d = r + 1 + d then A (r + 1 + d + 1) c else _)
      rw [if_neg (by omega), if_neg (by omega), if_pos rfl]
      exact he c
    rw [e] at z
    grind
theorem det_same {n : Nat} {A : Mx} {r s : Nat} (hr : r < n) (hs : s < n) (hrs : r ≠ s) (he : ∀ c, A r c = A s c) : det n A = 0 := by
  by_cases h : r < s
  · have e : s = r + 1 + (s - r - 1) := by omega
    exact det_eq (s - r - 1) (n := n) (A := A) (r := r) (by omega) fun c => by rw [← e]; exact he c
  · have e : r = s + 1 + (r - s - 1) := by omega
    exact det_eq (r - s - 1) (n := n) (A := A) (r := s) (by omega) fun c => by rw [← e]; exact (he c).symm
/-- whole numbers -/
def IsZ (q : Rat) : Prop := ∃ z : Int, q = (z : Rat)
theorem IsZ.add {a b : Rat} : IsZ a → IsZ b → IsZ (a + b) := fun ⟨x, hx⟩ ⟨y, hy⟩ => ⟨x + y, by rw [hx, hy, Rat.intCast_add]⟩
theorem IsZ.mul {a b : Rat} : IsZ a → IsZ b → IsZ (a * b) := fun ⟨x, hx⟩ ⟨y, hy⟩ => ⟨x * y, by rw [hx, hy, Rat.intCast_mul]⟩
theorem IsZ.neg {a : Rat} : IsZ a → IsZ (-a) := fun ⟨x, hx⟩ => ⟨-x, by rw [hx, Rat.intCast_neg]⟩
theorem IsZ.sub {a b : Rat} (h : IsZ a) (g : IsZ b) : IsZ (a - b) := by
  have : a - b = a + -b := by grind
  rw [this]
  exact h.add g.neg
theorem IsZ.zero : IsZ 0 := ⟨0, by simp⟩
theorem IsZ.one : IsZ 1 := ⟨1, by simp⟩
theorem IsZ.int (z : Int) : IsZ (z : Rat) := ⟨z, rfl⟩
theorem IsZ.sum {n : Nat} {f : Nat → Rat} (h : ∀ i, i < n → IsZ (f i)) : IsZ (sumTo n f) := by
  induction n with
  | zero => exact .zero
  | succ n ih => exact (ih fun i hi => h i (by omega)).add (h n (by omega))
theorem IsZ.sgn (n : Nat) : IsZ (DetQ.sgn n) := by
  unfold DetQ.sgn
  split
  · exact .one
  · exact IsZ.one.neg
theorem det_isZ : ∀ {n : Nat} {A : Mx}, (∀ i j, i < n → j < n → IsZ (A i j)) → IsZ (det n A)
  | 0, _, _ => .one
  | n + 1, A, h => IsZ.sum fun j hj => ((IsZ.sgn _).mul (h n j (by omega) hj)).mul (det_isZ fun i c hi hc => h i (skip j c) (by omega) (by unfold skip; split <;> omega))
/-- one more row and column, the row empty but for its end -/
theorem det_edge {n : Nat} {A : Mx} (h : ∀ c, c < n → A n c = 0) : det (n + 1) A = A n n * det n A := by
  show sumTo n (fun j => sgn (n + j) * A n j * det n (minor j A)) + sgn (n + n) * A n n * det n (minor n A) = _
  rw [sum_zero fun j hj => by rw [h j hj]; grind]
  have e : sgn (n + n) = 1 := by unfold sgn; rw [if_pos (by omega)]
  have m : det n (minor n A) = det n A := det_ext fun i c hi hc => by
    show A i (skip n c) = A i c
    unfold skip
    rw [if_pos hc]
  rw [e, m]
  grind
theorem set_same {A : Mx} {r : Nat} : setRow A r (A r) = A := by
  funext i c
  show (if i = r then A r c else A i c) = A i c
  by_cases h : i = r
  · rw [if_pos h, h]
  · rw [if_neg h]
/-- a row that is a sum of the others, and of itself c times -/
theorem det_comb {n : Nat} {A : Mx} {r : Nat} (hr : r < n) : ∀ {m : Nat} {f : Nat → Rat}, m ≤ n → det n (setRow A r fun c => sumTo m fun q => f q * A q c) = (if r < m then f r else 0) * det n A
  | 0, f, _ => by
    rw [if_neg (by omega)]
    have z := det_lin (n := n) (A := A) (r := r) (a := 0) (b := 0) (u := A r) (v := A r) hr
    have e : (fun c => (0 : Rat) * A r c + 0 * A r c) = fun c => sumTo 0 fun q => f q * A q c := by
      funext c
      show (0 : Rat) * A r c + 0 * A r c = 0
      grind
    rw [e] at z
    rw [z]
    grind
  | m + 1, f, hm => by
    have ih := det_comb (A := A) hr (m := m) (f := f) (by omega)
    have e : (fun c => sumTo (m + 1) fun q => f q * A q c) = fun c => 1 * (sumTo m fun q => f q * A q c) + f m * A m c := by
      funext c
      show sumTo m (fun q => f q * A q c) + f m * A m c = _
      grind
    rw [e, det_lin hr, ih]
    by_cases h : r = m
    · subst h
      rw [if_neg (by omega), if_pos (by omega), set_same]
      grind
    · have z : det n (setRow A r (A m)) = 0 := det_same (r := r) (s := m) hr (by omega) h fun c => by
        show (if r = r then A m c else _) = (if m = r then A m c else A m c)
        rw [if_pos rfl]
        split <;> rfl
      rw [z]
      by_cases h2 : r < m
      · rw [if_pos h2, if_pos (by omega)]; grind
      · rw [if_neg h2, if_neg (by omega)]; grind
/-- Cramer, by rows: a sum of the rows that is whole has parts that are whole, times the determinant -/
theorem cramer {n : Nat} {A : Mx} {r : Nat} {f : Nat → Rat} (hr : r < n) (hA : ∀ i j, i < n → j < n → IsZ (A i j)) (hv : ∀ c, c < n → IsZ (sumTo n fun q => f q * A q c)) : IsZ (f r * det n A) := by
  have z := det_comb (A := A) hr (m := n) (f := f) (Nat.le_refl n)
  rw [if_pos hr] at z
  rw [← z]
  refine det_isZ fun i j hi hj => ?_
  show IsZ (if i = r then _ else A i j)
  split
  · exact hv j hj
  · exact hA i j hi hj
end DetQ
end

section
set_option linter.all false
set_option autoImplicit false
/-! Rref: the reduced echelon form of a space is one. -/
namespace DetQ
theorem sum_one {n : Nat} {f : Nat → Rat} {j : Nat} (hj : j < n) (h : ∀ i, i < n → i ≠ j → f i = 0) : sumTo n f = f j := by
  induction n with
  | zero => omega
  | succ n ih =>
    show sumTo n f + f n = f j
    by_cases e : j = n
    · subst e
      rw [sum_zero fun i hi => h i (by omega) (by omega)]
      grind
    · rw [ih (by omega) fun i hi => h i (by omega), h n (by omega) (Ne.symm e)]
      grind
/-- v is a sum of the k rows of B, up to the column w -/
def In (w k : Nat) (B : Mx) (v : Nat → Rat) : Prop := ∃ f : Nat → Rat, ∀ c, c < w → v c = sumTo k fun i => f i * B i c
structure Rref (w k : Nat) (B : Mx) (p : Nat → Nat) : Prop where
  lt : ∀ i, i < k → p i < w
  mono : ∀ i j, i < j → j < k → p i < p j
  one : ∀ i j, i < k → j < k → B i (p j) = if i = j then 1 else 0
  lead : ∀ i, i < k → ∀ c, c < p i → B i c = 0
section
variable {w k k' : Nat} {B B' : Mx} {p p' : Nat → Nat} {v : Nat → Rat}
theorem Rref.at (R : Rref w k B p) (h : In w k B v) : ∀ c, c < w → v c = sumTo k fun i => v (p i) * B i c := by
  obtain ⟨f, hf⟩ := h
  have e : ∀ j, j < k → v (p j) = f j := fun j hj => by
    rw [hf _ (R.lt j hj), sum_one hj fun i hi hne => by rw [R.one i j hi hj, if_neg hne]; grind]
    rw [R.one j j hj hj, if_pos rfl]
    grind
  intro c hc
  rw [hf c hc]
  exact sum_congr fun i hi => by rw [e i hi]
/-- the first index with a property -/
theorem least {P : Nat → Prop} : ∀ {k : Nat}, (∃ i, i < k ∧ P i) → ∃ i, i < k ∧ P i ∧ ∀ j, j < i → ¬ P j
  | 0, ⟨i, h, _⟩ => absurd h (by omega)
  | k + 1, ⟨i, h, hp⟩ => by
    by_cases q : ∃ i, i < k ∧ P i
    · obtain ⟨j, h1, h2, h3⟩ := least q
      exact ⟨j, by omega, h2, h3⟩
    · have : i = k := by
        by_cases e : i < k
        · exact absurd ⟨i, e, hp⟩ q
        · omega
      subst this
      exact ⟨i, h, hp, fun j hj hpj => q ⟨j, hj, hpj⟩⟩
/-- where a vector of the space begins -/
theorem Rref.begins (R : Rref w k B p) (h : In w k B v) {m : Nat} (hm : m < w) (h0 : ∀ c, c < m → v c = 0) (h1 : v m ≠ 0) : ∃ j, j < k ∧ p j = m := by
  have ex : ∃ j, j < k ∧ v (p j) ≠ 0 := by
    refine Classical.byContradiction fun n => h1 ?_
    rw [R.at h m hm]
    exact sum_zero fun i hi => by
      have : v (p i) = 0 := Classical.byContradiction fun z => n ⟨i, hi, z⟩
      rw [this]
      grind
  obtain ⟨j, hj, hv, hl⟩ := least ex
  have z : ∀ c, c < p j → v c = 0 := fun c hc => by
    have hw : c < w := Nat.lt_trans hc (R.lt j hj)
    rw [R.at h c hw]
    refine sum_zero fun i hi => ?_
    by_cases hij : i < j
    · have : v (p i) = 0 := Classical.byContradiction fun z => hl i hij z
      rw [this]
      grind
    · have : B i c = 0 := by
        by_cases e : i = j
        · rw [e]; exact R.lead j hj c hc
        · exact R.lead i hi c (Nat.lt_trans hc (R.mono j i (by omega) hi))
      rw [this]
      grind
  refine ⟨j, hj, ?_⟩
  by_cases c1 : p j < m
  · exact absurd (h0 _ c1) hv
  · by_cases c2 : m < p j
    · exact absurd (z m c2) h1
    · omega
theorem inc_eq (hm : ∀ i j, i < j → j < k → p i < p j) (hm' : ∀ i j, i < j → j < k' → p' i < p' j) (h1 : ∀ i, i < k → ∃ j, j < k' ∧ p' j = p i) (h2 : ∀ i, i < k' → ∃ j, j < k ∧ p j = p' i) : ∀ i, i < k → i < k' → p i = p' i := by
  intro i
  induction i using Nat.strongRecOn with
  | ind i ih =>
    intro hi hi'
    obtain ⟨j, hj, ej⟩ := h1 i hi
    obtain ⟨l, hl, el⟩ := h2 i hi'
    have a1 : ¬ j < i := fun hji => by
      have := ih j hji (by omega) hj
      have := hm j i hji hi
      omega
    have a2 : ¬ l < i := fun hli => by
      have := ih l hli hl (by omega)
      have := hm' l i hli hi'
      omega
    have b1 : p' i ≤ p' j := by
      by_cases e : i = j
      · rw [e]; exact Nat.le_refl _
      · exact Nat.le_of_lt (hm' i j (by omega) hj)
    have b2 : p i ≤ p l := by
      by_cases e : i = l
      · rw [e]; exact Nat.le_refl _
      · exact Nat.le_of_lt (hm i l (by omega) hl)
    omega
theorem len_le (hm : ∀ i j, i < j → j < k → p i < p j) (hm' : ∀ i j, i < j → j < k' → p' i < p' j) (h1 : ∀ i, i < k → ∃ j, j < k' ∧ p' j = p i) (h2 : ∀ i, i < k' → ∃ j, j < k ∧ p j = p' i) : k' ≤ k := by
  refine Nat.le_of_not_lt fun h => ?_
  obtain ⟨j, hj, e⟩ := h2 k h
  have := inc_eq hm hm' h1 h2 j hj (by omega)
  have := hm' j k hj h
  omega
/-- one space, one form -/
theorem rref_unique (R : Rref w k B p) (R' : Rref w k' B' p') (h1 : ∀ i, i < k → In w k' B' (B i)) (h2 : ∀ i, i < k' → In w k B (B' i)) : k = k' ∧ ∀ i, i < k → p i = p' i ∧ ∀ c, c < w → B i c = B' i c := by
  have q1 : ∀ i, i < k → ∃ j, j < k' ∧ p' j = p i := fun i hi => R'.begins (h1 i hi) (R.lt i hi) (R.lead i hi) (by rw [R.one i i hi hi, if_pos rfl]; decide)
  have q2 : ∀ i, i < k' → ∃ j, j < k ∧ p j = p' i := fun i hi => R.begins (h2 i hi) (R'.lt i hi) (R'.lead i hi) (by rw [R'.one i i hi hi, if_pos rfl]; decide)
  have e : k = k' := Nat.le_antisymm (len_le R'.mono R.mono q2 q1) (len_le R.mono R'.mono q1 q2)
  subst e
  have pe := inc_eq R.mono R'.mono q1 q2
  refine ⟨rfl, fun i hi => ⟨pe i hi hi, fun c hc => ?_⟩⟩
  rw [R'.at (h1 i hi) c hc, sum_one hi fun j hj hne => by
    rw [← pe j hj hj, R.one i j hi hj, if_neg (Ne.symm hne)]
    grind]
  rw [← pe i hi hi, R.one i i hi hi, if_pos rfl]
  grind
end
end DetQ
end

section
set_option linter.all false
set_option autoImplicit false
/-! Gj: elimination without fractions: what stands after k pivots. -/
namespace DetQ
/-- after k pivots, the columns below pl done: A the rows as given (m of them), s where they stand now, W the rows now, d the last pivot -/
structure Gj (m w k pl : Nat) (A : Mx) (s : Nat → Nat) (p : Nat → Nat) (W : Mx) (d : Rat) : Prop where
  km : k ≤ m
  plw : pl ≤ w
  d0 : d ≠ 0
  plt : ∀ j, j < k → p j < pl
  mono : ∀ i j, i < j → j < k → p i < p j
  one : ∀ i j, i < k → j < k → W i (p j) = if i = j then d else 0
  off : ∀ i j, k ≤ i → i < m → j < k → W i (p j) = 0
  piv : ∀ i, i < k → ∃ f : Nat → Rat, ∀ c, c < w → W i c = sumTo k fun q => f q * A (s q) c
  oth : ∀ i, k ≤ i → i < m → ∃ g : Nat → Rat, ∀ c, c < w → W i c = d * A (s i) c + sumTo k fun q => g q * A (s q) c
  dt : det k (fun a b => A (s a) (p b)) = d
  lead : ∀ i, i < k → ∀ c, c < p i → W i c = 0
  done : ∀ i, k ≤ i → i < m → ∀ c, c < pl → W i c = 0
section
variable {m w k pl : Nat} {A : Mx} {s p : Nat → Nat} {W : Mx} {d : Rat}
theorem Gj.start : Gj m w 0 0 A (fun i => i) p A 1 where
  km := Nat.zero_le _
  plw := Nat.zero_le _
  d0 := by decide
  plt := fun j h => absurd h (by omega)
  mono := fun i j _ h => absurd h (by omega)
  one := fun i j h => absurd h (by omega)
  off := fun i j _ _ h => absurd h (by omega)
  piv := fun i h => absurd h (by omega)
  oth := fun i _ _ => ⟨fun _ => 0, fun c _ => by show A i c = 1 * A i c + 0; grind⟩
  dt := rfl
  lead := fun i h => absurd h (by omega)
  done := fun i _ _ c h => absurd h (by omega)
/-- a column with no pivot -/
theorem Gj.pass (G : Gj m w k pl A s p W d) (hw : pl < w) (h : ∀ i, k ≤ i → i < m → W i pl = 0) : Gj m w k (pl + 1) A s p W d := by
  refine ⟨G.km, hw, G.d0, fun j hj => Nat.lt_succ_of_lt (G.plt j hj), G.mono, G.one, G.off, G.piv, G.oth, G.dt, G.lead, fun i h1 h2 c hc => ?_⟩
  by_cases e : c = pl
  · rw [e]; exact h i h1 h2
  · exact G.done i h1 h2 c (by omega)
/-- two rows that are no pivots change places -/
def tr (a b i : Nat) : Nat := if i = a then b else if i = b then a else i
theorem tr_lt {a b i : Nat} (ha : a < m) (hb : b < m) (hi : i < m) : tr a b i < m := by
  unfold tr
  repeat' split
  all_goals omega
theorem Gj.swap (G : Gj m w k pl A s p W d) {f : Nat} (hf : k ≤ f) (hfm : f < m) : Gj m w k pl A (fun i => s (tr k f i)) p (fun i => W (tr k f i)) d := by
  have lo : ∀ i, i < k → tr k f i = i := fun i hi => by unfold tr; rw [if_neg (by omega), if_neg (by omega)]
  have hi : ∀ i, k ≤ i → i < m → k ≤ tr k f i ∧ tr k f i < m := fun i h1 h2 => by
    unfold tr
    repeat' split
    all_goals omega
  refine ⟨G.km, G.plw, G.d0, G.plt, G.mono, fun i j h1 h2 => ?_, fun i j h1 h2 h3 => ?_, fun i h1 => ?_, fun i h1 h2 => ?_, ?_, fun i h1 c hc => ?_, fun i h1 h2 c hc => ?_⟩
  · show W (tr k f i) (p j) = _
    rw [lo i h1]; exact G.one i j h1 h2
  · exact G.off _ j (hi i h1 h2).1 (hi i h1 h2).2 h3
  · obtain ⟨g, hg⟩ := G.piv i h1
    refine ⟨g, fun c hc => ?_⟩
    show W (tr k f i) c = _
    rw [lo i h1, hg c hc]
    exact sum_congr fun q hq => by rw [lo q hq]
  · obtain ⟨g, hg⟩ := G.oth _ (hi i h1 h2).1 (hi i h1 h2).2
    refine ⟨g, fun c hc => ?_⟩
    show W (tr k f i) c = _
    rw [hg c hc]
    congr 1
    exact sum_congr fun q hq => by rw [lo q hq]
  · rw [← G.dt]
    exact det_ext fun a b ha hb => by
      show A (s (tr k f a)) (p b) = _
      rw [lo a ha]
  · show W (tr k f i) c = 0
    rw [lo i h1]; exact G.lead i h1 c hc
  · exact G.done _ (hi i h1 h2).1 (hi i h1 h2).2 c hc
def ext (p : Nat → Nat) (k pl : Nat) : Nat → Nat := fun i => if i = k then pl else p i
/-- the row k clears the column pl -/
def clr (W : Mx) (k pl : Nat) (d : Rat) : Mx := fun i c => if i = k then W k c else (W k pl * W i c - W i pl * W k c) / d
theorem sum_last {n : Nat} {f : Nat → Rat} : sumTo (n + 1) f = sumTo n f + f n := rfl
theorem sum_ite {k : Nat} {x : Rat} {f B : Nat → Rat} : sumTo (k + 1) (fun q => (if q = k then x else f q) * B q) = (sumTo k fun q => f q * B q) + x * B k := by
  show sumTo k (fun q => (if q = k then x else f q) * B q) + (if k = k then x else f k) * B k = _
  rw [if_pos rfl, sum_congr (g := fun q => f q * B q) fun q hq => by rw [if_neg (by omega)]]
theorem sum_two {k : Nat} {a b : Rat} {f g B : Nat → Rat} : (sumTo k fun q => (a * f q + b * g q) * B q) = a * (sumTo k fun q => f q * B q) + b * sumTo k fun q => g q * B q := by
  rw [← sum_mul, ← sum_mul, ← sum_add]
  exact sum_congr fun q _ => by grind
theorem Gj.step (G : Gj m w k pl A s p W d) (hk : k < m) (hw : pl < w) (hr : W k pl ≠ 0) : Gj m w (k + 1) (pl + 1) A s (ext p k pl) (clr W k pl d) (W k pl) := by
  have d0 := G.d0
  have ne : ∀ i, i ≠ k → ∀ c, clr W k pl d i c = (W k pl * W i c - W i pl * W k c) / d := fun i h c => if_neg h
  have eq : ∀ c, clr W k pl d k c = W k c := fun c => if_pos rfl
  have pk : ext p k pl k = pl := if_pos rfl
  have pj : ∀ j, j < k → ext p k pl j = p j := fun j h => if_neg (by omega)
  obtain ⟨gk, hgk⟩ := G.oth k (Nat.le_refl k) hk
  have offk : ∀ j, j < k → W k (p j) = 0 := fun j hj => G.off k j (Nat.le_refl k) hk hj
  refine ⟨hk, hw, hr, fun j hj => ?_, fun i j hij hj => ?_, fun i j hi hj => ?_, fun i j h1 h2 hj => ?_, fun i hi => ?_, fun i h1 h2 => ?_, ?_, fun i hi c hc => ?_, fun i h1 h2 c hc => ?_⟩
  · by_cases e : j = k
    · rw [e, pk]; omega
    · rw [pj j (by omega)]; exact Nat.lt_succ_of_lt (G.plt j (by omega))
  · by_cases e : j = k
    · rw [e, pk, pj i (by omega)]; exact G.plt i (by omega)
    · rw [pj j (by omega), pj i (by omega)]; exact G.mono i j hij (by omega)
  · by_cases ei : i = k
    · subst ei
      rw [eq]
      by_cases ej : j = i
      · rw [ej, pk, if_pos rfl]
      · rw [pj j (by omega), offk j (by omega), if_neg (Ne.symm ej)]
    · rw [ne i ei]
      by_cases ej : j = k
      · subst ej
        rw [pk, if_neg ei]
        grind
      · rw [pj j (by omega), offk j (by omega), G.one i j (by omega) (by omega)]
        by_cases e : i = j
        · rw [if_pos e, if_pos e]; grind
        · rw [if_neg e, if_neg e]; grind
  · rw [ne i (by omega)]
    by_cases ej : j = k
    · subst ej
      rw [pk]
      grind
    · rw [pj j (by omega), offk j (by omega), G.off i j (by omega) h2 (by omega)]
      grind
  · by_cases ei : i = k
    · subst ei
      refine ⟨fun q => if q = i then d else gk q, fun c hc => ?_⟩
      refine Eq.trans ?_ (sum_ite (B := fun q => A (s q) c)).symm
      rw [eq, hgk c hc]
      grind
    · obtain ⟨f, hf⟩ := G.piv i (by omega)
      refine ⟨fun q => if q = k then - W i pl else (W k pl / d) * f q + (- W i pl / d) * gk q, fun c hc => ?_⟩
      refine Eq.trans ?_ (sum_ite (B := fun q => A (s q) c)).symm
      rw [ne i ei, hf c hc, hgk c hc, sum_two]
      grind
  · obtain ⟨g, hg⟩ := G.oth i (by omega) h2
    refine ⟨fun q => if q = k then - W i pl else (W k pl / d) * g q + (- W i pl / d) * gk q, fun c hc => ?_⟩
    have z := (sum_ite (k := k) (x := - W i pl) (f := fun q => (W k pl / d) * g q + (- W i pl / d) * gk q) (B := fun q => A (s q) c)).symm
    rw [sum_two] at z
    refine Eq.trans ?_ (congrArg (fun y => W k pl * A (s i) c + y) z)
    show clr W k pl d i c = W k pl * A (s i) c + (_ + _)
    rw [ne i (by omega), hg c hc, hgk c hc]
    grind
  · -- the determinant
    let M : Mx := fun a b => A (s a) (ext p k pl b)
    have z := det_comb (n := k + 1) (A := M) (r := k) (by omega) (m := k + 1) (f := fun q => if q = k then d else gk q) (Nat.le_refl _)
    rw [if_pos (by omega), if_pos rfl] at z
    have row : ∀ c, c < k + 1 → (sumTo (k + 1) fun q => (if q = k then d else gk q) * M q c) = W k (ext p k pl c) := fun c hc => by
      have hcw : ext p k pl c < w := by
        by_cases e : c = k
        · rw [e, pk]; exact hw
        · rw [pj c (by omega)]; exact Nat.lt_of_lt_of_le (G.plt c (by omega)) G.plw
      refine Eq.trans (sum_ite (B := fun q => A (s q) (ext p k pl c))) ?_
      rw [hgk _ hcw]
      grind
    have e1 : det (k + 1) (setRow M k fun c => sumTo (k + 1) fun q => (if q = k then d else gk q) * M q c) = W k pl * d := by
      have ed := det_edge (n := k) (A := setRow M k fun c => W k (ext p k pl c)) fun c hc => by
        show (if k = k then W k (ext p k pl c) else _) = 0
        rw [if_pos rfl, pj c hc, offk c hc]
      have e2 : det (k + 1) (setRow M k fun c => sumTo (k + 1) fun q => (if q = k then d else gk q) * M q c) = det (k + 1) (setRow M k fun c => W k (ext p k pl c)) := det_ext fun a b ha hb => by
        show (if a = k then (sumTo (k + 1) fun q => (if q = k then d else gk q) * M q b) else M a b) = (if a = k then W k (ext p k pl b) else M a b)
        split
        · exact row b hb
        · rfl
      have e3 : det k (setRow M k fun c => W k (ext p k pl c)) = d := by
        rw [← G.dt]
        exact det_ext fun a b ha hb => by
          show (if a = k then _ else A (s a) (ext p k pl b)) = _
          rw [if_neg (by omega), pj b hb]
      rw [e2, ed, e3]
      show (if k = k then W k (ext p k pl k) else _) * d = _
      rw [if_pos rfl, pk]
    rw [e1] at z
    show det (k + 1) M = W k pl
    grind
  · by_cases ei : i = k
    · subst ei
      rw [pk] at hc
      rw [eq]
      exact G.done i (Nat.le_refl _) hk c hc
    · rw [pj i (by omega)] at hc
      have hpl := G.plt i (by omega)
      rw [ne i ei, G.lead i (by omega) c hc, G.done k (Nat.le_refl _) hk c (by omega)]
      grind
  · rw [ne i (by omega)]
    by_cases e : c = pl
    · subst e; grind
    · rw [G.done i (by omega) h2 c (by omega), G.done k (Nat.le_refl _) hk c (by omega)]
      grind
/-- whole numbers at the rows as they are given make whole numbers now -/
theorem Gj.whole (G : Gj m w k pl A s p W d) (hs : ∀ i, i < m → s i < m) (hA : ∀ i c, i < m → c < w → IsZ (A i c)) : ∀ i c, i < m → c < w → IsZ (W i c) := by
  have hM : ∀ a b, a < k → b < k → IsZ (A (s a) (p b)) := fun a b ha hb => hA _ _ (hs a (by have := G.km; omega)) (Nat.lt_of_lt_of_le (G.plt b hb) G.plw)
  have key : ∀ (f : Nat → Rat), (∀ b, b < k → IsZ (sumTo k fun q => (f q / d) * A (s q) (p b))) → ∀ q, q < k → IsZ (f q) := fun f h q hq => by
    have z := cramer (n := k) (A := fun a b => A (s a) (p b)) (r := q) (f := fun q => f q / d) hq hM h
    rw [G.dt] at z
    have e : f q / d * d = f q := by have := G.d0; grind
    rw [e] at z
    exact z
  have div : ∀ (f : Nat → Rat) (c : Nat), (sumTo k fun q => (f q / d) * A (s q) c) = (sumTo k fun q => f q * A (s q) c) / d := fun f c => by
    have e : (fun q => (f q / d) * A (s q) c) = fun q => (1 / d) * (f q * A (s q) c) := by
      funext q
      grind
    rw [e, sum_mul]
    grind
  intro i c hi hc
  by_cases hk : i < k
  · obtain ⟨f, hf⟩ := G.piv i hk
    have hz := key f fun b hb => by
      rw [div, ← hf _ (Nat.lt_of_lt_of_le (G.plt b hb) G.plw), G.one i b hk hb]
      have := G.d0
      by_cases e : i = b
      · rw [if_pos e]
        have : d / d = 1 := by grind
        rw [this]
        exact .one
      · rw [if_neg e]
        have : (0 : Rat) / d = 0 := by grind
        rw [this]
        exact .zero
    rw [hf c hc]
    exact IsZ.sum fun q hq => (hz q hq).mul (hA _ _ (hs q (by have := G.km; omega)) hc)
  · obtain ⟨g, hg⟩ := G.oth i (by omega) hi
    have hz := key g fun b hb => by
      have hb' := Nat.lt_of_lt_of_le (G.plt b hb) G.plw
      have z := hg _ hb'
      rw [G.off i b (by omega) hi hb] at z
      rw [div]
      have e : (sumTo k fun q => g q * A (s q) (p b)) / d = - A (s i) (p b) := by have := G.d0; grind
      rw [e]
      exact (hA _ _ (hs i hi) hb').neg
    have hd : IsZ d := by
      rw [← G.dt]
      exact det_isZ hM
    rw [hg c hc]
    exact (hd.mul (hA _ _ (hs i hi) hc)).add (IsZ.sum fun q hq => (hz q hq).mul (hA _ _ (hs q (by have := G.km; omega)) hc))
theorem In.trans {B : Mx} {n : Nat} {v : Nat → Rat} (h : In w m A v) (g : ∀ i, i < m → In w n B (A i)) : In w n B v := by
  obtain ⟨f, hf⟩ := h
  have g' : ∀ i, ∃ e : Nat → Rat, i < m → ∀ c, c < w → A i c = sumTo n fun q => e q * B q c := fun i => by
    by_cases hi : i < m
    · obtain ⟨e, he⟩ := g i hi; exact ⟨e, fun _ => he⟩
    · exact ⟨fun _ => 0, fun z => absurd z hi⟩
  refine ⟨fun q => sumTo m fun i => f i * (g' i).choose q, fun c hc => ?_⟩
  rw [hf c hc]
  have e1 : (sumTo m fun i => f i * A i c) = sumTo m fun i => sumTo n fun q => f i * ((g' i).choose q * B q c) := sum_congr fun i hi => by
    rw [(g' i).choose_spec hi c hc, ← sum_mul]
  rw [e1, sum_swap]
  refine sum_congr fun q hq => ?_
  have e2 : (sumTo m fun i => f i * (g' i).choose q) * B q c = B q c * sumTo m fun i => f i * (g' i).choose q := by grind
  rw [e2, ← sum_mul]
  exact sum_congr fun i _ => by grind
theorem In.one {B : Mx} {n i : Nat} (hi : i < n) : In w n B (B i) := ⟨fun q => if q = i then 1 else 0, fun c _ => by
  show B i c = sumTo n fun q => (if q = i then 1 else 0) * B q c
  rw [sum_one hi fun q _ hne => by show (if q = i then (1 : Rat) else 0) * B q c = 0; rw [if_neg hne]; grind]
  show B i c = (if i = i then (1 : Rat) else 0) * B i c
  rw [if_pos rfl]
  grind⟩
/-- the rows at the pivots, by the determinant: the reduced echelon form -/
theorem Gj.rref (G : Gj m w k w A s p W d) : Rref w k (fun i c => W i c / d) p where
  lt := G.plt
  mono := G.mono
  one := fun i j hi hj => by
    show W i (p j) / d = _
    rw [G.one i j hi hj]
    have := G.d0
    by_cases e : i = j
    · rw [if_pos e, if_pos e]; grind
    · rw [if_neg e, if_neg e]; grind
  lead := fun i hi c hc => by
    show W i c / d = 0
    rw [G.lead i hi c hc]
    grind
theorem Gj.into (G : Gj m w k w A s p W d) (hs : ∀ i, i < m → s i < m) : ∀ i, i < k → In w m A (fun c => W i c / d) := fun i hi => by
  obtain ⟨f, hf⟩ := G.piv i hi
  have h1 : In w k (fun q => A (s q)) (fun c => W i c / d) := ⟨fun q => f q / d, fun c hc => by
    show W i c / d = sumTo k fun q => f q / d * A (s q) c
    rw [hf c hc]
    have e : (sumTo k fun q => f q / d * A (s q) c) = (1 / d) * sumTo k fun q => f q * A (s q) c := by
      rw [← sum_mul]
      exact sum_congr fun q _ => by grind
    rw [e]
    grind⟩
  exact h1.trans fun q hq => .one (hs q (by have := G.km; omega))
/-- a sum of the pivots' rows that is empty at the pivots is empty -/
theorem Gj.empty (G : Gj m w k w A s p W d) {f : Nat → Rat} (h : ∀ j, j < k → (sumTo k fun q => f q * A (s q) (p j)) = 0) : ∀ q, q < k → f q = 0 := fun q hq => by
  have z := det_comb (n := k) (A := fun a b => A (s a) (p b)) (r := q) hq (m := k) (f := f) (Nat.le_refl k)
  rw [if_pos hq, G.dt] at z
  have e : det k (setRow (fun a b => A (s a) (p b)) q fun c => sumTo k fun q => f q * A (s q) (p c)) = 0 := by
    have y := det_lin (n := k) (A := fun a b => A (s a) (p b)) (r := q) (a := 0) (b := 0) (u := fun _ => 0) (v := fun _ => 0) hq
    have e2 : det k (setRow (fun a b => A (s a) (p b)) q fun c => sumTo k fun q => f q * A (s q) (p c)) = det k (setRow (fun a b => A (s a) (p b)) q fun c => (0 : Rat) * 0 + 0 * 0) := det_ext fun a b ha hb => by
      show (if a = q then _ else _) = (if a = q then _ else _)
      split
      · show (sumTo k fun q => f q * A (s q) (p b)) = 0 * 0 + 0 * 0
        rw [h b hb]; grind
      · rfl
    rw [e2, y]
    grind
  rw [e] at z
  have := G.d0
  grind
theorem Gj.from (G : Gj m w k w A s p W d) : ∀ i, i < m → In w k (fun i c => W i c / d) (A (s i)) := fun i hi => by
  have R := G.rref
  have d0 := G.d0
  -- the rows at the pivots
  have low : ∀ q, q < k → In w k (fun i c => W i c / d) (A (s q)) := fun q hq => by
    refine ⟨fun j => A (s q) (p j), fun c hc => ?_⟩
    -- the difference is a sum of the pivots' rows
    have hf : ∀ j, ∃ f : Nat → Rat, j < k → ∀ c, c < w → W j c = sumTo k fun t => f t * A (s t) c := fun j => by
      by_cases hj : j < k
      · obtain ⟨f, hf⟩ := G.piv j hj; exact ⟨f, fun _ => hf⟩
      · exact ⟨fun _ => 0, fun z => absurd z hj⟩
    let h : Nat → Rat := fun t => (if t = q then 1 else 0) - sumTo k fun j => A (s q) (p j) / d * (hf j).choose t
    have hh : ∀ c, c < w → (sumTo k fun t => h t * A (s t) c) = A (s q) c - sumTo k fun j => A (s q) (p j) * (W j c / d) := fun c hc => by
      have e1 : (sumTo k fun t => h t * A (s t) c) = (sumTo k fun t => (if t = q then 1 else 0) * A (s t) c) + (-1) * sumTo k fun t => sumTo k fun j => (A (s q) (p j) / d * (hf j).choose t) * A (s t) c := by
        rw [← sum_mul, ← sum_add]
        refine sum_congr fun t _ => ?_
        have e3 : (sumTo k fun j => (A (s q) (p j) / d * (hf j).choose t) * A (s t) c) = A (s t) c * sumTo k fun j => A (s q) (p j) / d * (hf j).choose t := by
          rw [← sum_mul]
          exact sum_congr fun j _ => by grind
        rw [e3]
        show ((if t = q then 1 else 0) - _) * A (s t) c = _
        grind
      rw [e1, sum_swap, sum_one hq fun t _ hne => by rw [if_neg hne]; grind]
      rw [if_pos rfl]
      have e4 : (sumTo k fun j => sumTo k fun t => (A (s q) (p j) / d * (hf j).choose t) * A (s t) c) = sumTo k fun j => A (s q) (p j) * (W j c / d) := sum_congr fun j hj => by
        rw [(hf j).choose_spec hj c hc]
        have e5 : (sumTo k fun t => (A (s q) (p j) / d * (hf j).choose t) * A (s t) c) = (A (s q) (p j) / d) * sumTo k fun t => (hf j).choose t * A (s t) c := by
          rw [← sum_mul]
          exact sum_congr fun t _ => by grind
        rw [e5]
        grind
      rw [e4]
      grind
    have z := G.empty (f := h) fun j hj => by
      rw [hh _ (G.plt j hj), sum_one hj fun i hi hne => by rw [G.one i j hi hj, if_neg hne]; grind]
      rw [G.one j j hj hj, if_pos rfl]
      have : d / d = 1 := by grind
      grind
    have y := hh c hc
    rw [sum_zero fun t ht => by rw [z t ht]; grind] at y
    show A (s q) c = sumTo k fun j => A (s q) (p j) * (W j c / d)
    grind
  by_cases hk : i < k
  · exact low i hk
  · obtain ⟨g, hg⟩ := G.oth i (by omega) hi
    have h1 : In w k (fun q => A (s q)) (A (s i)) := ⟨fun q => - g q / d, fun c hc => by
      have z := hg c hc
      rw [G.done i (by omega) hi c hc] at z
      have e : (sumTo k fun q => - g q / d * A (s q) c) = (-1 / d) * sumTo k fun q => g q * A (s q) c := by
        rw [← sum_mul]
        exact sum_congr fun q _ => by grind
      rw [e]
      grind⟩
    exact h1.trans low
end
end DetQ
end

section
set_option linter.all false
set_option autoImplicit false
set_option maxRecDepth 100000
/-! W3: rows made whole; one elimination. -/
namespace Sm
open PySem
local macro_rules | `(tactic| simp! [$ls,*]) => `(tactic| simp only [evSs, evS, evE, evEs, as_nil, as_io, as_scr, as_bor, as_var, as_non, as_bl, as_int, as_str, as_tup, as_lst, as_bin, as_neg, as_not, as_cmp, as_and, as_or, as_ife, as_idx, as_slc, as_slcS, as_call, as_cal, as_isi, as_lc, hof_bor, hof_var, hof_non, hof_bl, hof_int, hof_str, hof_tup, hof_lst, hof_bin, hof_neg, hof_not, hof_cmp, hof_and, hof_or, hof_ife, hof_idx, hof_slc, hof_slcS, hof_call, hof_cal, hof_isi, hof_lc, evPof, evIt, Res.bind, rdB, rdE, rdO, rdS, Hd.look, opt, Sl.see, List.getElem?_cons_zero, List.getElem?_cons_succ, List.getD_cons_zero, List.getD_cons_succ, len_tup, len_lst, bi_int, bi_intb, bi_abs, bi_tupl, bi_tupt, bi_lstl, bi_lstt, bi_gcd, Cop.ev, Bop.ev, add_ii, add_tt, add_ll, sub_ii, neg_ii, D.ltI, isN_n, isN_i, isN_t, isN_l, isN_b, items_t, items_l, eqv_int, truthM, D.truth, nx, put_free, free_un, free_dat, free_own, free_bor, chg, List.set, asListO, It.locks, Ex.lock, Sl.lock, Sl.unlock, lockE, unlockE, wipeE, backE, fillA, callM, ioBack, iosOf, Option.map_some, if_true, List.length_cons, List.length_nil, List.replicate, List.cons_append, List.nil_append, List.append_nil, Nat.zero_add, List.any_cons, List.any_nil, ty_int_obj, ty_bool_obj, ty_str_obj, ty_list_obj, ty_tuple_obj, ty_cls_non, ty_cls_bl, ty_cls_int, ty_cls_str, ty_cls_tup, ty_cls_lst, ty_cls_obj, ty_int_non, ty_int_bl, ty_int_int, ty_int_str, ty_int_tup, ty_int_lst, ty_bool_non, ty_bool_bl, ty_bool_int, ty_bool_str, ty_bool_tup, ty_bool_lst, ty_str_non, ty_str_bl, ty_str_int, ty_str_str, ty_str_tup, ty_str_lst, ty_list_non, ty_list_bl, ty_list_int, ty_list_str, ty_list_tup, ty_list_lst, ty_tuple_non, ty_tuple_bl, ty_tuple_int, ty_tuple_str, ty_tuple_tup, ty_tuple_lst, Bool.or_false, Bool.false_or, Bool.not_true, Bool.not_false, Bool.true_or, Bool.or_true, ap_nil, ap1, ap2, ap3, ap4, ap_b, ap_bb, ap_bd, ap_db, ap_bdd, ap_dbd, ap_dbdd, ap_bbd, ap_ddbd, ap_dbb, ap_ddb, ap_bdb, ap_bddb, ap_bddbd, ap_s, ap_do, ap_dodd, ap_doddd, idx0l, idx0t, idx1l, idx1t, Nat.reduceAdd, Nat.reduceSub, Nat.reduceLeDiff, List.drop, Tg.put, intP, frzE, beq_self_eq_true, size1, size2, size0, $ls,*])
structure HRow (T : List Fn) (I : Ix) : Prop extends HChk T I where
  shared : T[I.shared]? = some (F_shared I)
  eliminated : T[I.eliminated]? = some (F_eliminated I)
  first_filled : T[I.first_filled]? = some (F_first_filled I)
  reduced : T[I.reduced]? = some (F_reduced I)
structure HFo (T : List Fn) (I : Ix) : Prop extends HRow T I where
  fractions_of : T[I.fractions_of]? = some (F_fractions_of I)
structure HEch (T : List Fn) (I : Ix) : Prop extends HFo T I where
  whole_rows_of : T[I.whole_rows_of]? = some (F_whole_rows_of I)
/-- the lcm of the bottoms -/
def lcmR (v : List Rat) : Nat := v.foldl (fun b q => Nat.lcm b q.den) 1
def wh (v : List Rat) : List Int := v.map fun q => q.num * ((lcmR v / q.den : Nat) : Int)
def zt (r : List Int) : D := .tup (r.map D.int)
def zd (r : List Int) : D := .lst (r.map D.int)
theorem lcm_dvd {N : Nat} : ∀ (v : List Rat) (b : Nat), b ∣ N → (∀ q ∈ v, q.den ∣ N) → v.foldl (fun b q => Nat.lcm b q.den) b ∣ N
  | [], b, h, _ => h
  | q :: v, b, h, g => lcm_dvd v _ (Nat.lcm_dvd h (g q List.mem_cons_self)) fun r hr => g r (List.mem_cons_of_mem _ hr)
theorem lcm_lcm {a b N : Nat} (hN : 0 < N) (hN2 : N < 2 ^ 64) (ha : a ∣ N) (hb : b ∣ N) : Bi.ev .lcm [.int (a : Int), .int (b : Int)] = some (.int ((Nat.lcm a b : Nat) : Int)) := by
  show (if (a : Int).natAbs < 2 ^ 64 ∧ (b : Int).natAbs < 2 ^ 64 then some (D.int (Nat.lcm (a : Int).natAbs (b : Int).natAbs : Nat)) else none) = _
  have h1 := Nat.le_of_dvd hN ha
  have h2 := Nat.le_of_dvd hN hb
  rw [Int.natAbs_natCast, Int.natAbs_natCast, if_pos ⟨by omega, by omega⟩]
section
variable {T : List Fn} {I : Ix} {n : Nat}
theorem shared_loop {F : Nat → List Ar → FRes} {v : List Rat} {N : Nat} (hN : 0 < N) (hN2 : N < 2 ^ 64) (hv : ∀ q ∈ v, q.den ∣ N) : ∃ s2, evS F (s_shared_0 I) [.bor (vd v), .dat (.int 1), .un, .un, .un] = .ok .nx [.bor (vd v), .dat (.int (lcmR v : Nat)), s2, .un, .un] ∧ s2.free = true := by
  obtain ⟨ρ', e, s2, rfl, f2⟩ := for_go (tg := .nm 2) (body := evSs F (b_shared_0 I)) fr v (fun j ρ => ∃ s2, ρ = [.bor (vd v), .dat (.int (lcmR (v.take j) : Nat)), s2, .un, .un] ∧ s2.free = true) (ρ := [.bor (vd v), .dat (.int 1), .un, .un, .un]) ⟨.un, rfl, rfl⟩ (by
    rintro j q ρ hq ⟨s2, rfl, f2⟩
    have hqv : q ∈ v := List.mem_of_getElem? hq
    have p2 : ∀ d c, put 2 (.dat d) [.bor (vd v), c, s2, .un, .un] = .ok () [.bor (vd v), c, .dat d, .un, .un] := fun d c => put_fr rfl f2
    have ht : lcmR (v.take (j + 1)) = Nat.lcm (lcmR (v.take j)) q.den := by
      unfold lcmR
      rw [List.take_add_one, hq, Option.toList_some, List.foldl_append]
      rfl
    have hd : lcmR (v.take j) ∣ N := lcm_dvd _ 1 (Nat.one_dvd _) fun r hr => hv r (List.mem_of_mem_take hr)
    have hl := lcm_lcm hN hN2 hd (hv q hqv)
    have i1 : D.idx (fr q) (.int 1) = some (.int (q.den : Int)) := rfl
    refine ⟨.nx, _, ?_, .inl rfl, .dat (fr q), rfl, rfl⟩
    by_cases h1 : q.den = 1
    · have h1' : ((q.den : Int) == 1) = true := by rw [h1]; rfl
      rw [ht, h1, Nat.lcm_one_right]
      simp! [b_shared_0, p2, i1, h1']
    · have h1' : ((q.den : Int) == 1) = false := by
        rw [beq_eq_false_iff_ne]
        omega
      rw [ht]
      simp! [b_shared_0, p2, i1, h1', hl])
  rw [List.take_length] at e
  exact ⟨s2, for_st3 (t := .nm 2) (it := .seq (.bor 0)) (xs := v.map fr) (by simp! [vd]) rfl e rfl, f2⟩
theorem shared_ok (H : HRow T I) {v : List Rat} {N : Nat} (hN : 0 < N) (hN2 : N < 2 ^ 64) (hv : ∀ q ∈ v, q.den ∣ N) (hs : v.length ≤ sizeLine) {a : Ar} (ha : ArB a (vd v)) : evF T (n + 1) I.shared [a] = .ok (.tup [zt (wh v), .int (lcmR v : Nat)]) [] := by
  obtain ⟨s2, e, f2⟩ := shared_loop (I := I) (F := evF T n) hN hN2 hv
  have hL : lcmR v ∣ N := lcm_dvd v 1 (Nat.one_dvd _) hv
  have hL2 := Nat.le_of_dvd hN hL
  have lc : evE (evF T n) (e_shared_0 I) [.bor (vd v), .dat (.int (lcmR v : Nat)), s2, .un, .un] = .ok (.lst (v.map fun q => .int (q.num * ((lcmR v / q.den : Nat) : Int)))) [.bor (vd v), .dat (.int (lcmR v : Nat)), s2, .un, .un] := by
    refine lc_map v fr (fun q => .int (q.num * ((lcmR v / q.den : Nat) : Int))) (by simp! [vd]) rfl hs (fun q hq => ⟨_, rfl, rfl, ?_⟩) rfl
    have hd : D.fdiv (.int (lcmR v : Nat)) (.int (q.den : Int)) = some (.int ((lcmR v / q.den : Nat) : Int)) := by
      rw [fdiv_small (k := 64) (by have := q.den_pos; omega) (by rw [Int.natAbs_natCast]; have := Nat.le_of_dvd hN (hv q hq); omega) (by decide), Int.fdiv_eq_ediv_of_nonneg _ (by omega)]
      rfl
    have hq2 : lcmR v / q.den ≤ lcmR v := Nat.div_le_self _ _
    have hm : D.mul (.int q.num) (.int ((lcmR v / q.den : Nat) : Int)) = some (.int (q.num * ((lcmR v / q.den : Nat) : Int))) := mul_small (by rw [Int.natAbs_natCast]; omega)
    simp! [hd, hm]
  have ez : zt (wh v) = .tup (v.map fun q => .int (q.num * ((lcmR v / q.den : Nat) : Int))) := by
    rw [zt, wh, List.map_map]
    rfl
  rw [run_eq H.shared (entry_b1 ha), ez]
  simp! [F_shared, e, lc]
theorem whole_rows_ok (H : HEch T I) {M : List (List Rat)} {N : Nat} (hN : 0 < N) (hN2 : N < 2 ^ 64) (hM : ∀ v ∈ M, v.length ≤ sizeLine ∧ ∀ q ∈ v, q.den ∣ N) (hs : M.length ≤ sizeLine) {x : D} (hx : x.items = some (M.map vd)) {a : Ar} (ha : ArB a x) : evF T (n + 2) I.whole_rows_of [a] = .ok (.lst (M.map fun v => zt (wh v))) [] := by
  have lc : evE (evF T (n + 1)) (e_whole_rows_of_0 I) [.bor x, .un] = .ok (.lst (M.map fun v => zt (wh v))) [.bor x, .un] := by
    refine lc_map M vd (fun v => zt (wh v)) (by simp! [hx]) rfl hs (fun v hv => ⟨_, rfl, rfl, ?_⟩) rfl
    have := shared_ok (n := n) H.toHRow hN hN2 (hM v hv).2 (hM v hv).1 (a := .d (vd v)) arD
    simp! [this]
  rw [run_eq H.whole_rows_of (entry_b1 ha)]
  simp! [F_whole_rows_of, lc]
/-- one row less another -/
def elim (r c : List Int) (pl : Nat) (b : Int) : List Int := List.zipWith (fun x y => (c.getD pl 0 * x - r.getD pl 0 * y).fdiv b) r c
theorem zipD_int : ∀ (r c : List Int), zipD (r.map D.int) (c.map D.int) = (r.zip c).map fun p => .tup [.int p.1, .int p.2]
  | [], c => by cases c <;> rfl
  | x :: r, [] => rfl
  | x :: r, y :: c => by
    show D.tup [.int x, .int y] :: zipD (r.map D.int) (c.map D.int) = _
    rw [zipD_int r c]
    rfl
theorem idx_zd {r : List Int} {pl : Nat} (h : pl < r.length) : D.idx (zd r) (.int (pl : Int)) = some (.int (r.getD pl 0)) := by
  refine idx_lst ?_
  rw [List.getElem?_map, List.getD_eq_getElem?_getD, List.getElem?_eq_getElem h]
  rfl
theorem zd_items {r : List Int} : (zd r).items = some (r.map D.int) := rfl
theorem elim_zip {r c : List Int} {pl : Nat} {b : Int} : zd (elim r c pl b) = .lst ((r.zip c).map fun p => .int ((c.getD pl 0 * p.1 - r.getD pl 0 * p.2).fdiv b)) := by
  rw [zd, elim, List.zip, List.map_zipWith, List.map_zipWith]
theorem zip_left (g : Int → Int) : ∀ (r c : List Int), r.length = c.length → List.zipWith (fun x _ => g x) r c = r.map g
  | [], [], _ => rfl
  | [], _ :: _, h => nomatch h
  | _ :: _, [], h => nomatch h
  | x :: r, y :: c, h => by
    rw [List.zipWith_cons_cons, List.map_cons, zip_left g r c (by simpa using h)]
theorem elim_zero {r c : List Int} {pl : Nat} {b : Int} (hl : r.length = c.length) (h : r.getD pl 0 = 0) : elim r c pl b = r.map fun x => (c.getD pl 0 * x).fdiv b := by
  unfold elim
  rw [h]
  rw [← zip_left _ r c hl]
  congr 1
  funext x y
  rw [Int.zero_mul, Int.sub_zero]
theorem getD_bound {r : List Int} {k pl : Nat} (h : ∀ x ∈ r, x.natAbs < 2 ^ k) : (r.getD pl 0).natAbs < 2 ^ k := by
  rw [List.getD_eq_getElem?_getD]
  cases hr : r[pl]? with
  | none => exact Nat.pow_pos (by decide)
  | some x => exact h x (List.mem_of_getElem? hr)
theorem eliminated_ok (H : HRow T I) {r c : List Int} {pl k : Nat} {b : Int} (hl : r.length = c.length) (hp : pl < r.length) (hb : b ≠ 0) (hbk : b.natAbs < 2 ^ k) (hr : ∀ x ∈ r, x.natAbs < 2 ^ k) (hc : ∀ x ∈ c, x.natAbs < 2 ^ k) (hk : k ≤ 9000) (hs : r.length ≤ sizeLine) {a : Ar} (ha : ArB a (zd c)) :
    evF T (n + 1) I.eliminated [.d (zd r), a, .d (.int (pl : Int)), .d (.int b)] = .ok (zd (elim r c pl b)) [] := by
  have he : entry (F_eliminated I).mos [.d (zd r), a, .d (.int (pl : Int)), .d (.int b)] = some [.dat (zd r), .bor (zd c), .dat (.int (pl : Int)), .dat (.int b)] := by
    show (entry [.b, .d, .d] [a, .d (.int (pl : Int)), .d (.int b)]).map _ = _
    rw [entry_b ha]
    rfl
  have i1 := idx_zd (r := c) (pl := pl) (by omega)
  have i2 := idx_zd (r := r) (pl := pl) hp
  have bc := getD_bound (pl := pl) hc
  have br := getD_bound (pl := pl) hr
  have fd : ∀ z : Int, D.fdiv (.int z) (.int b) = some (.int (z.fdiv b)) := fun z => fdiv_small hb hbk (by omega)
  rw [run_eq H.eliminated he]
  by_cases h0 : r.getD pl 0 = 0
  · have h0' : (r.getD pl 0 == 0) = true := by rw [h0]; rfl
    have ez := elim_zero (b := b) hl h0
    by_cases h1 : c.getD pl 0 = b
    · have h1' : (c.getD pl 0 == b) = true := by rw [h1]; exact beq_self_eq_true b
      have : elim r c pl b = r := by
        rw [ez, h1]
        refine (List.map_congr_left (g := fun x => x) fun x _ => Int.mul_fdiv_cancel_left x hb).trans ?_
        exact List.map_id' r
      rw [this]
      simp! [F_eliminated, i1, i2, putPar, h0', h1']
    · have h1' : (c.getD pl 0 == b) = false := by rw [beq_eq_false_iff_ne]; exact h1
      have lc : evE (evF T n) (e_eliminated_0 I) [.dat (zd r), .bor (zd c), .dat (.int (pl : Int)), .dat (.int b), .dat (.int (c.getD pl 0)), .dat (.int (r.getD pl 0)), .un, .un] = .ok (.lst (r.map fun x => .int ((c.getD pl 0 * x).fdiv b))) [.dat (zd r), .bor (zd c), .dat (.int (pl : Int)), .dat (.int b), .dat (.int (c.getD pl 0)), .dat (.int (r.getD pl 0)), .un, .un] := by
        refine lc_map r D.int (fun x => .int ((c.getD pl 0 * x).fdiv b)) (by simp! [zd_items]) rfl hs (fun x hx => ⟨_, rfl, rfl, ?_⟩) rfl
        have := mul_mid bc (by omega) (hr x hx)
        simp! [this, fd]
      have e : zd (elim r c pl b) = .lst (r.map fun x => .int ((c.getD pl 0 * x).fdiv b)) := by
        rw [ez, zd, List.map_map]
        rfl
      rw [e]
      simp! [F_eliminated, i1, i2, putPar, h0', h1', lc]
  · have h0' : (r.getD pl 0 == 0) = false := by rw [beq_eq_false_iff_ne]; exact h0
    have lc : evE (evF T n) (e_eliminated_1 I) [.dat (zd r), .bor (zd c), .dat (.int (pl : Int)), .dat (.int b), .dat (.int (c.getD pl 0)), .dat (.int (r.getD pl 0)), .un, .un] = .ok (.lst ((r.zip c).map fun p => .int ((c.getD pl 0 * p.1 - r.getD pl 0 * p.2).fdiv b))) [.dat (zd r), .bor (zd c), .dat (.int (pl : Int)), .dat (.int b), .dat (.int (c.getD pl 0)), .dat (.int (r.getD pl 0)), .un, .un] := by
      refine lc_map (r.zip c) (fun p => .tup [.int p.1, .int p.2]) (fun p => .int ((c.getD pl 0 * p.1 - r.getD pl 0 * p.2).fdiv b)) ?_ rfl (by rw [List.length_zip]; omega) (fun p hp => ⟨_, rfl, rfl, ?_⟩) rfl
      · have : zipO (zd r) (zd c) = some ((r.zip c).map fun p => .tup [.int p.1, .int p.2]) := by rw [← zipD_int]; rfl
        simp! [this]
      · have m1 := mul_mid bc (by omega) (hr p.1 (List.of_mem_zip hp).1)
        have m2 := mul_mid br (by omega) (hc p.2 (List.of_mem_zip hp).2)
        simp! [m1, m2, fd]
    rw [elim_zip]
    simp! [F_eliminated, i1, i2, putPar, h0', lc]
end
end Sm
end

section
set_option linter.all false
set_option autoImplicit false
/-! Dt: determinants: rows changed, rows added, rows scaled; triangles; when a pivot is missing. -/
namespace DetQ
theorem setRow_ne {A : Mx} {r i c : Nat} {v : Nat → Rat} (h : i ≠ r) : setRow A r v i c = A i c := if_neg h
theorem setRow_eq {A : Mx} {r c : Nat} {v : Nat → Rat} : setRow A r v r c = v c := if_pos rfl
theorem det_tr {n : Nat} {A : Mx} {r s : Nat} (hr : r < n) (hs : s < n) (h : r ≠ s) : det n (fun i => A (tr r s i)) = - det n A := by
  let D : (Nat → Rat) → (Nat → Rat) → Rat := fun u v => det n (setRow (setRow A r u) s v)
  have l2 : ∀ u v v', D u (fun c => 1 * v c + 1 * v' c) = 1 * D u v + 1 * D u v' := fun u v v' => det_lin hs
  have sw : ∀ u v, D u v = det n (setRow (setRow A s v) r u) := fun u v => det_ext fun i c _ _ => by
    show (if i = s then v c else if i = r then u c else A i c) = (if i = r then u c else if i = s then v c else A i c)
    by_cases h1 : i = s
    · rw [if_pos h1, if_neg (by omega), if_pos h1]
    · rw [if_neg h1, if_neg h1]
  have l1 : ∀ u u' v, D (fun c => 1 * u c + 1 * u' c) v = 1 * D u v + 1 * D u' v := fun u u' v => by
    rw [sw, sw, sw]
    exact det_lin hr
  have z : ∀ u, D u u = 0 := fun u => det_same hr hs h fun c => by
    show (if r = s then u c else if r = r then u c else A r c) = (if s = s then u c else _)
    rw [if_neg h, if_pos rfl, if_pos rfl]
  have e := z (fun c => 1 * A r c + 1 * A s c)
  rw [l1, l2, l2, z, z] at e
  have e1 : D (A r) (A s) = det n A := det_ext fun i c _ _ => by
    show (if i = s then A s c else if i = r then A r c else A i c) = A i c
    by_cases h1 : i = s
    · rw [if_pos h1, h1]
    · rw [if_neg h1]
      by_cases h2 : i = r
      · rw [if_pos h2, h2]
      · rw [if_neg h2]
  have e2 : D (A s) (A r) = det n (fun i => A (tr r s i)) := det_ext fun i c _ _ => by
    show (if i = s then A r c else if i = r then A s c else A i c) = A (tr r s i) c
    unfold tr
    by_cases h1 : i = s
    · rw [if_pos h1, if_neg (by omega), if_pos h1]
    · rw [if_neg h1]
      by_cases h2 : i = r
      · rw [if_pos h2, if_pos h2]
      · rw [if_neg h2, if_neg h2, if_neg h1]
  rw [e1, e2] at e
  grind
/-- a row gets a multiple of another -/
theorem det_add {n : Nat} {A : Mx} {r s : Nat} {t : Rat} (hr : r < n) (hs : s < n) (h : r ≠ s) : det n (setRow A r fun c => 1 * A r c + t * A s c) = det n A := by
  rw [det_lin hr, set_same]
  have : det n (setRow A r (A s)) = 0 := det_same hr hs h fun c => by
    rw [setRow_eq, setRow_ne (Ne.symm h)]
  rw [this]
  grind
def prodTo : Nat → (Nat → Rat) → Rat
  | 0, _ => 1
  | n + 1, f => prodTo n f * f n
theorem prod_congr {n : Nat} {f g : Nat → Rat} (h : ∀ i, i < n → f i = g i) : prodTo n f = prodTo n g := by
  induction n with
  | zero => rfl
  | succ n ih => show prodTo n f * f n = prodTo n g * g n; rw [ih fun i hi => h i (by omega), h n (by omega)]
theorem det_scale {n : Nat} {A : Mx} {l : Nat → Rat} : det n (fun i c => l i * A i c) = prodTo n l * det n A := by
  have key : ∀ j, j ≤ n → det n (fun i c => if i < j then l i * A i c else A i c) = prodTo j l * det n A := by
    intro j
    induction j with
    | zero =>
      intro _
      show _ = 1 * det n A
      rw [Rat.one_mul]
      exact det_ext fun i c _ _ => if_neg (by omega)
    | succ j ih =>
      intro hj
      have e := det_lin (n := n) (A := fun i c => if i < j then l i * A i c else A i c) (r := j) (a := l j) (b := 0) (u := A j) (v := A j) (by omega)
      have e1 : det n (fun i c => if i < j + 1 then l i * A i c else A i c) = det n (setRow (fun i c => if i < j then l i * A i c else A i c) j fun c => l j * A j c + 0 * A j c) := det_ext fun i c _ _ => by
        show (if i < j + 1 then l i * A i c else A i c) = (if i = j then l j * A j c + 0 * A j c else if i < j then l i * A i c else A i c)
        by_cases h1 : i = j
        · rw [if_pos h1, if_pos (by omega), h1]; grind
        · rw [if_neg h1]
          by_cases h2 : i < j
          · rw [if_pos h2, if_pos (by omega)]
          · rw [if_neg h2, if_neg (by omega)]
      have e2 : det n (setRow (fun i c => if i < j then l i * A i c else A i c) j (A j)) = det n (fun i c => if i < j then l i * A i c else A i c) := det_ext fun i c _ _ => by
        show (if i = j then A j c else if i < j then l i * A i c else A i c) = _
        by_cases h1 : i = j
        · rw [if_pos h1, if_neg (by omega), h1]
        · rw [if_neg h1]
      rw [e1, e, e2, ih (by omega)]
      show _ = prodTo j l * l j * det n A
      grind
  rw [← key n (Nat.le_refl n)]
  exact det_ext fun i c hi _ => (if_pos hi).symm
theorem det_tri : ∀ {n : Nat} {A : Mx}, (∀ i c, i < n → c < i → A i c = 0) → det n A = prodTo n fun i => A i i
  | 0, A, _ => rfl
  | n + 1, A, h => by
    rw [det_edge fun c hc => h n c (by omega) hc, det_tri fun i c hi hc => h i c (by omega) hc]
    show _ = prodTo n (fun i => A i i) * A n n
    grind
/-- rows from j on have nothing in the columns up to j -/
theorem det_gap : ∀ {n : Nat} {A : Mx} {j : Nat}, j < n → (∀ i c, j ≤ i → i < n → c ≤ j → A i c = 0) → det n A = 0
  | 0, A, j, hj, _ => absurd hj (Nat.not_lt_zero _)
  | n + 1, A, j, hj, h => by
    have e : det (n + 1) A = sumTo (n + 1) fun c => sgn (n + c) * A n c * det n (minor c A) := rfl
    rw [e]
    refine sum_zero fun c hc => ?_
    by_cases h1 : c ≤ j
    · rw [h n c (by omega) (by omega) h1]; grind
    · have : det n (minor c A) = 0 := det_gap (j := j) (by omega) fun i c' hi hi2 hc' => by
        show A i (skip c c') = 0
        have : skip c c' = c' := by unfold skip; rw [if_pos (by omega)]
        rw [this]
        exact h i c' hi (by omega) hc'
      rw [this]; grind
section
variable {m w k pl : Nat} {A : Mx} {s p : Nat → Nat} {W : Mx} {d : Rat}
/-- the columns behind may be left out -/
theorem Gj.cut (G : Gj m w k pl A s p W d) {w' : Nat} (h1 : pl ≤ w') (h2 : w' ≤ w) : Gj m w' k pl A s p W d :=
  ⟨G.km, h1, G.d0, G.plt, G.mono, G.one, G.off, fun i hi => (G.piv i hi).imp fun f hf c hc => hf c (by omega), fun i h3 h4 => (G.oth i h3 h4).imp fun f hf c hc => hf c (by omega), G.dt, G.lead, G.done⟩
/-- too few pivots: no determinant -/
theorem Gj.sing (G : Gj m m k m A s p W d) (hk : k < m) (hs : ∀ i, i < m → s i < m) (inj : ∀ i j, i < m → j < m → s i = s j → i = j) : det m A = 0 := by
  obtain ⟨g, hg⟩ := G.oth k (Nat.le_refl k) hk
  have hd := G.done k (Nat.le_refl k) hk
  have d0 := G.d0
  have e : ∀ c, c < m → A (s k) c = sumTo k fun q => (-(g q) / d) * A (s q) c := fun c hc => by
    have z := hg c hc
    rw [hd c hc] at z
    have e : (sumTo k fun q => (-(g q) / d) * A (s q) c) = (-1 / d) * sumTo k fun q => g q * A (s q) c := by
      rw [← sum_mul]
      exact sum_congr fun q _ => by grind
    rw [e]
    grind
  have key : ∀ j, j ≤ k → det m (setRow A (s k) fun c => sumTo j fun q => (-(g q) / d) * A (s q) c) = 0 := by
    intro j
    induction j with
    | zero =>
      intro _
      have y := det_lin (n := m) (A := A) (r := s k) (a := 0) (b := 0) (u := fun _ => 0) (v := fun _ => 0) (hs k hk)
      have e2 : det m (setRow A (s k) fun c => sumTo 0 fun q => (-(g q) / d) * A (s q) c) = det m (setRow A (s k) fun c => (0 : Rat) * 0 + 0 * 0) := det_ext fun a b _ _ => by
        show (if a = s k then (0 : Rat) else _) = (if a = s k then (0 : Rat) * 0 + 0 * 0 else _)
        split
        · grind
        · rfl
      rw [e2, y]; grind
    | succ j ih =>
      intro hj
      have y := det_lin (n := m) (A := A) (r := s k) (a := 1) (b := -(g j) / d) (u := fun c => sumTo j fun q => (-(g q) / d) * A (s q) c) (v := A (s j)) (hs k hk)
      have e2 : det m (setRow A (s k) fun c => sumTo (j + 1) fun q => (-(g q) / d) * A (s q) c) = det m (setRow A (s k) fun c => 1 * (sumTo j fun q => (-(g q) / d) * A (s q) c) + (-(g j) / d) * A (s j) c) := det_ext fun a b _ _ => by
        show (if a = s k then _ else _) = (if a = s k then _ else _)
        split
        · show (sumTo j fun q => (-(g q) / d) * A (s q) b) + (-(g j) / d) * A (s j) b = 1 * (sumTo j fun q => (-(g q) / d) * A (s q) b) + (-(g j) / d) * A (s j) b
          rw [Rat.one_mul]
        · rfl
      have z : det m (setRow A (s k) (A (s j))) = 0 := det_same (hs k hk) (hs j (by omega)) (fun z => by have := inj k j hk (by omega) z; omega) fun c => by
        have hne : s j ≠ s k := fun z => by have := inj j k (by omega) hk z; omega
        rw [setRow_eq, setRow_ne hne]
      rw [e2, y, ih (by omega), z]; grind
  have z := key k (Nat.le_refl k)
  have e3 : det m A = det m (setRow A (s k) fun c => sumTo k fun q => (-(g q) / d) * A (s q) c) := det_ext fun a b _ hb => by
    show A a b = (if a = s k then _ else A a b)
    split
    · rename_i h; rw [h]; exact e b hb
    · rfl
  rw [e3, z]
/-- from any column on to the end -/
theorem Gj.complete : ∀ (n : Nat) {k pl : Nat} {s p : Nat → Nat} {W : Mx} {d : Rat}, pl + n = w → Gj m w k pl A s p W d → k < pl → (∀ i, i < m → s i < m) → (∀ i j, i < m → j < m → s i = s j → i = j) →
    ∃ (k' : Nat) (s' p' : Nat → Nat) (W' : Mx) (d' : Rat), Gj m w k' w A s' p' W' d' ∧ k' < w ∧ (∀ i, i < m → s' i < m) ∧ ∀ i j, i < m → j < m → s' i = s' j → i = j
  | 0, k, pl, s, p, W, d, e, G, hk, hs, inj => by
    have : pl = w := by omega
    subst this
    exact ⟨k, s, p, W, d, G, hk, hs, inj⟩
  | n + 1, k, pl, s, p, W, d, e, G, hk, hs, inj => by
    by_cases h : ∀ i, k ≤ i → i < m → W i pl = 0
    · exact Gj.complete n (by omega) (G.pass (by omega) h) (by omega) hs inj
    · have h : ∃ f, k ≤ f ∧ f < m ∧ W f pl ≠ 0 := by
        refine Classical.byContradiction fun z => h fun i h1 h2 => Classical.byContradiction fun y => z ⟨i, h1, h2, y⟩
      obtain ⟨f, h1, h2, h3⟩ := h
      have tm : ∀ i, i < m → tr k f i < m := fun i hi => tr_lt (by omega) h2 hi
      have tt : ∀ i, tr k f (tr k f i) = i := fun i => by
        unfold tr
        repeat' split
        all_goals omega
      have G1 := G.swap h1 h2
      have : tr k f k = f := if_pos rfl
      have G2 := G1.step (by omega) (by omega) (by show W (tr k f k) pl ≠ 0; rw [this]; exact h3)
      exact Gj.complete n (by omega) G2 (by omega) (fun i hi => hs _ (tm i hi)) fun i j hi hj z => by
        have := inj _ _ (tm i hi) (tm j hj) z
        have := congrArg (tr k f) this
        rwa [tt, tt] at this
/-- a sum of the pivots' rows that is empty at the pivots is empty -/
theorem Gj.emptyG (G : Gj m w k pl A s p W d) {f : Nat → Rat} (h : ∀ j, j < k → (sumTo k fun q => f q * A (s q) (p j)) = 0) : ∀ q, q < k → f q = 0 := (G.cut (Nat.le_refl pl) G.plw).empty h
/-- a row at a pivot is a sum of the rows made -/
theorem Gj.low (G : Gj m w k pl A s p W d) : ∀ q, q < k → ∀ c, c < w → A (s q) c = sumTo k fun j => A (s q) (p j) * (W j c / d) := fun q hq c hc => by
  have d0 := G.d0
  have plw := G.plw
  have hf : ∀ j, ∃ f : Nat → Rat, j < k → ∀ c, c < w → W j c = sumTo k fun t => f t * A (s t) c := fun j => by
    by_cases hj : j < k
    · obtain ⟨f, hf⟩ := G.piv j hj; exact ⟨f, fun _ => hf⟩
    · exact ⟨fun _ => 0, fun z => absurd z hj⟩
  let h : Nat → Rat := fun t => (if t = q then 1 else 0) - sumTo k fun j => A (s q) (p j) / d * (hf j).choose t
  have hh : ∀ c, c < w → (sumTo k fun t => h t * A (s t) c) = A (s q) c - sumTo k fun j => A (s q) (p j) * (W j c / d) := fun c hc => by
    have e1 : (sumTo k fun t => h t * A (s t) c) = (sumTo k fun t => (if t = q then 1 else 0) * A (s t) c) + (-1) * sumTo k fun t => sumTo k fun j => (A (s q) (p j) / d * (hf j).choose t) * A (s t) c := by
      rw [← sum_mul, ← sum_add]
      refine sum_congr fun t _ => ?_
      have e3 : (sumTo k fun j => (A (s q) (p j) / d * (hf j).choose t) * A (s t) c) = A (s t) c * sumTo k fun j => A (s q) (p j) / d * (hf j).choose t := by
        rw [← sum_mul]
        exact sum_congr fun j _ => by grind
      rw [e3]
      show ((if t = q then 1 else 0) - _) * A (s t) c = _
      grind
    rw [e1, sum_swap, sum_one hq fun t _ hne => by rw [if_neg hne]; grind]
    rw [if_pos rfl]
    have e4 : (sumTo k fun j => sumTo k fun t => (A (s q) (p j) / d * (hf j).choose t) * A (s t) c) = sumTo k fun j => A (s q) (p j) * (W j c / d) := sum_congr fun j hj => by
      rw [(hf j).choose_spec hj c hc]
      have e5 : (sumTo k fun t => (A (s q) (p j) / d * (hf j).choose t) * A (s t) c) = (A (s q) (p j) / d) * sumTo k fun t => (hf j).choose t * A (s t) c := by
        rw [← sum_mul]
        exact sum_congr fun t _ => by grind
      rw [e5]
      grind
    rw [e4]
    grind
  have z := G.emptyG (f := h) fun j hj => by
    have := G.plt j hj
    rw [hh _ (by omega), sum_one hj fun i hi hne => by rw [G.one i j hi hj, if_neg hne]; grind]
    rw [G.one j j hj hj, if_pos rfl]
    have : d / d = 1 := by grind
    grind
  have y := hh c hc
  rw [sum_zero fun t ht => by rw [z t ht]; grind] at y
  grind
end
end DetQ
end

section
set_option linter.all false
set_option autoImplicit false
set_option maxRecDepth 100000
/-! W4: elimination without fractions, by lists: the plain part. -/
namespace Sm
open PySem DetQ
def ent (W : List (List Int)) (i c : Nat) : Int := (W.getD i []).getD c 0
def mx (W : List (List Int)) : Mx := fun i c => ((ent W i c : Int) : Rat)
theorem _root_.DetQ.Gj.congr {m w k pl : Nat} {A : Mx} {s p : Nat → Nat} {W W' : Mx} {d : Rat} (G : Gj m w k pl A s p W d) (h : ∀ i c, i < m → c < w → W' i c = W i c) : Gj m w k pl A s p W' d := by
  have km := G.km
  have plw := G.plw
  have plt := G.plt
  refine ⟨G.km, G.plw, G.d0, G.plt, G.mono, fun i j h1 h2 => ?_, fun i j h1 h2 h3 => ?_, fun i h1 => ?_, fun i h1 h2 => ?_, G.dt, fun i h1 c hc => ?_, fun i h1 h2 c hc => ?_⟩
  · have := plt j h2
    rw [h i (p j) (by omega) (by omega)]; exact G.one i j h1 h2
  · have := plt j h3
    rw [h i (p j) (by omega) (by omega)]; exact G.off i j h1 h2 h3
  · obtain ⟨f, hf⟩ := G.piv i h1
    exact ⟨f, fun c hc => by rw [h i c (by omega) hc]; exact hf c hc⟩
  · obtain ⟨f, hf⟩ := G.oth i h1 h2
    exact ⟨f, fun c hc => by rw [h i c (by omega) hc]; exact hf c hc⟩
  · have := plt i h1
    rw [h i c (by omega) (by omega)]; exact G.lead i h1 c hc
  · rw [h i c (by omega) (by omega)]; exact G.done i h1 h2 c hc
theorem exact_fdiv {x b : Int} (hb : b ≠ 0) (h : IsZ ((x : Rat) / (b : Rat))) : ((x.fdiv b : Int) : Rat) = (x : Rat) / (b : Rat) ∧ (x.fdiv b).natAbs ≤ x.natAbs := by
  obtain ⟨z, hz⟩ := h
  have hb' : (b : Rat) ≠ 0 := by
    intro e
    exact hb (by exact_mod_cast e)
  have e : (x : Rat) = ((b * z : Int) : Rat) := by
    rw [Rat.intCast_mul, ← hz]
    grind
  have e2 : x = b * z := by exact_mod_cast e
  have e3 : x.fdiv b = z := by rw [e2]; exact Int.mul_fdiv_cancel_left z hb
  refine ⟨by rw [e3, hz], ?_⟩
  rw [e3, e2, Int.natAbs_mul]
  exact Nat.le_mul_of_pos_left _ (by omega)
def Bk (K k : Nat) : Nat := 2 ^ k * (K + 1) - 1
theorem Bk_succ {K k : Nat} : Bk K (k + 1) = 2 * Bk K k + 1 := by
  unfold Bk
  have h1 : 0 < 2 ^ k * (K + 1) := Nat.mul_pos (Nat.pow_pos (by decide)) (by omega)
  have h2 : 2 ^ (k + 1) * (K + 1) = 2 * (2 ^ k * (K + 1)) := by rw [Nat.pow_succ, Nat.mul_comm (2 ^ k) 2, Nat.mul_assoc]
  omega
theorem Bk_mono {K j k : Nat} (h : j ≤ k) : Bk K j ≤ Bk K k := by
  unfold Bk
  have := Nat.mul_le_mul_right (K + 1) (Nat.pow_le_pow_right (show 0 < 2 by decide) h)
  omega
def swapL (W : List (List Int)) (k f : Nat) : List (List Int) := (W.set k (W.getD f [])).set f (W.getD k [])
theorem swapL_getD {W : List (List Int)} {k f : Nat} (hk : k < W.length) (hf : f < W.length) (i : Nat) : (swapL W k f).getD i [] = W.getD (tr k f i) [] := by
  unfold swapL tr
  simp only [List.getD_eq_getElem?_getD, List.getElem?_set, List.length_set]
  by_cases h1 : f = i
  · subst h1
    by_cases h2 : f = k
    · subst h2; simp [hk]
    · simp [hf, h2]
  · by_cases h2 : k = i
    · subst h2; simp [h1, hk]
    · simp [h1, h2, Ne.symm h1, Ne.symm h2]
theorem elim_len {r c : List Int} {pl : Nat} {b : Int} (h : r.length = c.length) : (elim r c pl b).length = r.length := by
  unfold elim
  rw [List.length_zipWith]
  omega
theorem elim_getD {r c : List Int} {pl j : Nat} {b : Int} (h : r.length = c.length) (hj : j < r.length) : (elim r c pl b).getD j 0 = (c.getD pl 0 * r.getD j 0 - r.getD pl 0 * c.getD j 0).fdiv b := by
  unfold elim
  simp only [List.getD_eq_getElem?_getD, List.getElem?_zipWith, List.getElem?_eq_getElem hj, List.getElem?_eq_getElem (h ▸ hj)]
  rfl
/-- what stands in `reduced` when the columns below pl are done -/
structure RS (m w K : Nat) (A : Mx) (pl k : Nat) (s p : Nat → Nat) (W : List (List Int)) (bot : Int) : Prop where
  gj : Gj m w k pl A s p (mx W) (bot : Rat)
  len : W.length = m
  wid : ∀ r ∈ W, r.length = w
  sm : ∀ i, i < m → s i < m
  on : ∀ a, a < m → ∃ i, i < m ∧ s i = a
  inj : ∀ i j, i < m → j < m → s i = s j → i = j
  bd : ∀ r ∈ W, ∀ x ∈ r, x.natAbs < 2 ^ Bk K k
  bb : bot.natAbs < 2 ^ Bk K k
  sgd : ∃ e : Rat, e * e = 1 ∧ det m (fun a b => A (s a) b) = e * det m A
section
variable {m w K pl k : Nat} {A : Mx} {s p : Nat → Nat} {W : List (List Int)} {bot : Int}
theorem RS.bot0 (R : RS m w K A pl k s p W bot) : bot ≠ 0 := fun e => R.gj.d0 (by rw [e]; rfl)
theorem RS.row (R : RS m w K A pl k s p W bot) {i : Nat} (hi : i < m) : W.getD i [] ∈ W := by
  rw [List.getD_eq_getElem?_getD, List.getElem?_eq_getElem (by rw [R.len]; exact hi)]
  exact List.getElem_mem _
theorem RS.pass (R : RS m w K A pl k s p W bot) (hw : pl < w) (h : ∀ i, k ≤ i → i < W.length → ent W i pl = 0) : RS m w K A (pl + 1) k s p W bot :=
  ⟨R.gj.pass hw fun i h1 h2 => by show ((ent W i pl : Int) : Rat) = 0; rw [h i h1 (by rw [R.len]; exact h2)]; rfl, R.len, R.wid, R.sm, R.on, R.inj, R.bd, R.bb, R.sgd⟩
theorem mem_getD {V : List (List Int)} {r : List Int} (h : r ∈ V) : ∃ i, i < V.length ∧ V.getD i [] = r := by
  obtain ⟨i, hi, e⟩ := List.getElem_of_mem h
  exact ⟨i, hi, by rw [List.getD_eq_getElem?_getD, List.getElem?_eq_getElem hi, e]; rfl⟩
theorem RS.swap (R : RS m w K A pl k s p W bot) {f : Nat} (hf : k ≤ f) (hfm : f < m) : RS m w K A pl k (fun i => s (tr k f i)) p (swapL W k f) bot := by
  have hl := R.len
  have tm : ∀ i, i < m → tr k f i < m := fun i hi => tr_lt (by omega) hfm hi
  have tt : ∀ i, tr k f (tr k f i) = i := fun i => by
    unfold tr
    repeat' split
    all_goals omega
  have hmem : ∀ r ∈ swapL W k f, r ∈ W := fun r hr => by
    obtain ⟨i, hi, e⟩ := mem_getD hr
    rw [swapL_getD (by omega) (by omega)] at e
    have : i < m := by unfold swapL at hi; rw [List.length_set, List.length_set] at hi; omega
    rw [← e]
    exact R.row (tm i this)
  refine ⟨(R.gj.swap hf hfm).congr fun i c _ _ => ?_, by unfold swapL; rw [List.length_set, List.length_set]; exact hl, fun r hr => R.wid r (hmem r hr), fun i hi => R.sm _ (tm i hi), fun a ha => ?_, fun i j hi hj z => by
    have z := congrArg (tr k f) (R.inj _ _ (tm i hi) (tm j hj) z)
    rwa [tt, tt] at z, fun r hr => R.bd r (hmem r hr), R.bb, ?_⟩
  · show ((ent (swapL W k f) i c : Int) : Rat) = ((ent W (tr k f i) c : Int) : Rat)
    unfold ent
    rw [swapL_getD (by omega) (by omega)]
  · obtain ⟨i, hi, e⟩ := R.on a ha
    exact ⟨tr k f i, tm i hi, by show s (tr k f (tr k f i)) = a; rw [tt, e]⟩
  · obtain ⟨e, e1, e2⟩ := R.sgd
    by_cases hfk : f = k
    · refine ⟨e, e1, ?_⟩
      rw [← e2]
      refine det_ext fun a b _ _ => ?_
      have : tr k f a = a := by
        unfold tr
        repeat' split
        all_goals omega
      rw [this]
    · refine ⟨-e, by grind, ?_⟩
      have := det_tr (n := m) (A := fun a b => A (s a) b) (r := k) (s := f) (by omega) hfm (Ne.symm hfk)
      rw [e2] at this
      have e3 : det m (fun a b => A (s (tr k f a)) b) = -(e * det m A) := this
      rw [e3]
      grind
theorem RS.step (R : RS m w K A pl k s p W bot) (hA : ∀ i c, i < m → c < w → IsZ (A i c)) (hk : k < m) (hw : pl < w) (hr : ent W k pl ≠ 0) {V : List (List Int)} (hV : V.length = m)
    (hV2 : ∀ i, i < m → V.getD i [] = if i ≠ k then elim (W.getD i []) (W.getD k []) pl bot else W.getD k []) : RS m w K A (pl + 1) (k + 1) s (ext p k pl) V (ent W k pl) := by
  have hb := R.bot0
  have hr' : mx W k pl ≠ 0 := by
    intro e
    exact hr (by exact_mod_cast (show ((ent W k pl : Int) : Rat) = 0 from e))
  have G := R.gj.step hk hw hr'
  have hZ := G.whole R.sm hA
  have wl : ∀ i, i < m → (W.getD i []).length = w := fun i hi => R.wid _ (R.row hi)
  have hbd : ∀ i c, i < m → (ent W i c).natAbs < 2 ^ Bk K k := fun i c hi => getD_bound (R.bd _ (R.row hi))
  have key : ∀ i c, i < m → c < w → mx V i c = clr (mx W) k pl (bot : Rat) i c ∧ (ent V i c).natAbs < 2 ^ Bk K (k + 1) := fun i c hi hc => by
    have pw : 2 ^ Bk K k ≤ 2 ^ Bk K (k + 1) := Nat.pow_le_pow_right (by decide) (Bk_mono (Nat.le_succ k))
    have hz := hZ i c hi hc
    by_cases e : i = k
    · subst e
      have : V.getD i [] = W.getD i [] := by rw [hV2 i hi, if_neg (by omega)]
      refine ⟨?_, ?_⟩
      · show ((ent V i c : Int) : Rat) = if i = i then ((ent W i c : Int) : Rat) else _
        rw [if_pos rfl]
        unfold ent
        rw [this]
      · unfold ent
        rw [this]
        have := hbd i c hi
        unfold ent at this
        omega
    · have eV : ent V i c = (ent W k pl * ent W i c - ent W i pl * ent W k c).fdiv bot := by
        unfold ent
        rw [hV2 i hi, if_pos e, elim_getD (by rw [wl i hi, wl k hk]) (by rw [wl i hi]; exact hc)]
      have ec : clr (mx W) k pl (bot : Rat) i c = ((ent W k pl * ent W i c - ent W i pl * ent W k c : Int) : Rat) / (bot : Rat) := by
        show (if i = k then _ else (((ent W k pl : Int) : Rat) * ((ent W i c : Int) : Rat) - ((ent W i pl : Int) : Rat) * ((ent W k c : Int) : Rat)) / (bot : Rat)) = _
        rw [if_neg e, Rat.intCast_sub, Rat.intCast_mul, Rat.intCast_mul]
      rw [ec] at hz
      obtain ⟨q1, q2⟩ := exact_fdiv hb hz
      refine ⟨?_, ?_⟩
      · show ((ent V i c : Int) : Rat) = _
        rw [eV, ec, q1]
      · rw [eV, Bk_succ]
        have h1 : (ent W k pl * ent W i c).natAbs < 2 ^ Bk K k * 2 ^ Bk K k := by
          rw [Int.natAbs_mul]
          exact Nat.mul_lt_mul'' (hbd k pl hk) (hbd i c hi)
        have h2 : (ent W i pl * ent W k c).natAbs < 2 ^ Bk K k * 2 ^ Bk K k := by
          rw [Int.natAbs_mul]
          exact Nat.mul_lt_mul'' (hbd i pl hi) (hbd k c hk)
        have h3 : 2 ^ (2 * Bk K k + 1) = 2 * (2 ^ Bk K k * 2 ^ Bk K k) := by
          rw [Nat.pow_succ, Nat.two_mul, Nat.pow_add]
          omega
        have h4 := Int.natAbs_sub_le (ent W k pl * ent W i c) (ent W i pl * ent W k c)
        omega
  have vw : ∀ r ∈ V, r.length = w := fun r hr2 => by
    obtain ⟨i, hi, e⟩ := mem_getD hr2
    rw [hV] at hi
    rw [← e, hV2 i hi]
    split
    · rw [elim_len (by rw [wl i hi, wl k hk]), wl i hi]
    · exact wl k hk
  refine ⟨G.congr fun i c h1 h2 => (key i c h1 h2).1, hV, vw, R.sm, R.on, R.inj, fun r hr2 x hx => ?_, ?_, R.sgd⟩
  · obtain ⟨i, hi, e⟩ := mem_getD hr2
    rw [hV] at hi
    obtain ⟨c, hc, e2⟩ := List.getElem_of_mem hx
    have hcw : c < w := by rw [← vw r hr2]; exact hc
    have := (key i c hi hcw).2
    unfold ent at this
    rw [e, List.getD_eq_getElem?_getD, List.getElem?_eq_getElem hc, Option.getD_some, e2] at this
    exact this
  · have := hbd k pl hk
    have pw : 2 ^ Bk K k ≤ 2 ^ Bk K (k + 1) := Nat.pow_le_pow_right (by decide) (Bk_mono (Nat.le_succ k))
    omega
end
theorem RS.start {m w K : Nat} (hK : 1 ≤ K) {Z : List (List Int)} (hl : Z.length = m) (hw : ∀ r ∈ Z, r.length = w) (hb : ∀ r ∈ Z, ∀ x ∈ r, x.natAbs < 2 ^ K) : RS m w K (mx Z) 0 0 (fun i => i) (fun i => i) Z 1 :=
  ⟨Gj.start, hl, hw, fun _ h => h, fun a h => ⟨a, h, rfl⟩, fun _ _ _ _ z => z, fun r hr x hx => by
    have : Bk K 0 = K := by unfold Bk; omega
    rw [this]
    exact hb r hr x hx, Nat.one_lt_two_pow_iff.mpr (by unfold Bk; omega), ⟨1, by grind, by rw [Rat.one_mul]⟩⟩
end Sm
end

section
set_option linter.all false
set_option autoImplicit false
set_option maxRecDepth 100000
/-! W5: elimination without fractions: the walk. -/
namespace Sm
open PySem DetQ
local macro_rules | `(tactic| simp! [$ls,*]) => `(tactic| simp only [evSs, evS, evE, evEs, as_nil, as_io, as_scr, as_bor, as_var, as_non, as_bl, as_int, as_str, as_tup, as_lst, as_bin, as_neg, as_not, as_cmp, as_and, as_or, as_ife, as_idx, as_slc, as_slcS, as_call, as_cal, as_isi, as_lc, hof_bor, hof_var, hof_non, hof_bl, hof_int, hof_str, hof_tup, hof_lst, hof_bin, hof_neg, hof_not, hof_cmp, hof_and, hof_or, hof_ife, hof_idx, hof_slc, hof_slcS, hof_call, hof_cal, hof_isi, hof_lc, evPof, evIt, Res.bind, rdB, rdE, rdO, rdS, Hd.look, opt, Sl.see, List.getElem?_cons_zero, List.getElem?_cons_succ, List.getD_cons_zero, List.getD_cons_succ, len_tup, len_lst, bi_int, bi_intb, bi_abs, bi_tupl, bi_tupt, bi_lstl, bi_lstt, bi_gcd, Cop.ev, Bop.ev, add_ii, add_tt, add_ll, sub_ii, neg_ii, D.ltI, isN_n, isN_i, isN_t, isN_l, isN_b, items_t, items_l, eqv_int, truthM, D.truth, nx, put_free, free_un, free_dat, free_own, free_bor, chg, List.set, asListO, It.locks, Ex.lock, Sl.lock, Sl.unlock, lockE, unlockE, wipeE, backE, fillA, callM, ioBack, iosOf, Option.map_some, if_true, List.length_cons, List.length_nil, List.replicate, List.cons_append, List.nil_append, List.append_nil, Nat.zero_add, List.any_cons, List.any_nil, ty_int_obj, ty_bool_obj, ty_str_obj, ty_list_obj, ty_tuple_obj, ty_cls_non, ty_cls_bl, ty_cls_int, ty_cls_str, ty_cls_tup, ty_cls_lst, ty_cls_obj, ty_int_non, ty_int_bl, ty_int_int, ty_int_str, ty_int_tup, ty_int_lst, ty_bool_non, ty_bool_bl, ty_bool_int, ty_bool_str, ty_bool_tup, ty_bool_lst, ty_str_non, ty_str_bl, ty_str_int, ty_str_str, ty_str_tup, ty_str_lst, ty_list_non, ty_list_bl, ty_list_int, ty_list_str, ty_list_tup, ty_list_lst, ty_tuple_non, ty_tuple_bl, ty_tuple_int, ty_tuple_str, ty_tuple_tup, ty_tuple_lst, Bool.or_false, Bool.false_or, Bool.not_true, Bool.not_false, Bool.true_or, Bool.or_true, ap_nil, ap1, ap2, ap3, ap4, ap_b, ap_bb, ap_bd, ap_db, ap_bdd, ap_dbd, ap_dbdd, ap_bbd, ap_ddbd, ap_dbb, ap_ddb, ap_bdb, ap_bddb, ap_bddbd, ap_s, ap_do, ap_dodd, ap_doddd, idx0l, idx0t, idx1l, idx1t, Nat.reduceAdd, Nat.reduceSub, Nat.reduceLeDiff, List.drop, Tg.put, intP, frzE, beq_self_eq_true, size1, size2, size0, $ls,*])
def dn (n : Nat) : D := .int (n : Int)
theorem rng1_n {n : Nat} (h : n ≤ sizeLine) : rng1D (.int (n : Int)) = some ((List.range n).map dn) := by
  rw [rng1_nat h, rangeD_nat]
  rfl
theorem rng2_n {a b : Nat} (ha : a ≤ sizeLine) (hb : b ≤ sizeLine) : rng2D (.int (a : Int)) (.int (b : Int)) = some ((List.range (b - a)).map fun k => dn (a + k)) := by
  have hs : (sizeLine : Int) < 2 ^ 62 := by decide
  have s1 : smallI (a : Int) = true := by
    unfold smallI
    rw [Nat.blt_eq]
    omega
  have s2 : smallI (b : Int) = true := by
    unfold smallI
    rw [Nat.blt_eq]
    omega
  show (if smallI (a : Int) = true ∧ smallI (b : Int) = true then some (rangeD (a : Int) 1 ((b : Int) - (a : Int)).toNat) else none) = _
  rw [if_pos ⟨s1, s2⟩]
  have e : ((b : Int) - (a : Int)).toNat = b - a := by omega
  rw [e]
  unfold rangeD
  congr 1
  refine List.map_congr_left fun k _ => ?_
  show D.int ((a : Int) + (k : Int) * 1) = D.int ((a + k : Nat) : Int)
  rw [Int.mul_one, Int.natCast_add]
def wl (W : List (List Int)) : D := .lst (W.map zd)
theorem idx_wl {W : List (List Int)} {i : Nat} (h : i < W.length) : D.idx (wl W) (.int (i : Int)) = some (zd (W.getD i [])) := by
  refine idx_lst ?_
  rw [List.getElem?_map, List.getD_eq_getElem?_getD, List.getElem?_eq_getElem h]
  rfl
section
variable {T : List Fn} {I : Ix} {n : Nat}
theorem first_filled_ok (H : HRow T I) {W : List (List Int)} {st pl : Nat} (hW : ∀ r ∈ W, pl < r.length) (hs : W.length ≤ sizeLine) (hst : st ≤ W.length) {a : Ar} (ha : ArB a (wl W)) :
    (evF T (n + 1) I.first_filled [a, .d (.int (st : Int)), .d (.int (pl : Int))] = .ok .non [] ∧ ∀ i, st ≤ i → i < W.length → ent W i pl = 0) ∨
    ∃ f : Nat, st ≤ f ∧ f < W.length ∧ ent W f pl ≠ 0 ∧ evF T (n + 1) I.first_filled [a, .d (.int (st : Int)), .d (.int (pl : Int))] = .ok (.int (f : Int)) [] := by
  have he : entry (F_first_filled I).mos [a, .d (.int (st : Int)), .d (.int (pl : Int))] = some [.bor (wl W), .dat (.int (st : Int)), .dat (.int (pl : Int))] := by
    show entry [.b, .d, .d] _ = _
    rw [entry_b ha]
    rfl
  rw [run_eq H.first_filled he]
  have hit : evIt (evF T n) (.rng2 (.var 1) (.cal .len (.cons (.bor 0) .nil))) [.bor (wl W), .dat (.int (st : Int)), .dat (.int (pl : Int)), .un] = .ok ((List.range (W.length - st)).map fun k => dn (st + k)) [.bor (wl W), .dat (.int (st : Int)), .dat (.int (pl : Int)), .un] := by
    have := rng2_n (a := st) (b := W.length) (by omega) hs
    simp! [wl, List.length_map, this]
  rcases for_inv (tg := .nm 3) (body := evSs (evF T n) (b_first_filled_0 I)) (fun k => dn (st + k)) (fun x ρ => ∃ f : Nat, x = .int (f : Int) ∧ st ≤ f ∧ f < W.length ∧ ent W f pl ≠ 0 ∧ iosOf [.b, .d, .d] ρ = []) (List.range (W.length - st)) (fun j ρ => ∃ s3, ρ = [.bor (wl W), .dat (.int (st : Int)), .dat (.int (pl : Int)), s3] ∧ s3.free = true ∧ ∀ i, st ≤ i → i < st + j → ent W i pl = 0) (ρ := [.bor (wl W), .dat (.int (st : Int)), .dat (.int (pl : Int)), .un]) ⟨.un, rfl, rfl, fun i h1 h2 => absurd h2 (by omega)⟩ (by
    rintro j k ρ hk ⟨s3, rfl, f3, h0⟩
    have hj : j < W.length - st := by
      have := (List.getElem?_eq_some_iff.mp hk).1
      rwa [List.length_range] at this
    have ek : k = j := by
      rw [List.getElem?_range hj] at hk
      exact (Option.some.inj hk).symm
    subst ek
    have hi : st + k < W.length := by omega
    have hrow : W.getD (st + k) [] ∈ W := by
      rw [List.getD_eq_getElem?_getD, List.getElem?_eq_getElem hi]
      exact List.getElem_mem _
    have i1 := idx_wl hi
    have i2 := idx_zd (hW _ hrow)
    by_cases hz : ent W (st + k) pl = 0
    · left
      refine ⟨.nx, _, ?_, .inl rfl, .dat (dn (st + k)), rfl, rfl, fun i h1 h2 => ?_⟩
      · have hz' : ((W.getD (st + k) []).getD pl 0 == 0) = true := by
          unfold ent at hz
          rw [hz]; rfl
        simp! [b_first_filled_0, dn, f3, i1, i2, hz']
      · by_cases e : i = st + k
        · rw [e]; exact hz
        · exact h0 i h1 (by omega)
    · right
      refine ⟨.int ((st + k : Nat) : Int), [.bor (wl W), .dat (.int (st : Int)), .dat (.int (pl : Int)), .dat (dn (st + k))], ?_, st + k, rfl, by omega, hi, hz, rfl⟩
      have hz' : ((W.getD (st + k) []).getD pl 0 == 0) = false := by
        rw [beq_eq_false_iff_ne]
        exact hz
      simp! [b_first_filled_0, dn, f3, i1, i2, hz']) with ⟨ρ', e, s3, rfl, _, h0⟩ | ⟨x, ρ', e, f, rfl, h1, h2, h3, h4⟩
  · left
    have es : evS (evF T n) (s_first_filled_0 I) [.bor (wl W), .dat (.int (st : Int)), .dat (.int (pl : Int)), .un] = .ok .nx [.bor (wl W), .dat (.int (st : Int)), .dat (.int (pl : Int)), s3] := for_st3 hit rfl e rfl
    refine ⟨by simp! [F_first_filled, es], fun i h1 h2 => h0 i h1 ?_⟩
    rw [List.length_range]
    omega
  · right
    refine ⟨f, h1, h2, h3, ?_⟩
    have es : evS (evF T n) (s_first_filled_0 I) [.bor (wl W), .dat (.int (st : Int)), .dat (.int (pl : Int)), .un] = .ok (.rt (.int (f : Int))) ρ' := for_st3 hit rfl e rfl
    have h4' : iosOf (F_first_filled I).mos ρ' = [] := h4
    have eF : (F_first_filled I).body = .cons (s_first_filled_0 I) (.cons (.ret .non) .nil) := rfl
    have eb : evSs (evF T n) (F_first_filled I).body [.bor (wl W), .dat (.int (st : Int)), .dat (.int (pl : Int)), .un] = .ok (.rt (.int (f : Int))) ρ' := by
      rw [eF]
      simp! [es]
    show (match evSs (evF T n) (F_first_filled I).body [.bor (wl W), .dat (.int (st : Int)), .dat (.int (pl : Int)), .un] with
      | .ok (.rt d) ρ => FRes.ok d (iosOf (F_first_filled I).mos ρ)
      | .ok .nx ρ => if (F_first_filled I).own = true then .bad else .ok .non (iosOf (F_first_filled I).mos ρ)
      | .exc c x _ => if (F_first_filled I).mos.contains .o = true then .bad else .exc c x
      | _ => .bad) = _
    rw [eb]
    show FRes.ok _ (iosOf (F_first_filled I).mos ρ') = _
    rw [h4']
end
end Sm
end

section
set_option linter.all false
set_option autoImplicit false
set_option maxRecDepth 100000
/-! W6: reduced: the walk. -/
namespace Sm
open PySem DetQ
local macro_rules | `(tactic| simp! [$ls,*]) => `(tactic| simp only [evSs, evS, evE, evEs, as_nil, as_io, as_scr, as_bor, as_var, as_non, as_bl, as_int, as_str, as_tup, as_lst, as_bin, as_neg, as_not, as_cmp, as_and, as_or, as_ife, as_idx, as_slc, as_slcS, as_call, as_cal, as_isi, as_lc, hof_bor, hof_var, hof_non, hof_bl, hof_int, hof_str, hof_tup, hof_lst, hof_bin, hof_neg, hof_not, hof_cmp, hof_and, hof_or, hof_ife, hof_idx, hof_slc, hof_slcS, hof_call, hof_cal, hof_isi, hof_lc, evPof, evIt, Res.bind, rdB, rdE, rdO, rdS, Hd.look, opt, Sl.see, List.getElem?_cons_zero, List.getElem?_cons_succ, List.getD_cons_zero, List.getD_cons_succ, len_tup, len_lst, bi_int, bi_intb, bi_abs, bi_tupl, bi_tupt, bi_lstl, bi_lstt, bi_gcd, Cop.ev, Bop.ev, add_ii, add_tt, add_ll, sub_ii, neg_ii, D.ltI, isN_n, isN_i, isN_t, isN_l, isN_b, items_t, items_l, eqv_int, truthM, D.truth, nx, put_free, free_un, free_dat, free_own, free_bor, chg, List.set, asListO, It.locks, Ex.lock, Sl.lock, Sl.unlock, lockE, unlockE, wipeE, backE, fillA, callM, ioBack, iosOf, Option.map_some, if_true, List.length_cons, List.length_nil, List.replicate, List.cons_append, List.nil_append, List.append_nil, Nat.zero_add, List.any_cons, List.any_nil, ty_int_obj, ty_bool_obj, ty_str_obj, ty_list_obj, ty_tuple_obj, ty_cls_non, ty_cls_bl, ty_cls_int, ty_cls_str, ty_cls_tup, ty_cls_lst, ty_cls_obj, ty_int_non, ty_int_bl, ty_int_int, ty_int_str, ty_int_tup, ty_int_lst, ty_bool_non, ty_bool_bl, ty_bool_int, ty_bool_str, ty_bool_tup, ty_bool_lst, ty_str_non, ty_str_bl, ty_str_int, ty_str_str, ty_str_tup, ty_str_lst, ty_list_non, ty_list_bl, ty_list_int, ty_list_str, ty_list_tup, ty_list_lst, ty_tuple_non, ty_tuple_bl, ty_tuple_int, ty_tuple_str, ty_tuple_tup, ty_tuple_lst, Bool.or_false, Bool.false_or, Bool.not_true, Bool.not_false, Bool.true_or, Bool.or_true, ap_nil, ap1, ap2, ap3, ap4, ap_b, ap_bb, ap_bd, ap_db, ap_bdd, ap_dbd, ap_dbdd, ap_bbd, ap_ddbd, ap_dbb, ap_ddb, ap_bdb, ap_bddb, ap_bddbd, ap_s, ap_do, ap_dodd, ap_doddd, idx0l, idx0t, idx1l, idx1t, Nat.reduceAdd, Nat.reduceSub, Nat.reduceLeDiff, List.drop, Tg.put, intP, frzE, beq_self_eq_true, size1, size2, size0, $ls,*])
theorem ixN_nat {n k : Nat} (h : k < n) : L2.ixN n (k : Int) = some k := by
  unfold L2.ixN
  rw [if_pos (by omega), if_pos (by omega), Int.toNat_natCast]
theorem getD_set {V : List (List Int)} {j i : Nat} {r : List Int} (hj : j < V.length) : (V.set j r).getD i [] = if i = j then r else V.getD i [] := by
  simp only [List.getD_eq_getElem?_getD, List.getElem?_set]
  by_cases h : j = i
  · subst h; simp [hj]
  · simp [h, Ne.symm h]
theorem beq_dn {a b : Nat} : ((a : Int) == (b : Int)) = decide (a = b) := by
  by_cases h : a = b
  · subst h; simp
  · rw [decide_eq_false h, beq_eq_false_iff_ne]
    omega
section
variable {T : List Fn} {I : Ix} {n : Nat}
theorem red_in (H : HRow T I) {W : List (List Int)} {m w k pl K : Nat} {bot : Int} {s0 s1 s3 s4 s8 s10 s11 : Sl} (hl : W.length = m) (hw : ∀ r ∈ W, r.length = w) (hk : k < m) (hpl : pl < w) (hb : bot ≠ 0) (hbk : bot.natAbs < 2 ^ K) (hbd : ∀ r ∈ W, ∀ x ∈ r, x.natAbs < 2 ^ K) (hK : K ≤ 9000) (hm : m ≤ 100) (hw2 : w ≤ 100) (f10 : s10.free = true) :
    ∃ (V : List (List Int)) (s10' : Sl), evS (evF T (n + 1)) (s_reduced_1 I) [s0, s1, .own (W.map zd), s3, s4, .dat (.int bot), .dat (dn pl), .dat (dn k), s8, .dat (zd (W.getD k [])), s10, s11] = .ok .nx [s0, s1, .own (V.map zd), s3, s4, .dat (.int bot), .dat (dn pl), .dat (dn k), s8, .dat (zd (W.getD k [])), s10', s11] ∧ s10'.free = true ∧ V.length = m ∧ ∀ i, i < m → V.getD i [] = if i ≠ k then elim (W.getD i []) (W.getD k []) pl bot else W.getD k [] := by
  have hit : evIt (evF T (n + 1)) (.rng1 (.cal .len (.cons (.bor 2) .nil))) [s0, s1, .own (W.map zd), s3, s4, .dat (.int bot), .dat (dn pl), .dat (dn k), s8, .dat (zd (W.getD k [])), s10, s11] = .ok ((List.range m).map dn) [s0, s1, .own (W.map zd), s3, s4, .dat (.int bot), .dat (dn pl), .dat (dn k), s8, .dat (zd (W.getD k [])), s10, s11] := by
    simp! [List.length_map, hl, rng1_n (le_size hm)]
  have mem : ∀ i, i < m → W.getD i [] ∈ W := fun i hi => by
    rw [List.getD_eq_getElem?_getD, List.getElem?_eq_getElem (by omega)]
    exact List.getElem_mem _
  obtain ⟨ρ', e, V, s10', rfl, f, hV, hV2⟩ := for_go (tg := .nm 10) (body := evSs (evF T (n + 1)) (b_reduced_1 I)) dn (List.range m) (fun j ρ => ∃ (V : List (List Int)) (s10' : Sl), ρ = [s0, s1, .own (V.map zd), s3, s4, .dat (.int bot), .dat (dn pl), .dat (dn k), s8, .dat (zd (W.getD k [])), s10', s11] ∧ s10'.free = true ∧ V.length = m ∧ ∀ i, i < m → V.getD i [] = if i < j ∧ i ≠ k then elim (W.getD i []) (W.getD k []) pl bot else W.getD i []) (ρ := [s0, s1, .own (W.map zd), s3, s4, .dat (.int bot), .dat (dn pl), .dat (dn k), s8, .dat (zd (W.getD k [])), s10, s11]) ⟨W, s10, rfl, f10, hl, fun i _ => by rw [if_neg (by omega)]⟩ (by
    rintro j a ρ ha ⟨V, t10, rfl, f, hV, hV2⟩
    have hj : j < m := by
      have := (List.getElem?_eq_some_iff.mp ha).1
      rwa [List.length_range] at this
    have ea : a = j := by
      rw [List.getElem?_range hj] at ha
      exact (Option.some.inj ha).symm
    subst ea
    by_cases hak : a = k
    · have hb' : ((a : Int) == (k : Int)) = true := by rw [hak]; exact beq_self_eq_true _
      refine ⟨.nx, _, ?_, .inl rfl, V, .dat (dn a), rfl, rfl, hV, fun i hi => ?_⟩
      · simp! [b_reduced_1, dn, f, hb']
      · rw [hV2 i hi]
        by_cases hi2 : i < a ∧ i ≠ k
        · rw [if_pos hi2, if_pos ⟨by omega, hi2.2⟩]
        · rw [if_neg hi2, if_neg (fun h => hi2 ⟨by omega, h.2⟩)]
    · have hb' : ((a : Int) == (k : Int)) = false := by rw [beq_eq_false_iff_ne]; omega
      have eV : V.getD a [] = W.getD a [] := by rw [hV2 a hj, if_neg (by omega)]
      have i1 : D.idx (.lst (V.map zd)) (.int (a : Int)) = some (zd (W.getD a [])) := by rw [← eV]; exact idx_wl (by omega)
      have wa := hw _ (mem a hj)
      have wk := hw _ (mem k hk)
      have he := eliminated_ok (n := n) H (r := W.getD a []) (c := W.getD k []) (pl := pl) (by rw [wa, wk]) (by omega) hb hbk (hbd _ (mem a hj)) (hbd _ (mem k hk)) hK (le_size (by omega)) (a := .d (zd (W.getD k []))) arD
      have ix : L2.ixN V.length (a : Int) = some a := ixN_nat (by omega)
      have hs : (V.map zd).set a (zd (elim (W.getD a []) (W.getD k []) pl bot)) = (V.set a (elim (W.getD a []) (W.getD k []) pl bot)).map zd := by rw [List.map_set]
      refine ⟨.nx, _, ?_, .inl rfl, V.set a (elim (W.getD a []) (W.getD k []) pl bot), .dat (dn a), rfl, rfl, by rw [List.length_set]; exact hV, fun i hi => ?_⟩
      · simp! [b_reduced_1, dn, f, hb', i1, he, List.length_map, ix, stoD, hs]
      · rw [getD_set (by omega)]
        by_cases e : i = a
        · rw [if_pos e, if_pos ⟨by omega, by omega⟩, e]
        · rw [if_neg e, hV2 i hi]
          by_cases hi2 : i < a ∧ i ≠ k
          · rw [if_pos hi2, if_pos ⟨by omega, hi2.2⟩]
          · rw [if_neg hi2, if_neg (fun h => hi2 ⟨by omega, h.2⟩)])
  refine ⟨V, s10', for_st3 hit rfl e rfl, f, hV, fun i hi => ?_⟩
  rw [hV2 i hi, List.length_range]
  by_cases e : i = k
  · rw [if_neg (by omega), if_neg (by omega), e]
  · rw [if_pos ⟨hi, e⟩, if_pos e]
/-- one column of reduced -/
theorem red_out (H : HRow T I) {W : List (List Int)} {m w k pl K : Nat} {A : Mx} {s p : Nat → Nat} {bot : Int} {s0 s1 s3 s6 s7 s8 s9 s10 s11 : Sl} (R : RS m w K A pl k s p W bot) (hA : ∀ i c, i < m → c < w → IsZ (A i c)) (hpl : pl < w) (hK : Bk K m ≤ 9000) (hm : m ≤ 100) (hw2 : w ≤ 100) (f6 : s6.free = true) (f7 : s7.free = true) (f8 : s8.free = true) (f9 : s9.free = true) (f10 : s10.free = true) :
    ∃ f ρ', ((Tg.put (.nm 6) (dn pl) [s0, s1, .own (W.map zd), s3, .own (((List.range k).map p).map dn), .dat (.int bot), s6, s7, s8, s9, s10, s11]).bind fun _ ρ => evSs (evF T (n + 1)) (b_reduced_0 I) ρ) = .ok f ρ' ∧ (f = .nx ∨ f = .ct) ∧ ∃ (W' : List (List Int)) (k' : Nat) (s' p' : Nat → Nat) (bot' : Int) (t6 t7 t8 t9 t10 : Sl), ρ' = [s0, s1, .own (W'.map zd), s3, .own (((List.range k').map p').map dn), .dat (.int bot'), t6, t7, t8, t9, t10, s11] ∧ RS m w K A (pl + 1) k' s' p' W' bot' ∧ t6.free = true ∧ t7.free = true ∧ t8.free = true ∧ t9.free = true ∧ t10.free = true := by
  have hl := R.len
  have km := R.gj.km
  have hB : Bk K k ≤ 9000 := Nat.le_trans (Bk_mono km) hK
  rcases first_filled_ok (n := n) H (W := W) (st := k) (pl := pl) (fun r hr => by rw [R.wid r hr]; exact hpl) (le_size (by omega)) (by omega) (a := .b 2 (.lst (W.map zd))) (.inr ⟨2, rfl⟩) with ⟨ef, h0⟩ | ⟨f, h1, h2, h3, ef⟩
  · refine ⟨.ct, _, ?_, .inr rfl, W, k, s, p, bot, .dat (dn pl), .dat (dn k), .dat .non, s9, s10, rfl, R.pass hpl h0, rfl, rfl, rfl, f9, f10⟩
    simp! [b_reduced_0, dn, f6, f7, f8, List.length_map, List.length_range, ef]
  · have hf : f < m := by omega
    have hkm : k < m := by omega
    have R1 := R.swap h1 hf
    have e1 : ent (swapL W k f) k pl ≠ 0 := by
      unfold ent
      rw [swapL_getD (by omega) (by omega)]
      have : tr k f k = f := if_pos rfl
      rw [this]
      exact h3
    obtain ⟨V, t10, ein, ft, hV, hV2⟩ := red_in (n := n) H (s0 := s0) (s1 := s1) (s3 := s3) (s4 := .own (((List.range k).map p).map dn)) (s8 := .dat (dn f)) (s10 := s10) (s11 := s11) R1.len R1.wid hkm hpl R1.bot0 R1.bb R1.bd hB hm hw2 f10
    have R2 := R1.step hA hkm hpl e1 hV hV2
    have hp : (((List.range k).map p).map dn) ++ [dn pl] = ((List.range (k + 1)).map (ext p k pl)).map dn := by
      rw [List.range_succ, List.map_append, List.map_append, List.map_cons, List.map_nil, List.map_cons, List.map_nil]
      have : ext p k pl k = pl := if_pos rfl
      rw [this]
      congr 2
      refine List.map_congr_left fun i hi => ?_
      have := List.mem_range.mp hi
      exact (if_neg (by omega)).symm
    have lk : k < sizeLine := by
      have := le_size (n := 100) (by decide)
      have : (100 : Nat) < sizeLine := by decide
      omega
    refine ⟨.nx, _, ?_, .inl rfl, V, k + 1, _, ext p k pl, ent (swapL W k f) k pl, .dat (dn pl), .dat (dn k), .dat (dn f), .dat (zd ((swapL W k f).getD k [])), t10, rfl, R2, rfl, rfl, rfl, rfl, ft⟩
    have i1 : D.idx (.lst (W.map zd)) (.int (f : Int)) = some (zd (W.getD f [])) := idx_wl (by omega)
    have i2 : D.idx (.lst (W.map zd)) (.int (k : Int)) = some (zd (W.getD k [])) := idx_wl (by omega)
    have x1 : L2.ixN W.length (k : Int) = some k := ixN_nat (by omega)
    have x2 : L2.ixN W.length (f : Int) = some f := ixN_nat (by omega)
    have es : ((W.map zd).set k (zd (W.getD f []))).set f (zd (W.getD k [])) = (swapL W k f).map zd := by
      unfold swapL
      rw [List.map_set, List.map_set]
    have i3 : D.idx (.lst ((swapL W k f).map zd)) (.int (k : Int)) = some (zd ((swapL W k f).getD k [])) := idx_wl (by rw [R1.len]; omega)
    have i4 : D.idx (zd ((swapL W k f).getD k [])) (.int (pl : Int)) = some (.int (ent (swapL W k f) k pl)) := idx_zd (by rw [R1.wid _ (R1.row hkm)]; exact hpl)
    rw [← hp]
    simp only [dn] at ein
    simp! [b_reduced_0, dn, f6, f7, f8, f9, List.length_map, List.length_range, ef, putS, stoD, i1, i2, x1, x2, List.length_set, es, i3, ein, i4, if_pos lk]
end
end Sm
end

section
set_option linter.all false
set_option autoImplicit false
set_option maxRecDepth 100000
/-! W7: reduced, rank_of: the whole walk. -/
namespace Sm
open PySem DetQ
local macro_rules | `(tactic| simp! [$ls,*]) => `(tactic| simp only [evSs, evS, evE, evEs, as_nil, as_io, as_scr, as_bor, as_var, as_non, as_bl, as_int, as_str, as_tup, as_lst, as_bin, as_neg, as_not, as_cmp, as_and, as_or, as_ife, as_idx, as_slc, as_slcS, as_call, as_cal, as_isi, as_lc, hof_bor, hof_var, hof_non, hof_bl, hof_int, hof_str, hof_tup, hof_lst, hof_bin, hof_neg, hof_not, hof_cmp, hof_and, hof_or, hof_ife, hof_idx, hof_slc, hof_slcS, hof_call, hof_cal, hof_isi, hof_lc, evPof, evIt, Res.bind, rdB, rdE, rdO, rdS, Hd.look, opt, Sl.see, List.getElem?_cons_zero, List.getElem?_cons_succ, List.getD_cons_zero, List.getD_cons_succ, len_tup, len_lst, bi_int, bi_intb, bi_abs, bi_tupl, bi_tupt, bi_lstl, bi_lstt, bi_gcd, Cop.ev, Bop.ev, add_ii, add_tt, add_ll, sub_ii, neg_ii, D.ltI, isN_n, isN_i, isN_t, isN_l, isN_b, items_t, items_l, eqv_int, truthM, D.truth, nx, put_free, free_un, free_dat, free_own, free_bor, chg, List.set, asListO, It.locks, Ex.lock, Sl.lock, Sl.unlock, lockE, unlockE, wipeE, backE, fillA, callM, ioBack, iosOf, Option.map_some, if_true, List.length_cons, List.length_nil, List.replicate, List.cons_append, List.nil_append, List.append_nil, Nat.zero_add, List.any_cons, List.any_nil, ty_int_obj, ty_bool_obj, ty_str_obj, ty_list_obj, ty_tuple_obj, ty_cls_non, ty_cls_bl, ty_cls_int, ty_cls_str, ty_cls_tup, ty_cls_lst, ty_cls_obj, ty_int_non, ty_int_bl, ty_int_int, ty_int_str, ty_int_tup, ty_int_lst, ty_bool_non, ty_bool_bl, ty_bool_int, ty_bool_str, ty_bool_tup, ty_bool_lst, ty_str_non, ty_str_bl, ty_str_int, ty_str_str, ty_str_tup, ty_str_lst, ty_list_non, ty_list_bl, ty_list_int, ty_list_str, ty_list_tup, ty_list_lst, ty_tuple_non, ty_tuple_bl, ty_tuple_int, ty_tuple_str, ty_tuple_tup, ty_tuple_lst, Bool.or_false, Bool.false_or, Bool.not_true, Bool.not_false, Bool.true_or, Bool.or_true, ap_nil, ap1, ap2, ap3, ap4, ap_b, ap_bb, ap_bd, ap_db, ap_bdd, ap_dbd, ap_dbdd, ap_bbd, ap_ddbd, ap_dbb, ap_ddb, ap_bdb, ap_bddb, ap_bddbd, ap_s, ap_do, ap_dodd, ap_doddd, idx0l, idx0t, idx1l, idx1t, Nat.reduceAdd, Nat.reduceSub, Nat.reduceLeDiff, List.drop, Tg.put, intP, frzE, beq_self_eq_true, size1, size2, size0, $ls,*])
/-- what `reduced` hands back -/
structure RO (m w wd K k : Nat) (A : Mx) (s p : Nat → Nat) (W : Mx) (d : Rat) (R : List (List Int)) (bot : Int) : Prop where
  gj : Gj m w k wd A s p W d
  sm : ∀ i, i < m → s i < m
  on : ∀ a, a < m → ∃ i, i < m ∧ s i = a
  inj : ∀ i j, i < m → j < m → s i = s j → i = j
  len : R.length = k
  wid : ∀ r ∈ R, r.length = w
  pos : 0 < bot
  val : ∀ i c, i < k → c < w → ((ent R i c : Int) : Rat) / (bot : Rat) = W i c / d
  bd : ∀ r ∈ R, ∀ x ∈ r, x.natAbs < 2 ^ Bk K m
  bb : bot.natAbs < 2 ^ Bk K m
  sg : (bot : Rat) = d ∨ (bot : Rat) = -d
  sgd : ∃ e : Rat, e * e = 1 ∧ det m (fun a b => A (s a) b) = e * det m A
theorem neg_getD {r : List Int} {c : Nat} : (r.map fun x => -x).getD c 0 = -(r.getD c 0) := by
  simp only [List.getD_eq_getElem?_getD, List.getElem?_map]
  cases r[c]? <;> rfl
theorem ent_neg {W : List (List Int)} {i c : Nat} : ent (W.map fun r => r.map fun x => -x) i c = - ent W i c := by
  unfold ent
  have : (W.map fun r => r.map fun x => -x).getD i [] = (W.getD i []).map fun x => -x := by
    simp only [List.getD_eq_getElem?_getD, List.getElem?_map]
    cases W[i]? <;> rfl
  rw [this, neg_getD]
theorem ent_take {W : List (List Int)} {i c k : Nat} (h : i < k) : ent (W.take k) i c = ent W i c := by
  unfold ent
  simp only [List.getD_eq_getElem?_getD, List.getElem?_take, if_pos h]
theorem RS.out {m w K wd k : Nat} {A : Mx} {s p : Nat → Nat} {W : List (List Int)} {bot : Int} (R : RS m w K A wd k s p W bot) (h : 0 < bot) : RO m w wd K k A s p (mx W) (bot : Rat) (W.take k) bot := by
  have km := R.gj.km
  have pw : 2 ^ Bk K k ≤ 2 ^ Bk K m := Nat.pow_le_pow_right (by decide) (Bk_mono km)
  exact ⟨R.gj, R.sm, R.on, R.inj, by rw [List.length_take, R.len]; omega, fun r hr => R.wid r (List.mem_of_mem_take hr), h, fun i c hi _ => by rw [ent_take hi]; rfl, fun r hr x hx => by have := R.bd r (List.mem_of_mem_take hr) x hx; omega, by have := R.bb; omega, .inl rfl, R.sgd⟩
theorem RS.outN {m w K wd k : Nat} {A : Mx} {s p : Nat → Nat} {W : List (List Int)} {bot : Int} (R : RS m w K A wd k s p W bot) (h : bot < 0) : RO m w wd K k A s p (mx W) (bot : Rat) ((W.map fun r => r.map fun x => -x).take k) (-bot) := by
  have km := R.gj.km
  have pw : 2 ^ Bk K k ≤ 2 ^ Bk K m := Nat.pow_le_pow_right (by decide) (Bk_mono km)
  refine ⟨R.gj, R.sm, R.on, R.inj, by rw [List.length_take, List.length_map, R.len]; omega, fun r hr => ?_, by omega, fun i c hi _ => ?_, fun r hr x hx => ?_, by have := R.bb; omega, .inr (by rw [Rat.intCast_neg]), R.sgd⟩
  · obtain ⟨r0, h0, rfl⟩ := List.mem_map.mp (List.mem_of_mem_take hr)
    rw [List.length_map]
    exact R.wid r0 h0
  · rw [ent_take hi, ent_neg, Rat.intCast_neg, Rat.intCast_neg]
    show -((ent W i c : Int) : Rat) / -(bot : Rat) = ((ent W i c : Int) : Rat) / (bot : Rat)
    have := R.gj.d0
    grind
  · obtain ⟨r0, h0, rfl⟩ := List.mem_map.mp (List.mem_of_mem_take hr)
    obtain ⟨y, hy, rfl⟩ := List.mem_map.mp hx
    have := R.bd r0 h0 y hy
    omega
theorem cut_none {ds : List D} {k : Nat} (h : k ≤ ds.length) : cutD ds none (some (k : Int)) = ds.take k := by
  unfold cutD
  rw [HT.sIx_none, HT.sIx_nat, Nat.min_eq_left h, Nat.sub_zero]
  rfl
section
variable {T : List Fn} {I : Ix} {n : Nat}
theorem reduced_ok (H : HRow T I) {Z : List (List Int)} {m w wd K : Nat} (hl : Z.length = m) (hw : ∀ r ∈ Z, r.length = w) (hb : ∀ r ∈ Z, ∀ x ∈ r, x.natAbs < 2 ^ K) (hK : 1 ≤ K) (hwd : wd ≤ w) (hB : Bk K m ≤ 9000) (hm : m ≤ 100) (hw2 : w ≤ 100) {x : D} {e : List Int → D} (he : ∀ r ∈ Z, e r = zt r ∨ e r = zd r) (hx : x.items = some (Z.map e)) {a : Ar} (ha : ArB a x) :
    ∃ (k : Nat) (s p : Nat → Nat) (W : Mx) (d : Rat) (R : List (List Int)) (bot : Int), evF T (n + 2) I.reduced [a, .d (.int (wd : Int))] = .ok (.tup [wl R, .lst (((List.range k).map p).map dn), .int bot]) [] ∧ RO m w wd K k (mx Z) s p W d R bot := by
  have hA : ∀ i c, i < m → c < w → IsZ (mx Z i c) := fun i c _ _ => .int _
  have lc0 : evE (evF T (n + 1)) (e_reduced_0 I) [.bor x, .dat (.int (wd : Int)), .un, .un, .un, .un, .un, .un, .un, .un, .un, .un] = .ok (.lst (Z.map zd)) [.bor x, .dat (.int (wd : Int)), .un, .un, .un, .un, .un, .un, .un, .un, .un, .un] := by
    refine lc_map Z e zd (by simp! [hx]) rfl (le_size (by omega)) (fun r hr => ⟨_, rfl, rfl, ?_⟩) rfl
    have : Bi.ev .list [e r] = some (zd r) := by rcases he r hr with h | h <;> rw [h] <;> rfl
    simp! [this]
  obtain ⟨ρ', el, k, s, p, W, bot, t6, t7, t8, t9, t10, rfl, R, f6, f7, f8, f9, f10⟩ := for_go (tg := .nm 6) (body := evSs (evF T (n + 1)) (b_reduced_0 I)) dn (List.range wd) (fun j ρ => ∃ (k : Nat) (s p : Nat → Nat) (W : List (List Int)) (bot : Int) (t6 t7 t8 t9 t10 : Sl), ρ = [.bor x, .dat (.int (wd : Int)), .own (W.map zd), .un, .own (((List.range k).map p).map dn), .dat (.int bot), t6, t7, t8, t9, t10, .un] ∧ RS m w K (mx Z) j k s p W bot ∧ t6.free = true ∧ t7.free = true ∧ t8.free = true ∧ t9.free = true ∧ t10.free = true) (ρ := [.bor x, .dat (.int (wd : Int)), .own (Z.map zd), .un, .own [], .dat (.int 1), .un, .un, .un, .un, .un, .un]) ⟨0, _, _, Z, 1, .un, .un, .un, .un, .un, rfl, RS.start hK hl hw hb, rfl, rfl, rfl, rfl, rfl⟩ (by
    rintro j a ρ ha ⟨k, s, p, W, bot, t6, t7, t8, t9, t10, rfl, R, f6, f7, f8, f9, f10⟩
    have hj : j < wd := by
      have := (List.getElem?_eq_some_iff.mp ha).1
      rwa [List.length_range] at this
    have ea : a = j := by
      rw [List.getElem?_range hj] at ha
      exact (Option.some.inj ha).symm
    subst ea
    obtain ⟨f, ρ', q1, q2, W', k', s', p', bot', u6, u7, u8, u9, u10, rfl, q4, g6, g7, g8, g9, g10⟩ := red_out (n := n) H (s0 := .bor x) (s1 := .dat (.int (wd : Int))) (s3 := .un) (s11 := .un) R hA (by omega) hB hm hw2 f6 f7 f8 f9 f10
    exact ⟨f, _, q1, q2, k', s', p', W', bot', u6, u7, u8, u9, u10, rfl, q4, g6, g7, g8, g9, g10⟩)
  rw [List.length_range] at R
  have es : evS (evF T (n + 1)) (s_reduced_0 I) [.bor x, .dat (.int (wd : Int)), .own (Z.map zd), .un, .own [], .dat (.int 1), .un, .un, .un, .un, .un, .un] = .ok .nx [.bor x, .dat (.int (wd : Int)), .own (W.map zd), .un, .own (((List.range k).map p).map dn), .dat (.int bot), t6, t7, t8, t9, t10, .un] := for_st3 (by simp! [rng1_n (le_size (show wd ≤ 100 by omega))]) rfl el rfl
  have km := R.gj.km
  have b0 := R.bot0
  have cut : ∀ V : List (List Int), V.length = m → D.slc (.lst (V.map zd)) none (some (k : Int)) = some (wl (V.take k)) := fun V hV => by
    show some (D.lst (cutD (V.map zd) none (some (k : Int)))) = _
    rw [cut_none (by rw [List.length_map]; omega), wl, List.map_take]
  by_cases hn : bot < 0
  · refine ⟨k, s, p, mx W, bot, _, -bot, ?_, R.outN hn⟩
    have lc2 : evE (evF T (n + 1)) (e_reduced_2 I) [.bor x, .dat (.int (wd : Int)), .own (W.map zd), .un, .own (((List.range k).map p).map dn), .dat (.int bot), t6, t7, t8, t9, t10, .un] = .ok (.lst (W.map fun r => zd (r.map fun x => -x))) [.bor x, .dat (.int (wd : Int)), .own (W.map zd), .un, .own (((List.range k).map p).map dn), .dat (.int bot), t6, t7, t8, t9, t10, .un] := by
      refine lc_map W zd (fun r => zd (r.map fun x => -x)) (by simp! []) rfl (le_size (by have := R.len; omega)) (fun r hr => ⟨_, rfl, rfl, ?_⟩) rfl
      have : ∀ t2 : Sl, evE (evF T (n + 1)) (e_reduced_1 I) [.bor x, .dat (.int (wd : Int)), t2, .dat (zd r), .own (((List.range k).map p).map dn), .dat (.int bot), t6, t7, t8, t9, t10, .un] = .ok (.lst (r.map fun x => .int (-x))) [.bor x, .dat (.int (wd : Int)), t2, .dat (zd r), .own (((List.range k).map p).map dn), .dat (.int bot), t6, t7, t8, t9, t10, .un] := fun t2 => by
        refine lc_map r D.int (fun x => .int (-x)) (by simp! [zd_items]) rfl (le_size (by have := R.wid r hr; omega)) (fun z hz => ⟨_, rfl, rfl, ?_⟩) rfl
        simp! []
      have e2 : zd (r.map fun x => -x) = .lst (r.map fun x => .int (-x)) := by rw [zd, List.map_map]; rfl
      rw [e2]
      exact this _
    have e3 : (W.map fun r => zd (r.map fun x => -x)) = (W.map fun r => r.map fun x => -x).map zd := by rw [List.map_map]; rfl
    rw [e3] at lc2
    have c1 := cut (W.map fun r => r.map fun x => -x) (by rw [List.length_map]; exact R.len)
    rw [run_eq H.reduced (entry_bd ha)]
    simp! [F_reduced, lc0, es, decide_eq_true hn, lc2, List.length_map, List.length_range, c1, size3]
  · refine ⟨k, s, p, mx W, bot, _, bot, ?_, R.out (by omega)⟩
    have c1 := cut W R.len
    rw [run_eq H.reduced (entry_bd ha)]
    simp! [F_reduced, lc0, es, decide_eq_false hn, List.length_map, List.length_range, c1, size3]
end
end Sm
end

section
set_option linter.all false
set_option autoImplicit false
/-! Lj: elimination by fractions, rows made one by one. -/
namespace DetQ
theorem In.lin {w k : Nat} {B : Mx} {u v : Nat → Rat} {a b : Rat} (h : In w k B u) (g : In w k B v) : In w k B fun c => a * u c + b * v c := by
  obtain ⟨f, hf⟩ := h
  obtain ⟨e, he⟩ := g
  refine ⟨fun q => a * f q + b * e q, fun c hc => ?_⟩
  show a * u c + b * v c = sumTo k fun q => (a * f q + b * e q) * B q c
  rw [hf c hc, he c hc, sum_two]
theorem In.congr {w k : Nat} {B : Mx} {u v : Nat → Rat} (h : In w k B u) (e : ∀ c, c < w → v c = u c) : In w k B v := by
  obtain ⟨f, hf⟩ := h
  exact ⟨f, fun c hc => (e c hc).trans (hf c hc)⟩
/-- two rows of vectors, one behind the other -/
def app (k : Nat) (B L : Mx) : Mx := fun i => if i < k then B i else L (i - k)
structure Lj (m w k n pl : Nat) (A B L : Mx) (p : Nat → Nat) : Prop where
  plw : pl ≤ w
  plt : ∀ j, j < k → p j < pl
  mono : ∀ i j, i < j → j < k → p i < p j
  one : ∀ i j, i < k → j < k → B i (p j) = if i = j then 1 else 0
  lead : ∀ i, i < k → ∀ c, c < p i → B i c = 0
  off : ∀ i j, i < n → j < k → L i (p j) = 0
  done : ∀ i, i < n → ∀ c, c < pl → L i c = 0
  inB : ∀ i, i < k → In w m A (B i)
  inL : ∀ i, i < n → In w m A (L i)
  out : ∀ a, a < m → In w (k + n) (app k B L) (A a)
section
variable {m w k n pl : Nat} {A B L : Mx} {p : Nat → Nat}
theorem Lj.start : Lj m w 0 m 0 A B A p where
  plw := Nat.zero_le _
  plt := fun j h => absurd h (by omega)
  mono := fun i j _ h => absurd h (by omega)
  one := fun i j h => absurd h (by omega)
  lead := fun i h => absurd h (by omega)
  off := fun i j _ h => absurd h (by omega)
  done := fun i _ c h => absurd h (by omega)
  inB := fun i h => absurd h (by omega)
  inL := fun i h => .one h
  out := fun a ha => by
    have e : app 0 B A = A := by
      funext i
      show (if i < 0 then B i else A (i - 0)) = A i
      rw [if_neg (by omega)]
      rfl
    rw [e, Nat.zero_add]
    exact .one ha
theorem Lj.pass (G : Lj m w k n pl A B L p) (hw : pl < w) (h : ∀ i, i < n → L i pl = 0) : Lj m w k n (pl + 1) A B L p := by
  refine ⟨hw, fun j hj => Nat.lt_succ_of_lt (G.plt j hj), G.mono, G.one, G.lead, G.off, fun i hi c hc => ?_, G.inB, G.inL, G.out⟩
  by_cases e : c = pl
  · rw [e]; exact h i hi
  · exact G.done i hi c (by omega)
/-- the vector v cleared at the column pl by the pivot u -/
def cl (v u : Nat → Rat) (pl : Nat) : Nat → Rat := fun c => v c - v pl * u c
theorem Lj.step (G : Lj m w k (n + 1) pl A B L p) (hw : pl < w) {f : Nat} (hf : f < n + 1) (hr : L f pl ≠ 0) :
    Lj m w (k + 1) n (pl + 1) A (fun i => if i < k then cl (B i) (fun c => L f c / L f pl) pl else fun c => L f c / L f pl) (fun i => cl (L (skip f i)) (fun c => L f c / L f pl) pl) (ext p k pl) := by
  have pk : ext p k pl k = pl := if_pos rfl
  have pj : ∀ j, j < k → ext p k pl j = p j := fun j h => if_neg (by omega)
  have sk : ∀ i, i < n → skip f i < n + 1 := fun i hi => by unfold skip; split <;> omega
  generalize hu : (fun c => L f c / L f pl) = u
  have u1 : u pl = 1 := by rw [← hu]; show L f pl / L f pl = 1; grind
  have up : ∀ j, j < k → u (p j) = 0 := fun j hj => by rw [← hu]; show L f (p j) / L f pl = 0; rw [G.off f j hf hj]; grind
  have ul : ∀ c, c < pl → u c = 0 := fun c hc => by rw [← hu]; show L f c / L f pl = 0; rw [G.done f hf c hc]; grind
  have inU : In w m A u := (In.lin (a := 1 / L f pl) (b := 0) (G.inL f hf) (G.inL f hf)).congr fun c _ => by rw [← hu]; show L f c / L f pl = 1 / L f pl * L f c + 0 * L f c; grind
  refine ⟨hw, fun j hj => ?_, fun i j hij hj => ?_, fun i j hi hj => ?_, fun i hi c hc => ?_, fun i j hi hj => ?_, fun i hi c hc => ?_, fun i hi => ?_, fun i hi => ?_, fun a ha => ?_⟩
  · by_cases e : j = k
    · rw [e, pk]; omega
    · rw [pj j (by omega)]; exact Nat.lt_succ_of_lt (G.plt j (by omega))
  · by_cases e : j = k
    · rw [e, pk, pj i (by omega)]; exact G.plt i (by omega)
    · rw [pj j (by omega), pj i (by omega)]; exact G.mono i j hij (by omega)
  · show (if i < k then cl (B i) u pl else u) (ext p k pl j) = _
    by_cases ei : i < k
    · rw [if_pos ei]
      show B i (ext p k pl j) - B i pl * u (ext p k pl j) = _
      by_cases ej : j = k
      · rw [ej, pk, u1, if_neg (by omega)]; grind
      · rw [pj j (by omega), up j (by omega), G.one i j ei (by omega)]; grind
    · rw [if_neg ei]
      have e : i = k := by omega
      subst e
      by_cases ej : j = i
      · rw [ej, pk, u1, if_pos rfl]
      · rw [pj j (by omega), up j (by omega), if_neg (Ne.symm ej)]
  · show (if i < k then cl (B i) u pl else u) c = 0
    by_cases ei : i < k
    · rw [if_pos ei]
      rw [pj i ei] at hc
      show B i c - B i pl * u c = 0
      rw [G.lead i ei c hc, ul c (by have := G.plt i ei; omega)]; grind
    · rw [if_neg ei]
      have e : i = k := by omega
      subst e
      rw [pk] at hc
      exact ul c hc
  · show L (skip f i) (ext p k pl j) - L (skip f i) pl * u (ext p k pl j) = 0
    by_cases ej : j = k
    · rw [ej, pk, u1]; grind
    · rw [pj j (by omega), up j (by omega), G.off _ j (sk i hi) (by omega)]; grind
  · show L (skip f i) c - L (skip f i) pl * u c = 0
    by_cases e : c = pl
    · rw [e, u1]; grind
    · rw [G.done _ (sk i hi) c (by omega), ul c (by omega)]; grind
  · show In w m A (if i < k then cl (B i) u pl else u)
    by_cases ei : i < k
    · rw [if_pos ei]
      exact (In.lin (a := 1) (b := - B i pl) (G.inB i ei) inU).congr fun c _ => by show B i c - B i pl * u c = 1 * B i c + - B i pl * u c; grind
    · rw [if_neg ei]; exact inU
  · exact (In.lin (a := 1) (b := - L (skip f i) pl) (G.inL _ (sk i hi)) inU).congr fun c _ => by show L (skip f i) c - L (skip f i) pl * u c = 1 * L (skip f i) c + - L (skip f i) pl * u c; grind
  · refine (G.out a ha).trans fun i hi => ?_
    let C : Mx := app (k + 1) (fun i => if i < k then cl (B i) u pl else u) fun i => cl (L (skip f i)) u pl
    have cu : In w (k + 1 + n) C u := by
      have z := In.one (w := w) (B := C) (n := k + 1 + n) (i := k) (by omega)
      have e : C k = u := by
        show (if k < k + 1 then (if k < k then cl (B k) u pl else u) else _) = u
        rw [if_pos (by omega), if_neg (by omega)]
      rw [e] at z
      exact z
    show In w (k + 1 + n) C (if i < k then B i else L (i - k))
    by_cases ei : i < k
    · rw [if_pos ei]
      have z := In.one (w := w) (B := C) (n := k + 1 + n) (i := i) (by omega)
      have e : C i = cl (B i) u pl := by
        show (if i < k + 1 then (if i < k then cl (B i) u pl else u) else _) = _
        rw [if_pos (by omega), if_pos ei]
      rw [e] at z
      exact (In.lin (a := 1) (b := B i pl) z cu).congr fun c _ => by show B i c = 1 * (B i c - B i pl * u c) + B i pl * u c; grind
    · rw [if_neg ei]
      by_cases ef : i - k = f
      · rw [ef]
        exact (In.lin (a := L f pl) (b := 0) cu cu).congr fun c _ => by
          rw [← hu]
          show L f c = L f pl * (L f c / L f pl) + 0 * (L f c / L f pl)
          grind
      · have hun : unskip f (i - k) < n := by unfold unskip; split <;> omega
        have z := In.one (w := w) (B := C) (n := k + 1 + n) (i := k + 1 + unskip f (i - k)) (by omega)
        have e : C (k + 1 + unskip f (i - k)) = cl (L (i - k)) u pl := by
          show (if k + 1 + unskip f (i - k) < k + 1 then _ else cl (L (skip f (k + 1 + unskip f (i - k) - (k + 1)))) u pl) = _
          rw [if_neg (by omega), Nat.add_sub_cancel_left, skip_un (Ne.symm ef)]
        rw [e] at z
        exact (In.lin (a := 1) (b := L (i - k) pl) z cu).congr fun c _ => by show L (i - k) c = 1 * (L (i - k) c - L (i - k) pl * u c) + L (i - k) pl * u c; grind
/-- at the end -/
theorem Lj.rref (G : Lj m w k n w A B L p) : Rref w k B p := ⟨G.plt, G.mono, G.one, G.lead⟩
theorem Lj.from (G : Lj m w k n w A B L p) : ∀ a, a < m → In w k B (A a) := fun a ha => (G.out a ha).trans fun i hi => by
  show In w k B (if i < k then B i else L (i - k))
  by_cases ei : i < k
  · rw [if_pos ei]; exact .one ei
  · rw [if_neg ei]
    exact ⟨fun _ => 0, fun c hc => by rw [G.done _ (by omega) c hc]; exact (sum_zero fun q _ => by grind).symm⟩
end
end DetQ
end

section
set_option linter.all false
set_option autoImplicit false
set_option maxRecDepth 100000
/-! W8: the reduced echelon form by lists; echelon, rank. -/
namespace DetQ
def IsB (B : Nat) (q : Rat) : Prop := ∃ z : Int, q = (z : Rat) ∧ z.natAbs ≤ B
theorem IsB.mono {a b : Nat} {q : Rat} (h : IsB a q) (hab : a ≤ b) : IsB b q := by
  obtain ⟨z, e, hz⟩ := h
  exact ⟨z, e, by omega⟩
theorem IsB.add {a b : Nat} {x y : Rat} : IsB a x → IsB b y → IsB (a + b) (x + y)
  | ⟨u, e, h⟩, ⟨v, f, g⟩ => ⟨u + v, by rw [e, f, Rat.intCast_add], by have := Int.natAbs_add_le u v; omega⟩
theorem IsB.mul {a b : Nat} {x y : Rat} : IsB a x → IsB b y → IsB (a * b) (x * y)
  | ⟨u, e, h⟩, ⟨v, f, g⟩ => ⟨u * v, by rw [e, f, Rat.intCast_mul], by rw [Int.natAbs_mul]; exact Nat.mul_le_mul h g⟩
theorem IsB.sgn (n : Nat) : IsB 1 (DetQ.sgn n) := by
  unfold DetQ.sgn
  split
  · exact ⟨1, rfl, by decide⟩
  · exact ⟨-1, rfl, by decide⟩
theorem IsB.sum {b : Nat} {f : Nat → Rat} : ∀ {n : Nat}, (∀ i, i < n → IsB b (f i)) → IsB (n * b) (sumTo n f)
  | 0, _ => ⟨0, rfl, by simp⟩
  | n + 1, h => by
    have := (IsB.sum (n := n) fun i hi => h i (by omega)).add (h n (by omega))
    rw [Nat.succ_mul]
    exact this
def fac : Nat → Nat
  | 0 => 1
  | n + 1 => (n + 1) * fac n
theorem det_bound {N : Nat} : ∀ {n : Nat} {A : Mx}, (∀ i j, i < n → j < n → IsB N (A i j)) → IsB (fac n * N ^ n) (det n A)
  | 0, A, _ => ⟨1, rfl, Nat.le_refl 1⟩
  | n + 1, A, h => by
    have e : det (n + 1) A = sumTo (n + 1) fun j => DetQ.sgn (n + j) * A n j * det n (minor j A) := rfl
    rw [e]
    have := IsB.sum (n := n + 1) (b := 1 * N * (fac n * N ^ n)) (f := fun j => DetQ.sgn (n + j) * A n j * det n (minor j A)) fun j hj => ((IsB.sgn (n + j)).mul (h n j (by omega) hj)).mul (det_bound fun i c hi hc => h i _ (by omega) (by unfold skip; split <;> omega))
    refine this.mono (Nat.le_of_eq ?_)
    show (n + 1) * (1 * N * (fac n * N ^ n)) = (n + 1) * fac n * N ^ (n + 1)
    rw [Nat.pow_succ, Nat.one_mul, Nat.mul_assoc, Nat.mul_left_comm N, Nat.mul_comm N]
theorem Rref.congr {w k : Nat} {B B' : Mx} {p : Nat → Nat} (R : Rref w k B p) (h : ∀ i c, i < k → c < w → B' i c = B i c) : Rref w k B' p := by
  refine ⟨R.lt, R.mono, fun i j hi hj => ?_, fun i hi c hc => ?_⟩
  · rw [h i (p j) hi (R.lt j hj)]; exact R.one i j hi hj
  · have := R.lt i hi
    rw [h i c hi (by omega)]; exact R.lead i hi c hc
theorem In.congrB {w k : Nat} {B B' : Mx} {v : Nat → Rat} (H : In w k B v) (h : ∀ i c, i < k → c < w → B' i c = B i c) : In w k B' v := by
  obtain ⟨f, hf⟩ := H
  exact ⟨f, fun c hc => by rw [hf c hc]; exact sum_congr fun i hi => by rw [h i c hi hc]⟩
end DetQ
namespace Sm
open PySem DetQ
local macro_rules | `(tactic| simp! [$ls,*]) => `(tactic| simp only [evSs, evS, evE, evEs, as_nil, as_io, as_scr, as_bor, as_var, as_non, as_bl, as_int, as_str, as_tup, as_lst, as_bin, as_neg, as_not, as_cmp, as_and, as_or, as_ife, as_idx, as_slc, as_slcS, as_call, as_cal, as_isi, as_lc, hof_bor, hof_var, hof_non, hof_bl, hof_int, hof_str, hof_tup, hof_lst, hof_bin, hof_neg, hof_not, hof_cmp, hof_and, hof_or, hof_ife, hof_idx, hof_slc, hof_slcS, hof_call, hof_cal, hof_isi, hof_lc, evPof, evIt, Res.bind, rdB, rdE, rdO, rdS, Hd.look, opt, Sl.see, List.getElem?_cons_zero, List.getElem?_cons_succ, List.getD_cons_zero, List.getD_cons_succ, len_tup, len_lst, bi_int, bi_intb, bi_abs, bi_tupl, bi_tupt, bi_lstl, bi_lstt, bi_gcd, Cop.ev, Bop.ev, add_ii, add_tt, add_ll, sub_ii, neg_ii, D.ltI, isN_n, isN_i, isN_t, isN_l, isN_b, items_t, items_l, eqv_int, truthM, D.truth, nx, put_free, free_un, free_dat, free_own, free_bor, chg, List.set, asListO, It.locks, Ex.lock, Sl.lock, Sl.unlock, lockE, unlockE, wipeE, backE, fillA, callM, ioBack, iosOf, Option.map_some, if_true, List.length_cons, List.length_nil, List.replicate, List.cons_append, List.nil_append, List.append_nil, Nat.zero_add, List.any_cons, List.any_nil, ty_int_obj, ty_bool_obj, ty_str_obj, ty_list_obj, ty_tuple_obj, ty_cls_non, ty_cls_bl, ty_cls_int, ty_cls_str, ty_cls_tup, ty_cls_lst, ty_cls_obj, ty_int_non, ty_int_bl, ty_int_int, ty_int_str, ty_int_tup, ty_int_lst, ty_bool_non, ty_bool_bl, ty_bool_int, ty_bool_str, ty_bool_tup, ty_bool_lst, ty_str_non, ty_str_bl, ty_str_int, ty_str_str, ty_str_tup, ty_str_lst, ty_list_non, ty_list_bl, ty_list_int, ty_list_str, ty_list_tup, ty_list_lst, ty_tuple_non, ty_tuple_bl, ty_tuple_int, ty_tuple_str, ty_tuple_tup, ty_tuple_lst, Bool.or_false, Bool.false_or, Bool.not_true, Bool.not_false, Bool.true_or, Bool.or_true, ap_nil, ap1, ap2, ap3, ap4, ap_b, ap_bb, ap_bd, ap_db, ap_bdd, ap_dbd, ap_dbdd, ap_bbd, ap_ddbd, ap_dbb, ap_ddb, ap_bdb, ap_bddb, ap_bddbd, ap_s, ap_do, ap_dodd, ap_doddd, idx0l, idx0t, idx1l, idx1t, Nat.reduceAdd, Nat.reduceSub, Nat.reduceLeDiff, List.drop, Tg.put, intP, frzE, beq_self_eq_true, size1, size2, size0, $ls,*])
def qx (M : List (List Rat)) : Mx := fun i c => (M.getD i []).getD c 0
/-- B is the reduced echelon form of M -/
structure Ech (M : List (List Rat)) (w : Nat) (B : List (List Rat)) (p : Nat → Nat) : Prop where
  wid : ∀ v ∈ B, v.length = w
  rref : Rref w B.length (qx B) p
  from_ : ∀ i, i < M.length → In w B.length (qx B) (qx M i)
  into : ∀ i, i < B.length → In w M.length (qx M) (qx B i)
theorem ext_qx {B B' : List (List Rat)} {w : Nat} (hl : B.length = B'.length) (h1 : ∀ v ∈ B, v.length = w) (h2 : ∀ v ∈ B', v.length = w) (h : ∀ i c, i < B.length → c < w → qx B i c = qx B' i c) : B = B' := by
  refine List.ext_getElem hl fun i hi hi' => ?_
  have l1 := h1 B[i] (List.getElem_mem hi)
  have l2 := h2 B'[i] (List.getElem_mem hi')
  refine List.ext_getElem (by omega) fun c hc hc' => ?_
  have := h i c hi (by omega)
  unfold qx at this
  simpa only [List.getD_eq_getElem?_getD, List.getElem?_eq_getElem hi, List.getElem?_eq_getElem hi', Option.getD_some, List.getElem?_eq_getElem hc, List.getElem?_eq_getElem hc'] using this
theorem Ech.unique {M B B' : List (List Rat)} {w : Nat} {p p' : Nat → Nat} (E : Ech M w B p) (E' : Ech M w B' p') : B = B' ∧ ∀ i, i < B.length → p i = p' i := by
  have h1 : ∀ i, i < B.length → In w B'.length (qx B') (qx B i) := fun i hi => (E.into i hi).trans E'.from_
  have h2 : ∀ i, i < B'.length → In w B.length (qx B) (qx B' i) := fun i hi => (E'.into i hi).trans E.from_
  obtain ⟨hk, hh⟩ := rref_unique E.rref E'.rref h1 h2
  exact ⟨ext_qx hk E.wid E'.wid fun i c hi hc => (hh i hi).2 c hc, fun i hi => (hh i hi).1⟩
theorem Ech.self {M B : List (List Rat)} {w : Nat} {p : Nat → Nat} (E : Ech M w B p) : Ech B w B p := ⟨E.wid, E.rref, fun _ hi => .one hi, fun _ hi => .one hi⟩
theorem den_lcm {v : List Rat} {q : Rat} (h : q ∈ v) : q.den ∣ lcmR v := by
  have key : ∀ (v : List Rat) (b : Nat), (b ∣ v.foldl (fun b q => Nat.lcm b q.den) b) ∧ ∀ q ∈ v, q.den ∣ v.foldl (fun b q => Nat.lcm b q.den) b := by
    intro v
    induction v with
    | nil => intro b; exact ⟨Nat.dvd_refl b, fun q h => nomatch h⟩
    | cons r v ih =>
      intro b
      obtain ⟨h1, h2⟩ := ih (Nat.lcm b r.den)
      refine ⟨Nat.dvd_trans (Nat.dvd_lcm_left _ _) h1, fun q hq => ?_⟩
      rcases List.mem_cons.mp hq with rfl | hq
      · exact Nat.dvd_trans (Nat.dvd_lcm_right _ _) h1
      · exact h2 q hq
  exact (key v 1).2 q h
theorem lcm_pos (v : List Rat) : 0 < lcmR v := by
  have key : ∀ (v : List Rat) (b : Nat), 0 < b → 0 < v.foldl (fun b q => Nat.lcm b q.den) b := by
    intro v
    induction v with
    | nil => intro b h; exact h
    | cons r v ih => intro b h; exact ih _ (Nat.lcm_pos h r.den_pos)
  exact key v 1 (by decide)
theorem mul_den (q : Rat) {L : Nat} (h : q.den ∣ L) : ((q.num * ((L / q.den : Nat) : Int) : Int) : Rat) = q * (L : Rat) := by
  obtain ⟨t, rfl⟩ := h
  rw [Nat.mul_div_cancel_left _ q.den_pos, Rat.intCast_mul]
  have e := Rat.num_divInt_den q
  have hd : (q.den : Rat) ≠ 0 := by
    have := q.den_pos
    intro z
    have : q.den = 0 := by exact_mod_cast z
    omega
  have e2 : q = (q.num : Rat) / (q.den : Rat) := by
    conv => lhs; rw [← e]
    rw [Rat.divInt_eq_div]
    rfl
  have e3 : q * (q.den : Rat) = (q.num : Rat) := by
    conv => lhs; lhs; rw [e2]
    grind
  have c1 : (((t : Nat) : Int) : Rat) = (t : Rat) := by rfl
  have c2 : ((q.den * t : Nat) : Rat) = (q.den : Rat) * (t : Rat) := by exact_mod_cast rfl
  rw [c1, c2, ← e3]
  grind
theorem wh_getD {v : List Rat} {c : Nat} : (((wh v).getD c 0 : Int) : Rat) = v.getD c 0 * (lcmR v : Rat) := by
  unfold wh
  simp only [List.getD_eq_getElem?_getD, List.getElem?_map]
  cases h : v[c]? with
  | none => show ((0 : Int) : Rat) = 0 * _; rw [Rat.zero_mul]; rfl
  | some q => exact mul_den q (den_lcm (List.mem_of_getElem? h))
theorem wh_len {v : List Rat} : (wh v).length = v.length := by unfold wh; rw [List.length_map]
theorem mx_wh {M : List (List Rat)} {i c : Nat} : mx (M.map wh) i c = qx M i c * (lcmR (M.getD i []) : Rat) := by
  show (((((M.map wh).getD i []).getD c 0 : Int)) : Rat) = _
  have : (M.map wh).getD i [] = wh (M.getD i []) := by
    simp only [List.getD_eq_getElem?_getD, List.getElem?_map]
    cases M[i]? <;> rfl
  rw [this, wh_getD]
  rfl
theorem lcm_ne (v : List Rat) : (lcmR v : Rat) ≠ 0 := by
  have := lcm_pos v
  intro z
  have : lcmR v = 0 := by exact_mod_cast z
  omega
theorem in_wh {M : List (List Rat)} {w i : Nat} (hi : i < M.length) : In w M.length (qx M) (mx (M.map wh) i) := by
  have h : In w M.length (qx M) (qx M i) := .one hi
  refine (h.lin (a := (lcmR (M.getD i []) : Rat)) (b := 0) h).congr fun c _ => ?_
  rw [mx_wh]
  grind
theorem in_wh' {M : List (List Rat)} {w i : Nat} (hi : i < M.length) : In w M.length (mx (M.map wh)) (qx M i) := by
  have h : In w M.length (mx (M.map wh)) (mx (M.map wh) i) := .one hi
  refine (h.lin (a := 1 / (lcmR (M.getD i []) : Rat)) (b := 0) h).congr fun c _ => ?_
  rw [mx_wh]
  have := lcm_ne (M.getD i [])
  grind
def bR (R : List (List Int)) (bot : Int) : List (List Rat) := R.map fun r => r.map fun x => Rat.divInt x bot
theorem qx_bR {R : List (List Int)} {bot : Int} {i c : Nat} : qx (bR R bot) i c = ((ent R i c : Int) : Rat) / (bot : Rat) := by
  unfold qx bR ent
  simp only [List.getD_eq_getElem?_getD, List.getElem?_map]
  cases R[i]? with
  | none =>
    show (0 : Rat) = ((0 : Int) : Rat) / _
    rw [show ((0 : Int) : Rat) = 0 from rfl, Rat.div_def, Rat.zero_mul]
  | some r =>
    show ((r.map _)[c]?).getD 0 = _
    rw [List.getElem?_map]
    cases h : r[c]? with
    | none =>
      show (0 : Rat) = (((r[c]?).getD 0 : Int) : Rat) / _
      rw [h]
      show (0 : Rat) = ((0 : Int) : Rat) / _
      rw [show ((0 : Int) : Rat) = 0 from rfl, Rat.div_def, Rat.zero_mul]
    | some x =>
      show Rat.divInt x bot = (((r[c]?).getD 0 : Int) : Rat) / _
      rw [h]
      exact Rat.divInt_eq_div x bot
theorem bR_len {R : List (List Int)} {bot : Int} : (bR R bot).length = R.length := by unfold bR; rw [List.length_map]
theorem RO.ech {M : List (List Rat)} {w K k : Nat} {s p : Nat → Nat} {W : Mx} {d : Rat} {R : List (List Int)} {bot : Int} (O : RO M.length w w K k (mx (M.map wh)) s p W d R bot) : Ech M w (bR R bot) p := by
  have hb : (bR R bot).length = k := by rw [bR_len, O.len]
  have q : ∀ i c, i < k → c < w → qx (bR R bot) i c = W i c / d := fun i c hi hc => by rw [qx_bR]; exact O.val i c hi hc
  refine ⟨fun v hv => ?_, ?_, fun i hi => ?_, fun i hi => ?_⟩
  · obtain ⟨r, hr, rfl⟩ := List.mem_map.mp hv
    rw [List.length_map]
    exact O.wid r hr
  · rw [hb]
    exact O.gj.rref.congr q
  · rw [hb]
    obtain ⟨j, hj, e⟩ := O.on i hi
    have h1 : ∀ i', i' < M.length → In w k (fun i c => W i c / d) (mx (M.map wh) i') := fun i' hi' => by
      obtain ⟨j, hj, e⟩ := O.on i' hi'
      rw [← e]
      exact O.gj.from j hj
    exact ((in_wh' hi).trans h1).congrB q
  · rw [hb] at hi
    refine In.congr ((O.gj.into O.sm i hi).trans fun j hj => in_wh hj) fun c hc => q i c hi hc
section
variable {T : List Fn} {I : Ix} {n : Nat}
theorem fractions_of_ok (H : HFo T I) {x : D} {r : List Int} {bot : Int} {k : Nat} (hb : bot ≠ 0) (hk : bot.natAbs < 2 ^ k) (hk2 : k ≤ 9000) (hs : r.length ≤ sizeLine) (hx : x.items = some (r.map D.int)) {a : Ar} (ha : ArB a x) : evF T (n + 2) I.fractions_of [a, .d (.int bot)] = .ok (vd (r.map fun x => Rat.divInt x bot)) [] := by
  have lc : evE (evF T (n + 1)) (e_fractions_of_0 I) [.bor x, .dat (.int bot), .un] = .ok (.lst (r.map fun x => fr (Rat.divInt x bot))) [.bor x, .dat (.int bot), .un] := by
    refine lc_map r D.int (fun x => fr (Rat.divInt x bot)) (by simp! [hx]) rfl hs (fun z hz => ⟨_, rfl, rfl, ?_⟩) rfl
    have := fraction_ok (n := n) H.toHNum (a := z) hb hk hk2
    simp! [this]
  have e : vd (r.map fun x => Rat.divInt x bot) = .tup (r.map fun x => fr (Rat.divInt x bot)) := by
    rw [vd, List.map_map]
    rfl
  rw [run_eq H.fractions_of (entry_bd ha), e]
  simp! [F_fractions_of, lc]
end
end Sm
end

section
set_option linter.all false
set_option autoImplicit false
set_option maxRecDepth 100000
/-! W9: echelon, rank of the program. -/
namespace Sm
open PySem DetQ
local macro_rules | `(tactic| simp! [$ls,*]) => `(tactic| simp only [evSs, evS, evE, evEs, as_nil, as_io, as_scr, as_bor, as_var, as_non, as_bl, as_int, as_str, as_tup, as_lst, as_bin, as_neg, as_not, as_cmp, as_and, as_or, as_ife, as_idx, as_slc, as_slcS, as_call, as_cal, as_isi, as_lc, hof_bor, hof_var, hof_non, hof_bl, hof_int, hof_str, hof_tup, hof_lst, hof_bin, hof_neg, hof_not, hof_cmp, hof_and, hof_or, hof_ife, hof_idx, hof_slc, hof_slcS, hof_call, hof_cal, hof_isi, hof_lc, evPof, evIt, Res.bind, rdB, rdE, rdO, rdS, Hd.look, opt, Sl.see, List.getElem?_cons_zero, List.getElem?_cons_succ, List.getD_cons_zero, List.getD_cons_succ, len_tup, len_lst, bi_int, bi_intb, bi_abs, bi_tupl, bi_tupt, bi_lstl, bi_lstt, bi_gcd, Cop.ev, Bop.ev, add_ii, add_tt, add_ll, sub_ii, neg_ii, D.ltI, isN_n, isN_i, isN_t, isN_l, isN_b, items_t, items_l, eqv_int, truthM, D.truth, nx, put_free, free_un, free_dat, free_own, free_bor, chg, List.set, asListO, It.locks, Ex.lock, Sl.lock, Sl.unlock, lockE, unlockE, wipeE, backE, fillA, callM, ioBack, iosOf, Option.map_some, if_true, List.length_cons, List.length_nil, List.replicate, List.cons_append, List.nil_append, List.append_nil, Nat.zero_add, List.any_cons, List.any_nil, ty_int_obj, ty_bool_obj, ty_str_obj, ty_list_obj, ty_tuple_obj, ty_cls_non, ty_cls_bl, ty_cls_int, ty_cls_str, ty_cls_tup, ty_cls_lst, ty_cls_obj, ty_int_non, ty_int_bl, ty_int_int, ty_int_str, ty_int_tup, ty_int_lst, ty_bool_non, ty_bool_bl, ty_bool_int, ty_bool_str, ty_bool_tup, ty_bool_lst, ty_str_non, ty_str_bl, ty_str_int, ty_str_str, ty_str_tup, ty_str_lst, ty_list_non, ty_list_bl, ty_list_int, ty_list_str, ty_list_tup, ty_list_lst, ty_tuple_non, ty_tuple_bl, ty_tuple_int, ty_tuple_str, ty_tuple_tup, ty_tuple_lst, Bool.or_false, Bool.false_or, Bool.not_true, Bool.not_false, Bool.true_or, Bool.or_true, ap_nil, ap1, ap2, ap3, ap4, ap_b, ap_bb, ap_bd, ap_db, ap_bdd, ap_dbd, ap_dbdd, ap_bbd, ap_ddbd, ap_dbb, ap_ddb, ap_bdb, ap_bddb, ap_bddbd, ap_s, ap_do, ap_dodd, ap_doddd, idx0l, idx0t, idx1l, idx1t, Nat.reduceAdd, Nat.reduceSub, Nat.reduceLeDiff, List.drop, Tg.put, intP, frzE, beq_self_eq_true, size1, size2, size0, $ls,*])
structure HE1 (T : List Fn) (I : Ix) : Prop extends HEch T I where
  rank_of : T[I.rank_of]? = some (F_rank_of I)
  echelon : T[I.echelon]? = some (F_echelon I)
  rank : T[I.rank]? = some (F_rank I)
/-- rows that the program's linear algebra takes: bounds -/
structure Okr (M : List (List Rat)) (w K N : Nat) : Prop where
  m1 : 1 ≤ M.length
  m24 : M.length ≤ 24
  w1 : 1 ≤ w
  w8 : w ≤ 50
  wid : ∀ v ∈ M, v.length = w
  N0 : 0 < N
  N64 : N < 2 ^ 64
  den : ∀ v ∈ M, ∀ q ∈ v, q.den ∣ N
  K1 : 1 ≤ K
  bd : ∀ v ∈ M, ∀ x ∈ wh v, x.natAbs < 2 ^ K
  big : Bk K M.length ≤ 9000
section
variable {T : List Fn} {I : Ix} {n : Nat}
theorem wh_rows {M : List (List Rat)} {w K N : Nat} (O : Okr M w K N) : (∀ r ∈ M.map wh, r.length = w) ∧ ∀ r ∈ M.map wh, ∀ x ∈ r, x.natAbs < 2 ^ K := by
  refine ⟨fun r hr => ?_, fun r hr x hx => ?_⟩
  · obtain ⟨v, hv, rfl⟩ := List.mem_map.mp hr
    rw [wh_len]; exact O.wid v hv
  · obtain ⟨v, hv, rfl⟩ := List.mem_map.mp hr
    exact O.bd v hv x hx
theorem echelon_ok (H : HE1 T I) {M : List (List Rat)} {w K N kk : Nat} (O : Okr M w K N) (hw8 : w ≤ 8) {x : D} (hx : RdR kk x M) (hkk : kk ≤ 9000) {a : Ar} (ha : ArB a x) :
    ∃ (R : List (List Int)) (bot : Int) (k : Nat) (s p : Nat → Nat) (W : Mx) (d : Rat), evF T (n + 8) I.echelon [a] = .ok (md (bR R bot)) [] ∧ RO M.length w w K k (mx (M.map wh)) s p W d R bot := by
  have r := rows_needed_ok (n := n) (y := .int 1) H.toHChk hx O.wid hkk O.m1 O.m24 O.w1 hw8 (a := .b 0 x) arB
  have h2 := whole_rows_ok (n := n + 5) H.toHEch O.N0 O.N64 (M := M) (fun v hv => ⟨le_size (by have := O.wid v hv; have := O.w8; omega), O.den v hv⟩) (le_size (by have := O.m24; omega)) (x := md M) rfl (a := .d (md M)) arD
  obtain ⟨q1, q2⟩ := wh_rows O
  have hm := O.m24
  obtain ⟨k, s, p, W, d, R, bot, h3, O3⟩ := reduced_ok (n := n + 5) H.toHRow (Z := M.map wh) (m := M.length) (w := w) (wd := w) (K := K) (by rw [List.length_map]) q1 q2 O.K1 (Nat.le_refl _) O.big (by omega) (by omega) (x := .lst (M.map fun v => zt (wh v))) (e := zt) (fun _ _ => .inl rfl) (by rw [List.map_map]; rfl) (a := .d (.lst (M.map fun v => zt (wh v)))) arD
  refine ⟨R, bot, k, s, p, W, d, ?_, O3⟩
  have bne : bot ≠ 0 := by have := O3.pos; omega
  have lc : ∀ (s1 s3 s4 : Sl), evE (evF T (n + 7)) (e_echelon_0 I) [.bor x, s1, .dat (wl R), s3, .dat (.int bot), .un] = .ok (.lst (R.map fun r => vd (r.map fun x => Rat.divInt x bot))) [.bor x, s1, .dat (wl R), s3, .dat (.int bot), .un] := fun s1 s3 s4 => by
    refine lc_map R zd (fun r => vd (r.map fun x => Rat.divInt x bot)) (by simp! [wl]) rfl (le_size (by have := O3.len; have := O3.gj.km; omega)) (fun z hz => ⟨_, rfl, rfl, ?_⟩) rfl
    have := fractions_of_ok (n := n + 5) H.toHFo bne O3.bb O.big (le_size (by have := O3.wid z hz; omega)) (x := zd z) zd_items (a := .d (zd z)) arD
    simp! [this]
  obtain ⟨v0, M', eM⟩ : ∃ v0 M', M = v0 :: M' := by
    cases hM : M with
    | nil => have := O.m1; rw [hM] at this; simp at this
    | cons v M => exact ⟨v, M, rfl⟩
  have i0 : D.idx (md M) (.int 0) = some (vd v0) := by rw [eM]; exact idx0t
  have l0 : Bi.ev .len [vd v0] = some (.int (w : Int)) := by
    rw [vd, len_tup, List.length_map, O.wid v0 (by rw [eM]; exact List.mem_cons_self)]
  have em : md (bR R bot) = .tup (R.map fun r => vd (r.map fun x => Rat.divInt x bot)) := by
    rw [md, bR, List.map_map]
    rfl
  have lc' := lc (.dat (md M)) (.dat (.lst (((List.range k).map p).map dn))) .un
  rw [run_eq H.echelon (entry_b1 ha), em]
  simp! [F_echelon, r, h2, i0, l0, h3, lc']
theorem rank_ok (H : HE1 T I) {M : List (List Rat)} {w K N kk : Nat} (O : Okr M w K N) (hw8 : w ≤ 8) {x : D} (hx : RdR kk x M) (hkk : kk ≤ 9000) {a : Ar} (ha : ArB a x) :
    ∃ (R : List (List Int)) (bot : Int) (k : Nat) (s p : Nat → Nat) (W : Mx) (d : Rat), evF T (n + 8) I.rank [a] = .ok (.int (k : Int)) [] ∧ RO M.length w w K k (mx (M.map wh)) s p W d R bot := by
  have r := rows_needed_ok (n := n) (y := .int 1) H.toHChk hx O.wid hkk O.m1 O.m24 O.w1 hw8 (a := .b 0 x) arB
  have h2 := whole_rows_ok (n := n + 5) H.toHEch O.N0 O.N64 (M := M) (fun v hv => ⟨le_size (by have := O.wid v hv; have := O.w8; omega), O.den v hv⟩) (le_size (by have := O.m24; omega)) (x := md M) rfl (a := .d (md M)) arD
  obtain ⟨q1, q2⟩ := wh_rows O
  have hm := O.m24
  obtain ⟨k, s, p, W, d, R, bot, h3, O3⟩ := reduced_ok (n := n + 4) H.toHRow (Z := M.map wh) (m := M.length) (w := w) (wd := w) (K := K) (by rw [List.length_map]) q1 q2 O.K1 (Nat.le_refl _) O.big (by omega) (by omega) (x := .lst (M.map fun v => zt (wh v))) (e := zt) (fun _ _ => .inl rfl) (by rw [List.map_map]; rfl) (a := .b 0 (.lst (M.map fun v => zt (wh v)))) arB
  refine ⟨R, bot, k, s, p, W, d, ?_, O3⟩
  have h4 : evF T (n + 7) I.rank_of [.d (.lst (M.map fun v => zt (wh v))), .d (.int (w : Int))] = .ok (.int (k : Int)) [] := by
    have i1 : D.idx (.tup [wl R, .lst (((List.range k).map p).map dn), .int bot]) (.int 1) = some (.lst (((List.range k).map p).map dn)) := rfl
    rw [run_eq H.rank_of (entry_bd arD)]
    simp! [F_rank_of, h3, i1, List.length_map, List.length_range]
  obtain ⟨v0, M', eM⟩ : ∃ v0 M', M = v0 :: M' := by
    cases hM : M with
    | nil => have := O.m1; rw [hM] at this; simp at this
    | cons v M => exact ⟨v, M, rfl⟩
  have i0 : D.idx (md M) (.int 0) = some (vd v0) := by rw [eM]; exact idx0t
  have l0 : Bi.ev .len [vd v0] = some (.int (w : Int)) := by
    rw [vd, len_tup, List.length_map, O.wid v0 (by rw [eM]; exact List.mem_cons_self)]
  rw [run_eq H.rank (entry_b1 ha)]
  simp! [F_rank, r, h2, i0, l0, h4]
end
end Sm
end

section
set_option linter.all false
set_option autoImplicit false
set_option maxRecDepth 100000
/-! D1: the program's determinant. -/
namespace Sm
open PySem DetQ
local macro_rules | `(tactic| simp! [$ls,*]) => `(tactic| simp only [evSs, evS, evE, evEs, as_nil, as_io, as_scr, as_bor, as_var, as_non, as_bl, as_int, as_str, as_tup, as_lst, as_bin, as_neg, as_not, as_cmp, as_and, as_or, as_ife, as_idx, as_slc, as_slcS, as_call, as_cal, as_isi, as_lc, hof_bor, hof_var, hof_non, hof_bl, hof_int, hof_str, hof_tup, hof_lst, hof_bin, hof_neg, hof_not, hof_cmp, hof_and, hof_or, hof_ife, hof_idx, hof_slc, hof_slcS, hof_call, hof_cal, hof_isi, hof_lc, evPof, evIt, Res.bind, rdB, rdE, rdO, rdS, Hd.look, opt, Sl.see, List.getElem?_cons_zero, List.getElem?_cons_succ, List.getD_cons_zero, List.getD_cons_succ, len_tup, len_lst, bi_int, bi_intb, bi_abs, bi_tupl, bi_tupt, bi_lstl, bi_lstt, bi_gcd, Cop.ev, Bop.ev, add_ii, add_tt, add_ll, sub_ii, neg_ii, D.ltI, isN_n, isN_i, isN_t, isN_l, isN_b, items_t, items_l, eqv_int, truthM, D.truth, nx, put_free, free_un, free_dat, free_own, free_bor, chg, List.set, asListO, It.locks, Ex.lock, Sl.lock, Sl.unlock, lockE, unlockE, wipeE, backE, fillA, callM, ioBack, iosOf, Option.map_some, if_true, List.length_cons, List.length_nil, List.replicate, List.cons_append, List.nil_append, List.append_nil, Nat.zero_add, List.any_cons, List.any_nil, ty_int_obj, ty_bool_obj, ty_str_obj, ty_list_obj, ty_tuple_obj, ty_cls_non, ty_cls_bl, ty_cls_int, ty_cls_str, ty_cls_tup, ty_cls_lst, ty_cls_obj, ty_int_non, ty_int_bl, ty_int_int, ty_int_str, ty_int_tup, ty_int_lst, ty_bool_non, ty_bool_bl, ty_bool_int, ty_bool_str, ty_bool_tup, ty_bool_lst, ty_str_non, ty_str_bl, ty_str_int, ty_str_str, ty_str_tup, ty_str_lst, ty_list_non, ty_list_bl, ty_list_int, ty_list_str, ty_list_tup, ty_list_lst, ty_tuple_non, ty_tuple_bl, ty_tuple_int, ty_tuple_str, ty_tuple_tup, ty_tuple_lst, Bool.or_false, Bool.false_or, Bool.not_true, Bool.not_false, Bool.true_or, Bool.or_true, ap_nil, ap1, ap2, ap3, ap4, ap_b, ap_bb, ap_bd, ap_db, ap_bdd, ap_dbd, ap_dbdd, ap_bbd, ap_ddbd, ap_dbb, ap_ddb, ap_bdb, ap_bddb, ap_bddbd, ap_s, ap_do, ap_dodd, ap_doddd, idx0l, idx0t, idx1l, idx1t, Nat.reduceAdd, Nat.reduceSub, Nat.reduceLeDiff, List.drop, Tg.put, intP, frzE, beq_self_eq_true, size1, size2, size0, $ls,*])
structure HDet (T : List Fn) (I : Ix) : Prop extends HRow T I where
  determinant_of : T[I.determinant_of]? = some (F_determinant_of I)
  square_needed : T[I.square_needed]? = some (F_square_needed I)
  determinant : T[I.determinant]? = some (F_determinant I)
theorem ext_id {k : Nat} : ext (fun i => i) k k = fun i => i := by
  funext i
  show (if i = k then k else i) = i
  split
  · rename_i h; exact h.symm
  · rfl
/-- what stands in determinant_of when k pivots are found -/
structure DS (m K : Nat) (A : Mx) (k : Nat) (s : Nat → Nat) (W : Mx) (V : List (List Int)) (bot sg : Int) : Prop where
  gj : Gj m m k k A s (fun i => i) W (bot : Rat)
  len : V.length = m
  wid : ∀ r ∈ V, r.length = m
  sm : ∀ i, i < m → s i < m
  inj : ∀ i j, i < m → j < m → s i = s j → i = j
  same : ∀ i c, k ≤ i → i < m → c < m → W i c = mx V i c
  bd : ∀ r ∈ V, ∀ x ∈ r, x.natAbs < 2 ^ Bk K k
  bb : bot.natAbs < 2 ^ Bk K k
  s1 : sg = 1 ∨ sg = -1
  ds : det m (fun a b => A (s a) b) = (sg : Rat) * det m A
section
variable {m K k : Nat} {A : Mx} {s : Nat → Nat} {W : Mx} {V : List (List Int)} {bot sg : Int}
theorem DS.start {Z : List (List Int)} (hK : 1 ≤ K) (hl : Z.length = m) (hw : ∀ r ∈ Z, r.length = m) (hb : ∀ r ∈ Z, ∀ x ∈ r, x.natAbs < 2 ^ K) : DS m K (mx Z) 0 (fun i => i) (mx Z) Z 1 1 :=
  ⟨Gj.start, hl, hw, fun _ h => h, fun _ _ _ _ z => z, fun _ _ _ _ _ => rfl, fun r hr x hx => by
    have : Bk K 0 = K := by unfold Bk; omega
    rw [this]
    exact hb r hr x hx, Nat.one_lt_two_pow_iff.mpr (by unfold Bk; omega), .inl rfl, by
    show det m (mx Z) = ((1 : Int) : Rat) * _
    rw [show ((1 : Int) : Rat) = 1 from rfl, Rat.one_mul]⟩
theorem DS.row (R : DS m K A k s W V bot sg) {i : Nat} (hi : i < m) : V.getD i [] ∈ V := by
  rw [List.getD_eq_getElem?_getD, List.getElem?_eq_getElem (by rw [R.len]; exact hi)]
  exact List.getElem_mem _
theorem DS.bot0 (R : DS m K A k s W V bot sg) : bot ≠ 0 := fun e => R.gj.d0 (by rw [e]; rfl)
theorem DS.none (R : DS m K A k s W V bot sg) (hk : k < m) (h : ∀ i, k ≤ i → i < V.length → ent V i k = 0) : det m A = 0 := by
  have hl := R.len
  have G := R.gj.pass hk fun i h1 h2 => by
    rw [R.same i k h1 h2 hk]
    show ((ent V i k : Int) : Rat) = 0
    rw [h i h1 (by omega)]; rfl
  obtain ⟨k', s', p', W', d', G', hk', hs', hi'⟩ := Gj.complete (m - (k + 1)) (by omega) G (by omega) R.sm R.inj
  exact G'.sing hk' hs' hi'
/-- the rows where the program has them behind its change -/
theorem DS.swap (R : DS m K A k s W V bot sg) {f : Nat} (hf : k ≤ f) (hfm : f < m) {V1 : List (List Int)} (hV1 : V1.length = m) (hV2 : ∀ i, i < m → V1.getD i [] = V.getD (tr k f i) []) :
    DS m K A k (fun i => s (tr k f i)) (fun i => W (tr k f i)) V1 bot (if f = k then sg else -sg) := by
  have tm : ∀ i, i < m → tr k f i < m := fun i hi => tr_lt (by omega) hfm hi
  have tt : ∀ i, tr k f (tr k f i) = i := fun i => by
    unfold tr
    repeat' split
    all_goals omega
  have hmem : ∀ r ∈ V1, r ∈ V := fun r hr => by
    obtain ⟨i, hi, e⟩ := mem_getD hr
    rw [hV1] at hi
    rw [← e, hV2 i hi]
    exact R.row (tm i hi)
  refine ⟨R.gj.swap hf hfm, hV1, fun r hr => R.wid r (hmem r hr), fun i hi => R.sm _ (tm i hi), fun i j hi hj z => ?_, fun i c h1 h2 h3 => ?_, fun r hr => R.bd r (hmem r hr), R.bb, ?_, ?_⟩
  · have z := congrArg (tr k f) (R.inj _ _ (tm i hi) (tm j hj) z)
    rwa [tt, tt] at z
  · have h4 : k ≤ tr k f i := by
      unfold tr
      repeat' split
      all_goals omega
    show W (tr k f i) c = _
    rw [R.same _ c h4 (tm i h2) h3]
    show ((ent V (tr k f i) c : Int) : Rat) = ((ent V1 i c : Int) : Rat)
    unfold ent
    rw [hV2 i h2]
  · rcases R.s1 with h | h <;> split <;> omega
  · by_cases e : f = k
    · rw [if_pos e, ← R.ds]
      refine det_ext fun a b _ _ => ?_
      have : tr k f a = a := by
        unfold tr
        repeat' split
        all_goals omega
      rw [this]
    · rw [if_neg e, Rat.intCast_neg]
      have := det_tr (n := m) (A := fun a b => A (s a) b) (r := k) (s := f) (by omega) hfm (Ne.symm e)
      rw [R.ds] at this
      have e2 : det m (fun a b => A (s (tr k f a)) b) = -((sg : Rat) * det m A) := this
      rw [e2]
      grind
theorem DS.step (R : DS m K A k s W V bot sg) (hA : ∀ i c, i < m → c < m → IsZ (A i c)) (hk : k < m) (hr : ent V k k ≠ 0) {V2 : List (List Int)} (hV : V2.length = m)
    (hV2 : ∀ i, i < m → V2.getD i [] = if k < i then elim (V.getD i []) (V.getD k []) k bot else V.getD i []) : DS m K A (k + 1) s (clr W k k (bot : Rat)) V2 (ent V k k) sg := by
  have hb := R.bot0
  have hkk : W k k = ((ent V k k : Int) : Rat) := R.same k k (Nat.le_refl k) hk hk
  have hr' : W k k ≠ 0 := by
    rw [hkk]
    intro e
    exact hr (by exact_mod_cast e)
  have G := R.gj.step hk hk hr'
  rw [ext_id] at G
  have hZ := G.whole R.sm hA
  have wl : ∀ i, i < m → (V.getD i []).length = m := fun i hi => R.wid _ (R.row hi)
  have hbd : ∀ i c, i < m → (ent V i c).natAbs < 2 ^ Bk K k := fun i c hi => getD_bound (R.bd _ (R.row hi))
  have pw : 2 ^ Bk K k ≤ 2 ^ Bk K (k + 1) := Nat.pow_le_pow_right (by decide) (Bk_mono (Nat.le_succ k))
  have key : ∀ i c, k < i → i < m → c < m → clr W k k (bot : Rat) i c = mx V2 i c ∧ (ent V2 i c).natAbs < 2 ^ Bk K (k + 1) := fun i c hki hi hc => by
    have hz := hZ i c hi hc
    have eV : ent V2 i c = (ent V k k * ent V i c - ent V i k * ent V k c).fdiv bot := by
      unfold ent
      rw [hV2 i hi, if_pos hki, elim_getD (by rw [wl i hi, wl k hk]) (by rw [wl i hi]; exact hc)]
    have ec : clr W k k (bot : Rat) i c = ((ent V k k * ent V i c - ent V i k * ent V k c : Int) : Rat) / (bot : Rat) := by
      show (if i = k then _ else (W k k * W i c - W i k * W k c) / (bot : Rat)) = _
      rw [if_neg (by omega), R.same k k (Nat.le_refl k) hk hk, R.same i c (by omega) hi hc, R.same i k (by omega) hi hk, R.same k c (Nat.le_refl k) hk hc, Rat.intCast_sub, Rat.intCast_mul, Rat.intCast_mul]
      rfl
    rw [ec] at hz
    obtain ⟨q1, q2⟩ := exact_fdiv hb hz
    refine ⟨?_, ?_⟩
    · show _ = ((ent V2 i c : Int) : Rat)
      rw [eV, ec, q1]
    · rw [eV, Bk_succ]
      have h1 : (ent V k k * ent V i c).natAbs < 2 ^ Bk K k * 2 ^ Bk K k := by
        rw [Int.natAbs_mul]
        exact Nat.mul_lt_mul'' (hbd k k hk) (hbd i c hi)
      have h2 : (ent V i k * ent V k c).natAbs < 2 ^ Bk K k * 2 ^ Bk K k := by
        rw [Int.natAbs_mul]
        exact Nat.mul_lt_mul'' (hbd i k hi) (hbd k c hk)
      have h3 : 2 ^ (2 * Bk K k + 1) = 2 * (2 ^ Bk K k * 2 ^ Bk K k) := by
        rw [Nat.pow_succ, Nat.two_mul, Nat.pow_add]
        omega
      have h4 := Int.natAbs_sub_le (ent V k k * ent V i c) (ent V i k * ent V k c)
      omega
  have vw : ∀ r ∈ V2, r.length = m := fun r hr2 => by
    obtain ⟨i, hi, e⟩ := mem_getD hr2
    rw [hV] at hi
    rw [← e, hV2 i hi]
    split
    · rw [elim_len (by rw [wl i hi, wl k hk]), wl i hi]
    · exact wl i hi
  rw [hkk] at G
  refine ⟨G, hV, vw, R.sm, R.inj, fun i c h1 h2 h3 => (key i c (by omega) h2 h3).1, fun r hr2 x hx => ?_, ?_, R.s1, R.ds⟩
  · obtain ⟨i, hi, e⟩ := mem_getD hr2
    rw [hV] at hi
    obtain ⟨c, hc, e2⟩ := List.getElem_of_mem hx
    have hcw : c < m := by rw [← vw r hr2]; exact hc
    by_cases hki : k < i
    · have := (key i c hki hi hcw).2
      unfold ent at this
      rw [e, List.getD_eq_getElem?_getD, List.getElem?_eq_getElem hc, Option.getD_some, e2] at this
      exact this
    · rw [hV2 i hi, if_neg hki] at e
      have := R.bd _ (R.row hi) x (by rw [e]; exact hx)
      omega
  · have := hbd k k hk
    omega
end
section
variable {T : List Fn} {I : Ix} {n : Nat}
theorem det_in (H : HDet T I) {W : List (List Int)} {m k K : Nat} {bot : Int} {s0 s2 s3 s6 s8 : Sl} (hl : W.length = m) (hw : ∀ r ∈ W, r.length = m) (hk : k < m) (hb : bot ≠ 0) (hbk : bot.natAbs < 2 ^ K) (hbd : ∀ r ∈ W, ∀ x ∈ r, x.natAbs < 2 ^ K) (hK : K ≤ 9000) (hm : m ≤ 100) (f8 : s8.free = true) :
    ∃ (V : List (List Int)) (t8 : Sl), evS (evF T (n + 1)) (s_determinant_of_1 I) [s0, .own (W.map zd), s2, s3, .dat (.int bot), .dat (dn k), s6, .dat (zd (W.getD k [])), s8] = .ok .nx [s0, .own (V.map zd), s2, s3, .dat (.int bot), .dat (dn k), s6, .dat (zd (W.getD k [])), t8] ∧ t8.free = true ∧ V.length = m ∧ ∀ i, i < m → V.getD i [] = if k < i then elim (W.getD i []) (W.getD k []) k bot else W.getD i [] := by
  have r2 := rng2_n (a := k + 1) (b := m) (le_size (by omega)) (le_size hm)
  have hit : evIt (evF T (n + 1)) (.rng2 (.bin .add (.var 5) (.int 1)) (.cal .len (.cons (.bor 1) .nil))) [s0, .own (W.map zd), s2, s3, .dat (.int bot), .dat (dn k), s6, .dat (zd (W.getD k [])), s8] = .ok ((List.range (m - (k + 1))).map fun j => dn (k + 1 + j)) [s0, .own (W.map zd), s2, s3, .dat (.int bot), .dat (dn k), s6, .dat (zd (W.getD k [])), s8] := by
    have e : (k : Int) + 1 = ((k + 1 : Nat) : Int) := rfl
    simp! [dn, List.length_map, hl, e, r2]
  have mem : ∀ i, i < m → W.getD i [] ∈ W := fun i hi => by
    rw [List.getD_eq_getElem?_getD, List.getElem?_eq_getElem (by omega)]
    exact List.getElem_mem _
  obtain ⟨ρ', e, V, t8, rfl, f, hV, hV2⟩ := for_go (tg := .nm 8) (body := evSs (evF T (n + 1)) (b_determinant_of_1 I)) (fun j => dn (k + 1 + j)) (List.range (m - (k + 1))) (fun j ρ => ∃ (V : List (List Int)) (t8 : Sl), ρ = [s0, .own (V.map zd), s2, s3, .dat (.int bot), .dat (dn k), s6, .dat (zd (W.getD k [])), t8] ∧ t8.free = true ∧ V.length = m ∧ ∀ i, i < m → V.getD i [] = if k < i ∧ i < k + 1 + j then elim (W.getD i []) (W.getD k []) k bot else W.getD i []) (ρ := [s0, .own (W.map zd), s2, s3, .dat (.int bot), .dat (dn k), s6, .dat (zd (W.getD k [])), s8]) ⟨W, s8, rfl, f8, hl, fun i _ => by rw [if_neg (by omega)]⟩ (by
    rintro j a ρ ha ⟨V, t8, rfl, f, hV, hV2⟩
    have hj : j < m - (k + 1) := by
      have := (List.getElem?_eq_some_iff.mp ha).1
      rwa [List.length_range] at this
    have ea : a = j := by
      rw [List.getElem?_range hj] at ha
      exact (Option.some.inj ha).symm
    subst ea
    generalize hi : k + 1 + a = i at *
    have him : i < m := by omega
    have eV : V.getD i [] = W.getD i [] := by rw [hV2 i him, if_neg (by omega)]
    have i1 : D.idx (.lst (V.map zd)) (.int (i : Int)) = some (zd (W.getD i [])) := by rw [← eV]; exact idx_wl (by omega)
    have wa := hw _ (mem i him)
    have wk := hw _ (mem k hk)
    have he := eliminated_ok (n := n) H.toHRow (r := W.getD i []) (c := W.getD k []) (pl := k) (by rw [wa, wk]) (by omega) hb hbk (hbd _ (mem i him)) (hbd _ (mem k hk)) hK (le_size (by omega)) (a := .d (zd (W.getD k []))) arD
    have ix : L2.ixN V.length (i : Int) = some i := ixN_nat (by omega)
    have hs : (V.map zd).set i (zd (elim (W.getD i []) (W.getD k []) k bot)) = (V.set i (elim (W.getD i []) (W.getD k []) k bot)).map zd := by rw [List.map_set]
    refine ⟨.nx, _, ?_, .inl rfl, V.set i (elim (W.getD i []) (W.getD k []) k bot), .dat (dn i), rfl, rfl, by rw [List.length_set]; exact hV, fun q hq => ?_⟩
    · simp! [b_determinant_of_1, dn, f, i1, he, List.length_map, ix, stoD, hs]
    · rw [getD_set (by omega)]
      by_cases e : q = i
      · rw [if_pos e, if_pos ⟨by omega, by omega⟩, e]
      · rw [if_neg e, hV2 q hq]
        by_cases hi2 : k < q ∧ q < i
        · rw [if_pos hi2, if_pos ⟨by omega, by omega⟩]
        · rw [if_neg hi2, if_neg (fun h => hi2 ⟨by omega, by omega⟩)])
  rw [List.length_range] at hV2
  refine ⟨V, t8, for_st3 hit rfl e rfl, f, hV, fun i hi => ?_⟩
  rw [hV2 i hi]
  by_cases e : k < i
  · rw [if_pos ⟨e, by omega⟩, if_pos e]
  · rw [if_neg (fun h => e h.1), if_neg e]
end
end Sm
end

section
set_option linter.all false
set_option autoImplicit false
set_option maxRecDepth 100000
/-! D2: the program's determinant, whole. -/
namespace Sm
open PySem DetQ
local macro_rules | `(tactic| simp! [$ls,*]) => `(tactic| simp only [evSs, evS, evE, evEs, as_nil, as_io, as_scr, as_bor, as_var, as_non, as_bl, as_int, as_str, as_tup, as_lst, as_bin, as_neg, as_not, as_cmp, as_and, as_or, as_ife, as_idx, as_slc, as_slcS, as_call, as_cal, as_isi, as_lc, hof_bor, hof_var, hof_non, hof_bl, hof_int, hof_str, hof_tup, hof_lst, hof_bin, hof_neg, hof_not, hof_cmp, hof_and, hof_or, hof_ife, hof_idx, hof_slc, hof_slcS, hof_call, hof_cal, hof_isi, hof_lc, evPof, evIt, Res.bind, rdB, rdE, rdO, rdS, Hd.look, opt, Sl.see, List.getElem?_cons_zero, List.getElem?_cons_succ, List.getD_cons_zero, List.getD_cons_succ, len_tup, len_lst, bi_int, bi_intb, bi_abs, bi_tupl, bi_tupt, bi_lstl, bi_lstt, bi_gcd, Cop.ev, Bop.ev, add_ii, add_tt, add_ll, sub_ii, neg_ii, D.ltI, isN_n, isN_i, isN_t, isN_l, isN_b, items_t, items_l, eqv_int, truthM, D.truth, nx, put_free, free_un, free_dat, free_own, free_bor, chg, List.set, asListO, It.locks, Ex.lock, Sl.lock, Sl.unlock, lockE, unlockE, wipeE, backE, fillA, callM, ioBack, iosOf, Option.map_some, if_true, List.length_cons, List.length_nil, List.replicate, List.cons_append, List.nil_append, List.append_nil, Nat.zero_add, List.any_cons, List.any_nil, ty_int_obj, ty_bool_obj, ty_str_obj, ty_list_obj, ty_tuple_obj, ty_cls_non, ty_cls_bl, ty_cls_int, ty_cls_str, ty_cls_tup, ty_cls_lst, ty_cls_obj, ty_int_non, ty_int_bl, ty_int_int, ty_int_str, ty_int_tup, ty_int_lst, ty_bool_non, ty_bool_bl, ty_bool_int, ty_bool_str, ty_bool_tup, ty_bool_lst, ty_str_non, ty_str_bl, ty_str_int, ty_str_str, ty_str_tup, ty_str_lst, ty_list_non, ty_list_bl, ty_list_int, ty_list_str, ty_list_tup, ty_list_lst, ty_tuple_non, ty_tuple_bl, ty_tuple_int, ty_tuple_str, ty_tuple_tup, ty_tuple_lst, Bool.or_false, Bool.false_or, Bool.not_true, Bool.not_false, Bool.true_or, Bool.or_true, ap_nil, ap1, ap2, ap3, ap4, ap_b, ap_bb, ap_bd, ap_db, ap_bdd, ap_dbd, ap_dbdd, ap_bbd, ap_ddbd, ap_dbb, ap_ddb, ap_bdb, ap_bddb, ap_bddbd, ap_s, ap_do, ap_dodd, ap_doddd, idx0l, idx0t, idx1l, idx1t, Nat.reduceAdd, Nat.reduceSub, Nat.reduceLeDiff, List.drop, Tg.put, intP, frzE, beq_self_eq_true, size1, size2, size0, $ls,*])
theorem swapL_self {V : List (List Int)} {k : Nat} (h : k < V.length) : swapL V k k = V := by
  have e : V.getD k [] = V[k] := by rw [List.getD_eq_getElem?_getD, List.getElem?_eq_getElem h]; rfl
  unfold swapL
  rw [List.set_set, e, List.set_getElem_self]
section
variable {T : List Fn} {I : Ix} {n : Nat}
theorem det_out (H : HDet T I) {V : List (List Int)} {m k K : Nat} {A : Mx} {s : Nat → Nat} {W : Mx} {bot sg : Int} {s0 s5 s6 s7 s8 : Sl} (R : DS m K A k s W V bot sg) (hA : ∀ i c, i < m → c < m → IsZ (A i c)) (hk : k < m) (hK : Bk K m ≤ 9000) (hm : m ≤ 100) (f5 : s5.free = true) (f6 : s6.free = true) (f7 : s7.free = true) (f8 : s8.free = true) :
    (∃ ρ', ((Tg.put (.nm 5) (dn k) [s0, .own (V.map zd), .un, .dat (.int sg), .dat (.int bot), s5, s6, s7, s8]).bind fun _ ρ => evSs (evF T (n + 1)) (b_determinant_of_0 I) ρ) = .ok (.rt (.int 0)) ρ' ∧ det m A = 0 ∧ iosOf [.b] ρ' = []) ∨
    ∃ ρ', ((Tg.put (.nm 5) (dn k) [s0, .own (V.map zd), .un, .dat (.int sg), .dat (.int bot), s5, s6, s7, s8]).bind fun _ ρ => evSs (evF T (n + 1)) (b_determinant_of_0 I) ρ) = .ok .nx ρ' ∧ ∃ (V' : List (List Int)) (s' : Nat → Nat) (W' : Mx) (bot' sg' : Int) (t5 t6 t7 t8 : Sl), ρ' = [s0, .own (V'.map zd), .un, .dat (.int sg'), .dat (.int bot'), t5, t6, t7, t8] ∧ DS m K A (k + 1) s' W' V' bot' sg' ∧ t5.free = true ∧ t6.free = true ∧ t7.free = true ∧ t8.free = true := by
  have hl := R.len
  have km := R.gj.km
  have hB : Bk K k ≤ 9000 := Nat.le_trans (Bk_mono km) hK
  rcases first_filled_ok (n := n) H.toHRow (W := V) (st := k) (pl := k) (fun r hr => by rw [R.wid r hr]; exact hk) (le_size (by omega)) (by omega) (a := .b 1 (.lst (V.map zd))) (.inr ⟨1, rfl⟩) with ⟨ef, h0⟩ | ⟨f, h1, h2, h3, ef⟩
  · left
    refine ⟨[s0, .own (V.map zd), .un, .dat (.int sg), .dat (.int bot), .dat (dn k), .dat .non, s7, s8], ?_, R.none hk h0, by cases s0 <;> rfl⟩
    simp! [b_determinant_of_0, dn, f5, f6, ef]
  · right
    have hf : f < m := by omega
    have R1 := R.swap h1 hf (V1 := swapL V k f) (by unfold swapL; rw [List.length_set, List.length_set]; exact hl) (fun i _ => swapL_getD (by omega) (by omega) i)
    have e1 : ent (swapL V k f) k k ≠ 0 := by
      unfold ent
      rw [swapL_getD (by omega) (by omega)]
      have : tr k f k = f := if_pos rfl
      rw [this]
      exact h3
    have i1 : D.idx (.lst (V.map zd)) (.int (f : Int)) = some (zd (V.getD f [])) := idx_wl (by omega)
    have i2 : D.idx (.lst (V.map zd)) (.int (k : Int)) = some (zd (V.getD k [])) := idx_wl (by omega)
    have x1 : L2.ixN V.length (k : Int) = some k := ixN_nat (by omega)
    have x2 : L2.ixN V.length (f : Int) = some f := ixN_nat (by omega)
    have es : ((V.map zd).set k (zd (V.getD f []))).set f (zd (V.getD k [])) = (swapL V k f).map zd := by
      unfold swapL
      rw [List.map_set, List.map_set]
    have i3 : D.idx (.lst ((swapL V k f).map zd)) (.int (k : Int)) = some (zd ((swapL V k f).getD k [])) := idx_wl (by rw [R1.len]; omega)
    have i4 : D.idx (zd ((swapL V k f).getD k [])) (.int (k : Int)) = some (.int (ent (swapL V k f) k k)) := idx_zd (by rw [R1.wid _ (R1.row hk)]; exact hk)
    by_cases e : f = k
    · rw [if_pos e] at R1
      obtain ⟨V2, t8, ein, ft, hV, hV2⟩ := det_in (n := n) H (s0 := s0) (s2 := .un) (s3 := .dat (.int sg)) (s6 := .dat (dn f)) (s8 := s8) R1.len R1.wid hk R1.bot0 R1.bb R1.bd hB hm f8
      have R2 := R1.step hA hk e1 hV hV2
      have hb : ((f : Int) == (k : Int)) = true := by rw [e]; exact beq_self_eq_true _
      have esw : swapL V k f = V := by rw [e]; exact swapL_self (by omega)
      rw [esw] at ein i3 i4 R2
      refine ⟨_, ?_, V2, _, _, ent V k k, sg, .dat (dn k), .dat (dn f), .dat (zd (V.getD k [])), t8, rfl, R2, rfl, rfl, rfl, ft⟩
      simp only [dn] at ein
      simp! [b_determinant_of_0, dn, f5, f6, f7, f8, ef, hb, i2, ein, i4]
    · rw [if_neg e] at R1
      obtain ⟨V2, t8, ein, ft, hV, hV2⟩ := det_in (n := n) H (s0 := s0) (s2 := .un) (s3 := .dat (.int (-sg))) (s6 := .dat (dn f)) (s8 := s8) R1.len R1.wid hk R1.bot0 R1.bb R1.bd hB hm f8
      have R2 := R1.step hA hk e1 hV hV2
      have hb : ((f : Int) == (k : Int)) = false := by rw [beq_eq_false_iff_ne]; omega
      refine ⟨_, ?_, V2, _, _, ent (swapL V k f) k k, -sg, .dat (dn k), .dat (dn f), .dat (zd ((swapL V k f).getD k [])), t8, rfl, R2, rfl, rfl, rfl, ft⟩
      simp only [dn] at ein
      simp! [b_determinant_of_0, dn, f5, f6, f7, f8, ef, hb, List.length_map, putS, stoD, i1, i2, x1, x2, List.length_set, es, i3, ein, i4]
theorem determinant_of_ok (H : HDet T I) {Z : List (List Int)} {m K : Nat} (hl : Z.length = m) (hw : ∀ r ∈ Z, r.length = m) (hb : ∀ r ∈ Z, ∀ x ∈ r, x.natAbs < 2 ^ K) (hK : 1 ≤ K) (hB : Bk K m ≤ 9000) (hm : m ≤ 100) {x : D} {e : List Int → D} (he : ∀ r ∈ Z, e r = zt r ∨ e r = zd r) (hx : x.items = some (Z.map e)) {a : Ar} (ha : ArB a x) :
    ∃ z : Int, evF T (n + 2) I.determinant_of [a] = .ok (.int z) [] ∧ (z : Rat) = det m (mx Z) := by
  have hA : ∀ i c, i < m → c < m → IsZ (mx Z i c) := fun i c _ _ => .int _
  have lc0 : evE (evF T (n + 1)) (e_determinant_of_0 I) [.bor x, .un, .un, .un, .un, .un, .un, .un, .un] = .ok (.lst (Z.map zd)) [.bor x, .un, .un, .un, .un, .un, .un, .un, .un] := by
    refine lc_map Z e zd (by simp! [hx]) rfl (le_size (by omega)) (fun r hr => ⟨_, rfl, rfl, ?_⟩) rfl
    have : Bi.ev .list [e r] = some (zd r) := by rcases he r hr with h | h <;> rw [h] <;> rfl
    simp! [this]
  rcases for_inv (tg := .nm 5) (body := evSs (evF T (n + 1)) (b_determinant_of_0 I)) dn (fun d ρ => d = .int 0 ∧ det m (mx Z) = 0 ∧ iosOf [.b] ρ = []) (List.range m) (fun j ρ => ∃ (V' : List (List Int)) (s' : Nat → Nat) (W' : Mx) (bot' sg' : Int) (t5 t6 t7 t8 : Sl), ρ = [.bor x, .own (V'.map zd), .un, .dat (.int sg'), .dat (.int bot'), t5, t6, t7, t8] ∧ DS m K (mx Z) j s' W' V' bot' sg' ∧ t5.free = true ∧ t6.free = true ∧ t7.free = true ∧ t8.free = true) (ρ := [.bor x, .own (Z.map zd), .un, .dat (.int 1), .dat (.int 1), .un, .un, .un, .un]) ⟨Z, _, _, 1, 1, .un, .un, .un, .un, rfl, DS.start hK hl hw hb, rfl, rfl, rfl, rfl⟩ (by
    rintro j a ρ ha ⟨V, s, W, bot, sg, t5, t6, t7, t8, rfl, R, f5, f6, f7, f8⟩
    have hj : j < m := by
      have := (List.getElem?_eq_some_iff.mp ha).1
      rwa [List.length_range] at this
    have ea : a = j := by
      rw [List.getElem?_range hj] at ha
      exact (Option.some.inj ha).symm
    subst ea
    rcases det_out (n := n) H (s0 := .bor x) R hA hj hB hm f5 f6 f7 f8 with ⟨ρ', q1, q2, q3⟩ | ⟨ρ', q1, V', s', W', b', g', u5, u6, u7, u8, rfl, q4, q5⟩
    · exact .inr ⟨_, ρ', q1, rfl, q2, q3⟩
    · exact .inl ⟨.nx, _, q1, .inl rfl, V', s', W', b', g', u5, u6, u7, u8, rfl, q4, q5⟩) with ⟨ρ', el, V, s, W, bot, sg, t5, t6, t7, t8, rfl, R, f5, f6, f7, f8⟩ | ⟨d, ρ', el, rfl, hd, hio⟩
  · rw [List.length_range] at R
    have es : evS (evF T (n + 1)) (s_determinant_of_0 I) [.bor x, .own (Z.map zd), .un, .dat (.int 1), .dat (.int 1), .un, .un, .un, .un] = .ok .nx [.bor x, .own (V.map zd), .un, .dat (.int sg), .dat (.int bot), t5, t6, t7, t8] := for_st3 (by simp! [List.length_map, hl, rng1_n (le_size hm)]) rfl el rfl
    have dt : det m (fun a b => mx Z (s a) b) = (bot : Rat) := R.gj.dt
    refine ⟨sg * bot, ?_, ?_⟩
    · have mm : D.mul (.int sg) (.int bot) = some (.int (sg * bot)) := by
        have := R.bb
        refine mul_mid (k := Bk K m) ?_ (by omega) this
        have h1 : 1 < 2 ^ Bk K m := Nat.one_lt_two_pow_iff.mpr (by
          have := Bk_mono (K := K) (Nat.zero_le m)
          have : Bk K 0 = K := by unfold Bk; omega
          omega)
        rcases R.s1 with h | h <;> rw [h] <;> exact h1
      rw [run_eq H.determinant_of (entry_b1 ha)]
      simp! [F_determinant_of, lc0, putPar, es, mm]
    · have ds := R.ds
      rw [dt] at ds
      rw [Rat.intCast_mul, ds]
      rcases R.s1 with h | h
      · rw [h]
        show (1 : Rat) * (1 * _) = _
        grind
      · rw [h]
        show ((-1 : Int) : Rat) * (((-1 : Int) : Rat) * _) = _
        rw [show ((-1 : Int) : Rat) = -1 from rfl]
        grind
  · have es : evS (evF T (n + 1)) (s_determinant_of_0 I) [.bor x, .own (Z.map zd), .un, .dat (.int 1), .dat (.int 1), .un, .un, .un, .un] = .ok (.rt (.int 0)) ρ' := for_st3 (by simp! [List.length_map, hl, rng1_n (le_size hm)]) rfl el rfl
    refine ⟨0, ?_, hd.symm⟩
    have hio2 : iosOf (F_determinant_of I).mos ρ' = [] := hio
    have eb : evSs (evF T (n + 1)) (F_determinant_of I).body [.bor x, .un, .un, .un, .un, .un, .un, .un, .un] = .ok (.rt (.int 0)) ρ' := by
      simp! [F_determinant_of, lc0, putPar, es]
    rw [run_eq H.determinant_of (entry_b1 ha)]
    show (match evSs (evF T (n + 1)) (F_determinant_of I).body [.bor x, .un, .un, .un, .un, .un, .un, .un, .un] with
      | .ok (.rt d) ρ => FRes.ok d (iosOf (F_determinant_of I).mos ρ)
      | .ok .nx ρ => if (F_determinant_of I).own = true then .bad else .ok .non (iosOf (F_determinant_of I).mos ρ)
      | .exc c x _ => if (F_determinant_of I).mos.contains .o = true then .bad else .exc c x
      | _ => .bad) = _
    rw [eb]
    show FRes.ok _ (iosOf (F_determinant_of I).mos ρ') = _
    rw [hio2]
theorem square_ok (H : HDet T I) {x : D} {y : Int} {M : List (List Rat)} {k : Nat} (hx : RdR k x M) (hw : ∀ v ∈ M, v.length = M.length) (hk2 : k ≤ 9000) (hm1 : 1 ≤ M.length) (hm : M.length ≤ 8) {a : Ar} (ha : ArB a x) :
    evF T (n + 8) I.square_needed [a, .d (.int y)] = .ok (md M) [] := by
  have r := rows_needed_ok (n := n) (y := .int y) H.toHChk hx hw hk2 hm1 (by omega) hm1 hm (a := .b 0 x) arB
  have lM : Bi.ev .len [md M] = some (.int (M.length : Int)) := by rw [md, len_tup, List.length_map]
  obtain ⟨v0, M', eM⟩ : ∃ v0 M', M = v0 :: M' := by
    cases hM : M with
    | nil => rw [hM] at hm1; simp at hm1
    | cons v M => exact ⟨v, M, rfl⟩
  have i0 : D.idx (md M) (.int 0) = some (vd v0) := by rw [eM]; exact idx0t
  have l0 : Bi.ev .len [vd v0] = some (.int (M.length : Int)) := by
    rw [vd, len_tup, List.length_map, hw v0 (by rw [eM]; exact List.mem_cons_self)]
  have b : ((M.length : Int) == (M.length : Int)) = true := beq_self_eq_true _
  rw [run_eq H.square_needed (entry_bd ha)]
  simp! [F_square_needed, r, lM, i0, l0]
def lprod (M : List (List Rat)) (j : Nat) : Nat := ((M.take j).map lcmR).foldl (· * ·) 1
theorem lprod_succ {M : List (List Rat)} {j : Nat} {v : List Rat} (h : M[j]? = some v) : lprod M (j + 1) = lprod M j * lcmR v := by
  unfold lprod
  rw [List.take_add_one, h, Option.toList_some, List.map_append, List.foldl_append]
  rfl
theorem lprod_le {M : List (List Rat)} {N : Nat} (h : ∀ v ∈ M, lcmR v ≤ N) : ∀ j, j ≤ M.length → 0 < lprod M j ∧ lprod M j ≤ N ^ j
  | 0, _ => ⟨Nat.one_pos, Nat.le_refl 1⟩
  | j + 1, hj => by
    obtain ⟨h1, h2⟩ := lprod_le h j (by omega)
    have e := lprod_succ (M := M) (j := j) (List.getElem?_eq_getElem (by omega))
    rw [e, Nat.pow_succ]
    exact ⟨Nat.mul_pos h1 (lcm_pos _), Nat.mul_le_mul h2 (h _ (List.getElem_mem _))⟩
theorem lprod_prod {M : List (List Rat)} : ∀ j, j ≤ M.length → ((lprod M j : Nat) : Rat) = prodTo j fun i => (lcmR (M.getD i []) : Rat)
  | 0, _ => rfl
  | j + 1, hj => by
    have hj' : j < M.length := by omega
    have e := lprod_succ (M := M) (j := j) (List.getElem?_eq_getElem hj')
    rw [e]
    show _ = prodTo j _ * (lcmR (M.getD j []) : Rat)
    rw [← lprod_prod j (by omega)]
    have : M.getD j [] = M[j] := by rw [List.getD_eq_getElem?_getD, List.getElem?_eq_getElem hj']; rfl
    rw [this]
    exact_mod_cast rfl
theorem determinant_ok (H : HDet T I) {x : D} {M : List (List Rat)} {k K N : Nat} (O : Okr M M.length K N) (hx : RdR k x M) (hk2 : k ≤ 9000) (hm : M.length ≤ 8) (hN : N ^ M.length < 2 ^ 9000) {a : Ar} (ha : ArB a x) :
    evF T (n + 9) I.determinant [a] = .ok (fr (det M.length (qx M))) [] := by
  have r := square_ok (n := n) H (y := 1) hx O.wid hk2 O.m1 hm (a := .b 0 x) arB
  have lN : ∀ v ∈ M, lcmR v ≤ N := fun v hv => Nat.le_of_dvd O.N0 (lcm_dvd v 1 (Nat.one_dvd _) (O.den v hv))
  have hlp := lprod_le lN
  have N64 := O.N64
  obtain ⟨ρ', el, t4, t5, t6, rfl, f4, f5, f6⟩ := for_go (tg := .nm 4) (body := evSs (evF T (n + 8)) (b_determinant_0 I)) vd M (fun j ρ => ∃ t4 t5 t6 : Sl, ρ = [.bor x, .dat (md M), .dat (.int (lprod M j : Nat)), .own ((M.take j).map fun v => zt (wh v)), t4, t5, t6] ∧ t4.free = true ∧ t5.free = true ∧ t6.free = true) (ρ := [.bor x, .dat (md M), .dat (.int 1), .own [], .un, .un, .un]) ⟨.un, .un, .un, rfl, rfl, rfl, rfl⟩ (by
    rintro j v ρ hv ⟨t4, t5, t6, rfl, f4, f5, f6⟩
    have hj : j < M.length := (List.getElem?_eq_some_iff.mp hv).1
    have hvM := List.mem_of_getElem? hv
    have sh := shared_ok (n := n + 7) H.toHRow O.N0 O.N64 (O.den v hvM) (le_size (by rw [O.wid v hvM]; omega)) (a := .d (vd v)) arD
    have lv := lN v hvM
    have mm : D.mul (.int (lprod M j : Nat)) (.int (lcmR v : Nat)) = some (.int ((lprod M (j + 1) : Nat) : Int)) := by
      rw [mul_small (by rw [Int.natAbs_natCast]; omega), lprod_succ hv]
      rfl
    have ht : ((M.take j).map fun v => zt (wh v)) ++ [zt (wh v)] = (M.take (j + 1)).map fun v => zt (wh v) := by
      rw [List.take_add_one, hv, Option.toList_some, List.map_append]
      rfl
    have lz : ((M.take j).map fun v => zt (wh v)).length < sizeLine := by
      have : (100 : Nat) < sizeLine := by decide
      rw [List.length_map, List.length_take]
      omega
    refine ⟨.nx, _, ?_, .inl rfl, .dat (vd v), .dat (zt (wh v)), .dat (.int (lcmR v : Nat)), rfl, rfl, rfl, rfl⟩
    simp! [b_determinant_0, f4, f5, f6, sh, if_pos lz, ht, mm])
  rw [List.take_length] at el
  have es : evS (evF T (n + 8)) (s_determinant_0 I) [.bor x, .dat (md M), .dat (.int 1), .own [], .un, .un, .un] = .ok .nx [.bor x, .dat (md M), .dat (.int (lprod M M.length : Nat)), .own (M.map fun v => zt (wh v)), t4, t5, t6] := for_st3 (by simp! [md]) rfl el rfl
  obtain ⟨q1, q2⟩ := wh_rows O
  obtain ⟨z, ez, hz⟩ := determinant_of_ok (n := n + 6) H (Z := M.map wh) (m := M.length) (K := K) (by rw [List.length_map]) q1 q2 O.K1 O.big (by omega) (x := .lst (M.map fun v => zt (wh v))) (e := zt) (fun _ _ => .inl rfl) (by rw [List.map_map]; rfl) (a := .b 3 (.lst (M.map fun v => zt (wh v)))) arB
  obtain ⟨p1, p2⟩ := hlp M.length (Nat.le_refl _)
  have fo := fraction_ok (n := n + 7) H.toHNum (a := z) (b := (lprod M M.length : Nat)) (k := 9000) (by omega) (by rw [Int.natAbs_natCast]; exact Nat.lt_of_le_of_lt p2 hN) (Nat.le_refl _)
  have ev : Rat.divInt z (lprod M M.length : Nat) = det M.length (qx M) := by
    rw [Rat.divInt_eq_div, hz]
    have e1 : det M.length (mx (M.map wh)) = det M.length (fun i c => (lcmR (M.getD i []) : Rat) * qx M i c) := det_ext fun i c _ _ => by rw [mx_wh, Rat.mul_comm]
    rw [e1, det_scale, ← lprod_prod M.length (Nat.le_refl _)]
    have p0 : ((lprod M M.length : Nat) : Rat) ≠ 0 := by
      intro e
      have : lprod M M.length = 0 := by exact_mod_cast e
      omega
    have c : (((lprod M M.length : Nat) : Int) : Rat) = ((lprod M M.length : Nat) : Rat) := rfl
    rw [c]
    grind
  rw [ev] at fo
  rw [run_eq H.determinant (entry_b1 ha)]
  simp! [F_determinant, r, es, ez, fo]
end
end Sm
end

section
set_option linter.all false
set_option autoImplicit false
set_option maxRecDepth 100000
/-! L1: the law's numbers and vectors. -/
namespace Sm
open PySem DetQ
local macro_rules | `(tactic| simp! [$ls,*]) => `(tactic| simp only [evSs, evS, evE, evEs, as_nil, as_io, as_scr, as_bor, as_var, as_non, as_bl, as_int, as_str, as_tup, as_lst, as_bin, as_neg, as_not, as_cmp, as_and, as_or, as_ife, as_idx, as_slc, as_slcS, as_call, as_cal, as_isi, as_lc, hof_bor, hof_var, hof_non, hof_bl, hof_int, hof_str, hof_tup, hof_lst, hof_bin, hof_neg, hof_not, hof_cmp, hof_and, hof_or, hof_ife, hof_idx, hof_slc, hof_slcS, hof_call, hof_cal, hof_isi, hof_lc, evPof, evIt, Res.bind, rdB, rdE, rdO, rdS, Hd.look, opt, Sl.see, List.getElem?_cons_zero, List.getElem?_cons_succ, List.getD_cons_zero, List.getD_cons_succ, len_tup, len_lst, bi_int, bi_intb, bi_abs, bi_tupl, bi_tupt, bi_lstl, bi_lstt, bi_gcd, Cop.ev, Bop.ev, add_ii, add_tt, add_ll, sub_ii, neg_ii, D.ltI, isN_n, isN_i, isN_t, isN_l, isN_b, items_t, items_l, eqv_int, truthM, D.truth, nx, put_free, free_un, free_dat, free_own, free_bor, chg, List.set, asListO, It.locks, Ex.lock, Sl.lock, Sl.unlock, lockE, unlockE, wipeE, backE, fillA, callM, ioBack, iosOf, Option.map_some, if_true, List.length_cons, List.length_nil, List.replicate, List.cons_append, List.nil_append, List.append_nil, Nat.zero_add, List.any_cons, List.any_nil, ty_int_obj, ty_bool_obj, ty_str_obj, ty_list_obj, ty_tuple_obj, ty_cls_non, ty_cls_bl, ty_cls_int, ty_cls_str, ty_cls_tup, ty_cls_lst, ty_cls_obj, ty_int_non, ty_int_bl, ty_int_int, ty_int_str, ty_int_tup, ty_int_lst, ty_bool_non, ty_bool_bl, ty_bool_int, ty_bool_str, ty_bool_tup, ty_bool_lst, ty_str_non, ty_str_bl, ty_str_int, ty_str_str, ty_str_tup, ty_str_lst, ty_list_non, ty_list_bl, ty_list_int, ty_list_str, ty_list_tup, ty_list_lst, ty_tuple_non, ty_tuple_bl, ty_tuple_int, ty_tuple_str, ty_tuple_tup, ty_tuple_lst, Bool.or_false, Bool.false_or, Bool.not_true, Bool.not_false, Bool.true_or, Bool.or_true, ap_nil, ap1, ap2, ap3, ap4, ap_b, ap_bb, ap_bd, ap_db, ap_bdd, ap_dbd, ap_dbdd, ap_bbd, ap_ddbd, ap_dbb, ap_ddb, ap_bdb, ap_bddb, ap_bddbd, ap_s, ap_do, ap_dodd, ap_doddd, idx0l, idx0t, idx1l, idx1t, Nat.reduceAdd, Nat.reduceSub, Nat.reduceLeDiff, List.drop, Tg.put, intP, frzE, beq_self_eq_true, size1, size2, size0, $ls,*])
structure HFrac (T : List Fn) (I : Ix) : Prop where
  Lnumeric : T[I.Lnumeric]? = some (F_Lnumeric I)
  Lgcd : T[I.Lgcd]? = some (F_Lgcd I)
  Lfrac : T[I.Lfrac]? = some (F_Lfrac I)
  Lnum : T[I.Lnum]? = some (F_Lnum I)
  Lvec : T[I.Lvec]? = some (F_Lvec I)
  Lplus : T[I.Lplus]? = some (F_Lplus I)
  Lneg : T[I.Lneg]? = some (F_Lneg I)
  Lminus : T[I.Lminus]? = some (F_Lminus I)
  Lby : T[I.Lby]? = some (F_Lby I)
theorem divInt_le {a b : Int} (hb : b ≠ 0) : (Rat.divInt a b).num.natAbs ≤ a.natAbs ∧ (Rat.divInt a b).den ≤ b.natAbs := by
  have hg : 0 < Int.gcd b a := Int.gcd_pos_of_ne_zero_left a hb
  refine ⟨?_, ?_⟩
  · rw [Rat.num_divInt]
    obtain ⟨x, hx⟩ := Int.gcd_dvd_right b a
    generalize Int.gcd b a = g at *
    rw [hx, Int.mul_left_comm, Int.mul_ediv_cancel_left _ (by omega), Int.natAbs_mul, Int.natAbs_mul, Int.natAbs_natCast, Int.natAbs_sign_of_ne_zero hb, Nat.one_mul]
    exact Nat.le_mul_of_pos_left _ hg
  · rw [Rat.den_divInt, if_neg hb]
    exact Nat.div_le_self _ _
theorem Sz.mono {a b : Nat} {q : Rat} (h : Sz a q) (hab : a ≤ b) : Sz b q := by
  have := Nat.pow_le_pow_right (show 0 < 2 by decide) hab
  exact ⟨by have := h.1; omega, by have := h.2; omega⟩
theorem Sz.mul {a b : Nat} {p q : Rat} (hp : Sz a p) (hq : Sz b q) : Sz (a + b) (p * q) := by
  have hd : (p.den : Int) * (q.den : Int) ≠ 0 := Int.mul_ne_zero (by have := p.den_pos; omega) (by have := q.den_pos; omega)
  have e : p * q = Rat.divInt (p.num * q.num) ((p.den : Int) * (q.den : Int)) := by rw [← Rat.divInt_mul_divInt, Rat.num_divInt_den, Rat.num_divInt_den]
  obtain ⟨h1, h2⟩ := divInt_le (a := p.num * q.num) hd
  rw [← e, Int.natAbs_mul] at h1 h2
  rw [Int.natAbs_natCast, Int.natAbs_natCast] at h2
  exact ⟨Nat.lt_of_le_of_lt h1 (mul_lt2 hp.1 hq.1), Nat.lt_of_le_of_lt h2 (mul_lt2 hp.2 hq.2)⟩
theorem Sz.add {a b : Nat} {p q : Rat} (hp : Sz a p) (hq : Sz b q) : Sz (a + b + 1) (p + q) := by
  have p0 : (p.den : Int) ≠ 0 := by have := p.den_pos; omega
  have q0 : (q.den : Int) ≠ 0 := by have := q.den_pos; omega
  have e : p + q = Rat.divInt (p.num * (q.den : Int) + q.num * (p.den : Int)) ((p.den : Int) * (q.den : Int)) := by rw [← Rat.divInt_add_divInt _ _ p0 q0, Rat.num_divInt_den, Rat.num_divInt_den]
  obtain ⟨h1, h2⟩ := divInt_le (a := p.num * (q.den : Int) + q.num * (p.den : Int)) (Int.mul_ne_zero p0 q0)
  rw [← e] at h1 h2
  rw [Int.natAbs_mul, Int.natAbs_natCast, Int.natAbs_natCast] at h2
  have h3 := Int.natAbs_add_le (p.num * (q.den : Int)) (q.num * (p.den : Int))
  rw [Int.natAbs_mul, Int.natAbs_mul, Int.natAbs_natCast, Int.natAbs_natCast] at h3
  have h4 := mul_lt2 hp.1 hq.2
  have h5 := mul_lt2 hq.1 hp.2
  have h6 := mul_lt2 hp.2 hq.2
  have h7 : 2 ^ (b + a) = 2 ^ (a + b) := by rw [Nat.add_comm]
  have h8 : 2 ^ (a + b + 1) = 2 ^ (a + b) * 2 := Nat.pow_succ _ _
  exact ⟨by omega, by omega⟩
theorem Sz.sub {a b : Nat} {p q : Rat} (hp : Sz a p) (hq : Sz b q) : Sz (a + b + 1) (p - q) := by
  rw [Rat.sub_eq_add_neg]
  exact hp.add hq.neg
theorem Sz.div {a b : Nat} {p q : Rat} (hp : Sz a p) (hq : Sz b q) (h0 : q ≠ 0) : Sz (a + b) (p / q) := by
  have hd : (p.den : Int) * q.num ≠ 0 := Int.mul_ne_zero (by have := p.den_pos; omega) fun z => h0 (Rat.num_eq_zero.mp z)
  obtain ⟨h1, h2⟩ := divInt_le (a := p.num * (q.den : Int)) hd
  rw [div_pair, Int.natAbs_mul, Int.natAbs_natCast] at h1 h2
  exact ⟨Nat.lt_of_le_of_lt h1 (mul_lt2 hp.1 hq.2), Nat.lt_of_le_of_lt h2 (mul_lt2 hp.2 hq.1)⟩
theorem Sz.zero {k : Nat} (h : 1 ≤ k) : Sz k 0 := ⟨by show 0 < _; exact Nat.pow_pos (by decide), by show 1 < _; exact Nat.one_lt_two_pow_iff.mpr (by omega)⟩
section
variable {T : List Fn} {I : Ix} {n : Nat}
theorem numeric_int (H : HFrac T I) {a : Ar} {x : Int} (ha : ArB a (.int x)) : evF T (n + 1) I.Lnumeric [a] = .ok (.bl true) [] := by
  rw [run_eq H.Lnumeric (entry_b1 ha)]
  simp! [F_Lnumeric]
theorem numeric_row (H : HFrac T I) {a : Ar} {x : D} (hx : x.isRow = true) (ha : ArB a x) : evF T (n + 1) I.Lnumeric [a] = .ok (.bl false) [] := by
  rw [run_eq H.Lnumeric (entry_b1 ha)]
  cases x with
  | tup ds => simp! [F_Lnumeric]
  | lst ds => simp! [F_Lnumeric]
  | _ => cases hx
theorem Lnum_ok (H : HFrac T I) {x : D} {k : Nat} {q : Rat} (hx : RdN k x q) (hk : k ≤ 8999) : evF T (n + 3) I.Lnum [.d x] = .ok (fr q) [] := by
  have he : entry (F_Lnum I).mos [.d x] = some [.dat x] := rfl
  rw [run_eq H.Lnum he]
  have i1 : ∀ z w : Int, D.idx (.tup [.int z, .int w]) (.int 0) = some (.int z) := fun _ _ => rfl
  have i2 : ∀ z w : Int, D.idx (.tup [.int z, .int w]) (.int 1) = some (.int w) := fun _ _ => rfl
  have i3 : ∀ z w : Int, D.idx (.lst [.int z, .int w]) (.int 0) = some (.int z) := fun _ _ => rfl
  have i4 : ∀ z w : Int, D.idx (.lst [.int z, .int w]) (.int 1) = some (.int w) := fun _ _ => rfl
  cases hx with
  | int z =>
    have e := numeric_int (n := n + 1) H (a := .d (.int z)) (x := z) arD
    simp! [F_Lnum, e, fr_int]
  | tup z b h hk2 =>
    have e := numeric_row (n := n + 1) H (a := .d (.tup [.int z, .int b])) rfl arD
    have e2 := frac_ok (n := n) (a := z) (b := b) H.Lfrac H.Lgcd (by omega) hk2 hk
    simp! [F_Lnum, e, i1, i2, e2]
  | lst z b h hk2 =>
    have e := numeric_row (n := n + 1) H (a := .d (.lst [.int z, .int b])) rfl arD
    have e2 := frac_ok (n := n) (a := z) (b := b) H.Lfrac H.Lgcd (by omega) hk2 hk
    simp! [F_Lnum, e, i3, i4, e2]
theorem Lvec_ok (H : HFrac T I) {x : D} {v : List Rat} {k : Nat} (hx : RdV k x v) (hk : k ≤ 8999) (hs : v.length ≤ sizeLine) {a : Ar} (ha : ArB a x) : evF T (n + 4) I.Lvec [a] = .ok (vd v) [] := by
  obtain ⟨l, hd, rfl, hl⟩ := hx
  rw [List.length_map] at hs
  have hit : x.items = some (l.map Prod.fst) := by rcases hd with rfl | rfl <;> rfl
  have lc : evE (evF T (n + 3)) (e_Lvec_0 I) [.bor x, .un] = .ok (.lst (l.map fun p => fr p.2)) [.bor x, .un] := by
    refine lc_map l Prod.fst (fun p => fr p.2) (by simp! [hit]) rfl hs (fun p hp => ⟨_, rfl, rfl, ?_⟩) rfl
    have := Lnum_ok (n := n) H (hl p hp) hk
    simp! [this]
  have e : vd (l.map Prod.snd) = .tup (l.map fun p => fr p.2) := by rw [vd, List.map_map]; rfl
  rw [run_eq H.Lvec (entry_b1 ha), e]
  simp! [F_Lvec, lc]
theorem Lvecs_ok (H : HFrac T I) (hv : T[I.Lvecs]? = some (F_Lvecs I)) {x : D} {M : List (List Rat)} {k : Nat} (hx : RdR k x M) (hk : k ≤ 8999) (hs : ∀ v ∈ M, v.length ≤ sizeLine) (hm : M.length ≤ sizeLine) {a : Ar} (ha : ArB a x) : evF T (n + 5) I.Lvecs [a] = .ok (md M) [] := by
  obtain ⟨l, hd, rfl, hl⟩ := hx
  rw [List.length_map] at hm
  have hit : x.items = some (l.map Prod.fst) := by rcases hd with rfl | rfl <;> rfl
  have lc : evE (evF T (n + 4)) (e_Lvecs_0 I) [.bor x, .un] = .ok (.lst (l.map fun p => vd p.2)) [.bor x, .un] := by
    refine lc_map l Prod.fst (fun p => vd p.2) (by simp! [hit]) rfl hm (fun p hp => ⟨_, rfl, rfl, ?_⟩) rfl
    have := Lvec_ok (n := n) H (hl p hp) hk (hs _ (List.mem_map_of_mem hp)) (a := .d p.1) arD
    simp! [this]
  have e : md (l.map Prod.snd) = .tup (l.map fun p => vd p.2) := by rw [md, List.map_map]; rfl
  rw [run_eq hv (entry_b1 ha), e]
  simp! [F_Lvecs, lc]
end
end Sm
end

section
set_option linter.all false
set_option autoImplicit false
set_option maxRecDepth 100000
/-! L2x: the law's elimination. -/
namespace DetQ
theorem Lj.congr {m w k n pl : Nat} {A B L B' L' : Mx} {p : Nat → Nat} (G : Lj m w k n pl A B L p) (hB : ∀ i c, i < k → c < w → B' i c = B i c) (hL : ∀ i c, i < n → c < w → L' i c = L i c) : Lj m w k n pl A B' L' p := by
  have plw := G.plw
  refine ⟨G.plw, G.plt, G.mono, fun i j hi hj => ?_, fun i hi c hc => ?_, fun i j hi hj => ?_, fun i hi c hc => ?_, fun i hi => (G.inB i hi).congr fun c hc => hB i c hi hc, fun i hi => (G.inL i hi).congr fun c hc => hL i c hi hc, fun a ha => (G.out a ha).congrB fun i c hi hc => ?_⟩
  · have := G.plt j hj
    rw [hB i (p j) hi (by omega)]; exact G.one i j hi hj
  · have := G.plt i hi
    rw [hB i c hi (by omega)]; exact G.lead i hi c hc
  · have := G.plt j hj
    rw [hL i (p j) hi (by omega)]; exact G.off i j hi hj
  · rw [hL i c hi (by omega)]; exact G.done i hi c hc
  · unfold app
    by_cases h : i < k
    · rw [if_pos h, if_pos h]; exact hB i c h hc
    · rw [if_neg h, if_neg h]; exact hL _ c (by omega) hc
end DetQ
namespace Sm
open PySem DetQ
local macro_rules | `(tactic| simp! [$ls,*]) => `(tactic| simp only [evSs, evS, evE, evEs, as_nil, as_io, as_scr, as_bor, as_var, as_non, as_bl, as_int, as_str, as_tup, as_lst, as_bin, as_neg, as_not, as_cmp, as_and, as_or, as_ife, as_idx, as_slc, as_slcS, as_call, as_cal, as_isi, as_lc, hof_bor, hof_var, hof_non, hof_bl, hof_int, hof_str, hof_tup, hof_lst, hof_bin, hof_neg, hof_not, hof_cmp, hof_and, hof_or, hof_ife, hof_idx, hof_slc, hof_slcS, hof_call, hof_cal, hof_isi, hof_lc, evPof, evIt, Res.bind, rdB, rdE, rdO, rdS, Hd.look, opt, Sl.see, List.getElem?_cons_zero, List.getElem?_cons_succ, List.getD_cons_zero, List.getD_cons_succ, len_tup, len_lst, bi_int, bi_intb, bi_abs, bi_tupl, bi_tupt, bi_lstl, bi_lstt, bi_gcd, Cop.ev, Bop.ev, add_ii, add_tt, add_ll, sub_ii, neg_ii, D.ltI, isN_n, isN_i, isN_t, isN_l, isN_b, items_t, items_l, eqv_int, truthM, D.truth, nx, put_free, free_un, free_dat, free_own, free_bor, chg, List.set, asListO, It.locks, Ex.lock, Sl.lock, Sl.unlock, lockE, unlockE, wipeE, backE, fillA, callM, ioBack, iosOf, Option.map_some, if_true, List.length_cons, List.length_nil, List.replicate, List.cons_append, List.nil_append, List.append_nil, Nat.zero_add, List.any_cons, List.any_nil, ty_int_obj, ty_bool_obj, ty_str_obj, ty_list_obj, ty_tuple_obj, ty_cls_non, ty_cls_bl, ty_cls_int, ty_cls_str, ty_cls_tup, ty_cls_lst, ty_cls_obj, ty_int_non, ty_int_bl, ty_int_int, ty_int_str, ty_int_tup, ty_int_lst, ty_bool_non, ty_bool_bl, ty_bool_int, ty_bool_str, ty_bool_tup, ty_bool_lst, ty_str_non, ty_str_bl, ty_str_int, ty_str_str, ty_str_tup, ty_str_lst, ty_list_non, ty_list_bl, ty_list_int, ty_list_str, ty_list_tup, ty_list_lst, ty_tuple_non, ty_tuple_bl, ty_tuple_int, ty_tuple_str, ty_tuple_tup, ty_tuple_lst, Bool.or_false, Bool.false_or, Bool.not_true, Bool.not_false, Bool.true_or, Bool.or_true, ap_nil, ap1, ap2, ap3, ap4, ap_b, ap_bb, ap_bd, ap_db, ap_bdd, ap_dbd, ap_dbdd, ap_bbd, ap_ddbd, ap_dbb, ap_ddb, ap_bdb, ap_bddb, ap_bddbd, ap_s, ap_do, ap_dodd, ap_doddd, idx0l, idx0t, idx1l, idx1t, Nat.reduceAdd, Nat.reduceSub, Nat.reduceLeDiff, List.drop, Tg.put, intP, frzE, beq_self_eq_true, size1, size2, size0, $ls,*])
structure HLech (T : List Fn) (I : Ix) : Prop extends HFrac T I where
  Lover : T[I.Lover]? = some (F_Lover I)
  Lechelon : T[I.Lechelon]? = some (F_Lechelon I)
  Lcleared : T[I.Lcleared]? = some (F_Lcleared I)
def ld (v : List Rat) : D := .lst (v.map fr)
def lds (L : List (List Rat)) : D := .lst (L.map ld)
def clv (v u : List Rat) (pl : Nat) : List Rat := (List.range v.length).map fun k => v.getD k 0 - v.getD pl 0 * u.getD k 0
theorem clv_len {v u : List Rat} {pl : Nat} : (clv v u pl).length = v.length := by unfold clv; rw [List.length_map, List.length_range]
theorem clv_getD {v u : List Rat} {pl c : Nat} (h : c < v.length) : (clv v u pl).getD c 0 = v.getD c 0 - v.getD pl 0 * u.getD c 0 := by
  unfold clv
  rw [List.getD_eq_getElem?_getD, List.getElem?_map, List.getElem?_range h]
  rfl
theorem clv_zero {v u : List Rat} {pl : Nat} (h : v.getD pl 0 = 0) : clv v u pl = v := by
  refine List.ext_getElem clv_len fun c h1 h2 => ?_
  have := clv_getD (u := u) (pl := pl) h2
  have e : v.getD c 0 - 0 * u.getD c 0 = v.getD c 0 := by grind
  rw [h, e, List.getD_eq_getElem?_getD, List.getElem?_eq_getElem h1, List.getD_eq_getElem?_getD, List.getElem?_eq_getElem h2] at this
  exact this
theorem idx_ld {v : List Rat} {c : Nat} (h : c < v.length) : D.idx (ld v) (.int (c : Int)) = some (fr (v.getD c 0)) := by
  refine idx_lst ?_
  rw [List.getElem?_map, List.getD_eq_getElem?_getD, List.getElem?_eq_getElem h]
  rfl
theorem idx_vd {v : List Rat} {c : Nat} (h : c < v.length) : D.idx (vd v) (.int (c : Int)) = some (fr (v.getD c 0)) := by
  refine idx_tup ?_
  rw [List.getElem?_map, List.getD_eq_getElem?_getD, List.getElem?_eq_getElem h]
  rfl
theorem idx_lds {L : List (List Rat)} {i : Nat} (h : i < L.length) : D.idx (lds L) (.int (i : Int)) = some (ld (L.getD i [])) := by
  refine idx_lst ?_
  rw [List.getElem?_map, List.getD_eq_getElem?_getD, List.getElem?_eq_getElem h]
  rfl
theorem idx_md {L : List (List Rat)} {i : Nat} (h : i < L.length) : D.idx (md L) (.int (i : Int)) = some (vd (L.getD i [])) := by
  refine idx_tup ?_
  rw [List.getElem?_map, List.getD_eq_getElem?_getD, List.getElem?_eq_getElem h]
  rfl
theorem fr0 (q : Rat) : D.idx (fr q) (.int 0) = some (.int q.num) := rfl
theorem fr1 (q : Rat) : D.idx (fr q) (.int 1) = some (.int (q.den : Int)) := rfl
theorem num_beq {q : Rat} : (q.num == 0) = decide (q = 0) := by
  by_cases h : q = 0
  · rw [h]; rfl
  · rw [decide_eq_false h, beq_eq_false_iff_ne]
    exact fun z => h (Rat.num_eq_zero.mp z)
theorem sz_getD {v : List Rat} {b c : Nat} (hb : 1 ≤ b) (h : ∀ q ∈ v, Sz b q) : Sz b (v.getD c 0) := by
  rw [List.getD_eq_getElem?_getD]
  cases e : v[c]? with
  | none => exact Sz.zero hb
  | some q => exact h q (List.mem_of_getElem? e)
theorem clv_sz {v u : List Rat} {a b pl : Nat} (ha : 1 ≤ a) (hb : 1 ≤ b) (hv : ∀ q ∈ v, Sz a q) (hu : ∀ q ∈ u, Sz b q) : ∀ q ∈ clv v u pl, Sz (2 * a + b + 1) q := fun q hq => by
  obtain ⟨k, _, rfl⟩ := List.mem_map.mp hq
  have h1 : Sz a (v.getD k 0) := sz_getD ha hv
  exact (h1.sub ((sz_getD (c := pl) ha hv).mul (sz_getD (c := k) hb hu))).mono (by omega)
section
variable {T : List Fn} {I : Ix} {n : Nat}
theorem Lcleared_ok (H : HLech T I) {v u : List Rat} {pl a b : Nat} (ha1 : 1 ≤ a) (hb1 : 1 ≤ b) (hv : ∀ q ∈ v, Sz a q) (hu : ∀ q ∈ u, Sz b q) (hab : a + b ≤ 4400) (hl : u.length = v.length) (hp : pl < v.length) (hs : v.length ≤ sizeLine) {x y : Ar} (hx : ArB x (ld v)) (hy : ArB y (ld u)) :
    evF T (n + 5) I.Lcleared [x, y, .d (.int (pl : Int))] = .ok (ld (clv v u pl)) [] := by
  have he : entry (F_Lcleared I).mos [x, y, .d (.int (pl : Int))] = some [.bor (ld v), .bor (ld u), .dat (.int (pl : Int))] := by
    show entry [.b, .b, .d] _ = _
    rw [entry_b hx, entry_b hy]
    rfl
  have i1 := idx_ld hp
  rw [run_eq H.Lcleared he]
  by_cases h0 : v.getD pl 0 = 0
  · rw [clv_zero h0]
    have hz : ((v.getD pl 0).num == 0) = true := by rw [num_beq, h0]; rfl
    have hl2 : Bi.ev .list [ld v] = some (ld v) := rfl
    simp! [F_Lcleared, i1, fr0, hz, hl2]
  · have hz : ((v.getD pl 0).num == 0) = false := by rw [num_beq]; exact decide_eq_false h0
    have lc : evE (evF T (n + 4)) (e_Lcleared_0 I) [.bor (ld v), .bor (ld u), .dat (.int (pl : Int)), .dat (fr (v.getD pl 0)), .un] = .ok (.lst ((List.range v.length).map fun k => fr (v.getD k 0 - v.getD pl 0 * u.getD k 0))) [.bor (ld v), .bor (ld u), .dat (.int (pl : Int)), .dat (fr (v.getD pl 0)), .un] := by
      refine lc_map (List.range v.length) dn (fun k => fr (v.getD k 0 - v.getD pl 0 * u.getD k 0)) ?_ rfl (by rw [List.length_range]; exact hs) (fun k hk => ⟨_, rfl, rfl, ?_⟩) rfl
      · simp! [ld, List.length_map, rng1_n hs]
      · have hk := List.mem_range.mp hk
        have j1 := idx_ld hk
        have j2 := idx_ld (v := u) (c := k) (by omega)
        have s1 := sz_getD (c := pl) ha1 hv
        have s2 := sz_getD (c := k) hb1 hu
        have s3 := sz_getD (c := k) ha1 hv
        have c1 := by_ok (n := n + 1) H.Lby H.Lfrac H.Lgcd (s1.mono (show a ≤ a + b by omega)) (s2.mono (show b ≤ a + b by omega)) hab (a := .d (fr (v.getD pl 0))) (b := .d (fr (u.getD k 0))) arD arD
        have c2 := minus_ok (n := n) H.Lminus H.Lplus H.Lneg H.Lfrac H.Lgcd (s3.mono (show a ≤ a + b by omega)) (s1.mul s2) hab (a := .d (fr (v.getD k 0))) (b := .d (fr (v.getD pl 0 * u.getD k 0))) arD arD
        simp! [dn, j1, j2, c1, c2]
    have e : ld (clv v u pl) = .lst ((List.range v.length).map fun k => fr (v.getD k 0 - v.getD pl 0 * u.getD k 0)) := by
      rw [ld, clv, List.map_map]
      rfl
    rw [e]
    simp! [F_Lcleared, i1, fr0, hz, lc]
end
end Sm
end

section
set_option linter.all false
set_option autoImplicit false
set_option maxRecDepth 100000
/-! L3: the law's echelon. -/
namespace Sm
open PySem DetQ
local macro_rules | `(tactic| simp! [$ls,*]) => `(tactic| simp only [evSs, evS, evE, evEs, as_nil, as_io, as_scr, as_bor, as_var, as_non, as_bl, as_int, as_str, as_tup, as_lst, as_bin, as_neg, as_not, as_cmp, as_and, as_or, as_ife, as_idx, as_slc, as_slcS, as_call, as_cal, as_isi, as_lc, hof_bor, hof_var, hof_non, hof_bl, hof_int, hof_str, hof_tup, hof_lst, hof_bin, hof_neg, hof_not, hof_cmp, hof_and, hof_or, hof_ife, hof_idx, hof_slc, hof_slcS, hof_call, hof_cal, hof_isi, hof_lc, evPof, evIt, Res.bind, rdB, rdE, rdO, rdS, Hd.look, opt, Sl.see, List.getElem?_cons_zero, List.getElem?_cons_succ, List.getD_cons_zero, List.getD_cons_succ, len_tup, len_lst, bi_int, bi_intb, bi_abs, bi_tupl, bi_tupt, bi_lstl, bi_lstt, bi_gcd, Cop.ev, Bop.ev, add_ii, add_tt, add_ll, sub_ii, neg_ii, D.ltI, isN_n, isN_i, isN_t, isN_l, isN_b, items_t, items_l, eqv_int, truthM, D.truth, nx, put_free, free_un, free_dat, free_own, free_bor, chg, List.set, asListO, It.locks, Ex.lock, Sl.lock, Sl.unlock, lockE, unlockE, wipeE, backE, fillA, callM, ioBack, iosOf, Option.map_some, if_true, List.length_cons, List.length_nil, List.replicate, List.cons_append, List.nil_append, List.append_nil, Nat.zero_add, List.any_cons, List.any_nil, ty_int_obj, ty_bool_obj, ty_str_obj, ty_list_obj, ty_tuple_obj, ty_cls_non, ty_cls_bl, ty_cls_int, ty_cls_str, ty_cls_tup, ty_cls_lst, ty_cls_obj, ty_int_non, ty_int_bl, ty_int_int, ty_int_str, ty_int_tup, ty_int_lst, ty_bool_non, ty_bool_bl, ty_bool_int, ty_bool_str, ty_bool_tup, ty_bool_lst, ty_str_non, ty_str_bl, ty_str_int, ty_str_str, ty_str_tup, ty_str_lst, ty_list_non, ty_list_bl, ty_list_int, ty_list_str, ty_list_tup, ty_list_lst, ty_tuple_non, ty_tuple_bl, ty_tuple_int, ty_tuple_str, ty_tuple_tup, ty_tuple_lst, Bool.or_false, Bool.false_or, Bool.not_true, Bool.not_false, Bool.true_or, Bool.or_true, ap_nil, ap1, ap2, ap3, ap4, ap_b, ap_bb, ap_bd, ap_db, ap_bdd, ap_dbd, ap_dbdd, ap_bbd, ap_ddbd, ap_dbb, ap_ddb, ap_bdb, ap_bddb, ap_bddbd, ap_s, ap_do, ap_dodd, ap_doddd, idx0l, idx0t, idx1l, idx1t, Nat.reduceAdd, Nat.reduceSub, Nat.reduceLeDiff, List.drop, Tg.put, intP, frzE, beq_self_eq_true, size1, size2, size0, $ls,*])
def Cb (b j : Nat) : Nat := 4 ^ j * (b + 1) - 1
theorem Cb_succ {b j : Nat} : Cb b (j + 1) = 4 * Cb b j + 3 := by
  unfold Cb
  have h1 : 0 < 4 ^ j * (b + 1) := Nat.mul_pos (Nat.pow_pos (by decide)) (by omega)
  have h2 : 4 ^ (j + 1) * (b + 1) = 4 * (4 ^ j * (b + 1)) := by rw [Nat.pow_succ, Nat.mul_comm (4 ^ j) 4, Nat.mul_assoc]
  omega
theorem Cb_mono {b j k : Nat} (h : j ≤ k) : Cb b j ≤ Cb b k := by
  unfold Cb
  have := Nat.mul_le_mul_right (b + 1) (Nat.pow_le_pow_right (show 0 < 4 by decide) h)
  omega
theorem Cb_pos {b j : Nat} (hb : 1 ≤ b) : 1 ≤ Cb b j := by
  have := Cb_mono (b := b) (Nat.zero_le j)
  have e : Cb b 0 = b := by unfold Cb; omega
  omega
/-- what stands in the law's elimination -/
structure LS (m w b : Nat) (A : Mx) (pl : Nat) (B L : List (List Rat)) (p : Nat → Nat) : Prop where
  lj : Lj m w B.length L.length pl A (qx B) (qx L) p
  wb : ∀ v ∈ B, v.length = w
  wl : ∀ v ∈ L, v.length = w
  km : B.length + L.length = m
  sb : ∀ v ∈ B, ∀ q ∈ v, Sz (Cb b B.length) q
  sl : ∀ v ∈ L, ∀ q ∈ v, Sz (Cb b B.length) q
theorem getD_mem {α : Type} {L : List α} {d : α} {i : Nat} (h : i < L.length) : L.getD i d ∈ L := by
  rw [List.getD_eq_getElem?_getD, List.getElem?_eq_getElem h]
  exact List.getElem_mem _
theorem getD_map' {α β : Type} {L : List α} {f : α → β} {d : α} {e : β} {i : Nat} (h : i < L.length) : (L.map f).getD i e = f (L.getD i d) := by
  rw [List.getD_eq_getElem?_getD, List.getElem?_map, List.getElem?_eq_getElem h, List.getD_eq_getElem?_getD, List.getElem?_eq_getElem h]
  rfl
theorem getD_app1 {α : Type} {L M : List α} {d : α} {i : Nat} (h : i < L.length) : (L ++ M).getD i d = L.getD i d := by
  rw [List.getD_eq_getElem?_getD, List.getD_eq_getElem?_getD, List.getElem?_append_left h]
theorem getD_app2 {α : Type} {L M : List α} {d : α} {i : Nat} (h : L.length ≤ i) : (L ++ M).getD i d = M.getD (i - L.length) d := by
  rw [List.getD_eq_getElem?_getD, List.getD_eq_getElem?_getD, List.getElem?_append_right h]
theorem getD_erase {L : List (List Rat)} {f i : Nat} : (L.eraseIdx f).getD i [] = L.getD (skip f i) [] := by
  rw [List.getD_eq_getElem?_getD, List.getD_eq_getElem?_getD, List.getElem?_eraseIdx]
  unfold skip
  split <;> rfl
section
variable {m w b pl : Nat} {A : Mx} {B L : List (List Rat)} {p : Nat → Nat}
theorem LS.pass (S : LS m w b A pl B L p) (hw : pl < w) (h : ∀ i, i < L.length → qx L i pl = 0) : LS m w b A (pl + 1) B L p :=
  ⟨S.lj.pass hw h, S.wb, S.wl, S.km, S.sb, S.sl⟩
def piv1 (L : List (List Rat)) (f pl : Nat) : List Rat := (L.getD f []).map fun x => x / (L.getD f []).getD pl 0
theorem LS.step (S : LS m w b A pl B L p) (hw : pl < w) (hb : 1 ≤ b) {f : Nat} (hf : f < L.length) (hr : qx L f pl ≠ 0) :
    LS m w b A (pl + 1) (B.map (fun v => clv v (piv1 L f pl) pl) ++ [piv1 L f pl]) ((L.eraseIdx f).map fun v => clv v (piv1 L f pl) pl) (ext p B.length pl) := by
  obtain ⟨n, hn⟩ : ∃ n, L.length = n + 1 := ⟨L.length - 1, by omega⟩
  have G := S.lj
  rw [hn] at G
  have G2 := G.step hw (f := f) (by omega) hr
  have hmem : L.getD f [] ∈ L := getD_mem hf
  have hfw := S.wl _ hmem
  have ul : (piv1 L f pl).length = w := by unfold piv1; rw [List.length_map, hfw]
  have ug : ∀ c, c < w → (piv1 L f pl).getD c 0 = qx L f c / qx L f pl := fun c hc => by
    unfold piv1
    rw [getD_map' (d := 0) (by omega)]
    rfl
  have elen : (L.eraseIdx f).length = n := by rw [List.length_eraseIdx_of_lt hf]; omega
  have emem : ∀ v ∈ L.eraseIdx f, v ∈ L := fun v hv => List.mem_of_mem_eraseIdx hv
  have cp := Cb_pos (b := b) (j := B.length) hb
  have usz : ∀ q ∈ piv1 L f pl, Sz (2 * Cb b B.length) q := fun q hq => by
    obtain ⟨x, hx, rfl⟩ := List.mem_map.mp hq
    exact ((S.sl _ hmem x hx).div (sz_getD cp (S.sl _ hmem)) hr).mono (by omega)
  have lB : (B.map (fun v => clv v (piv1 L f pl) pl) ++ [piv1 L f pl]).length = B.length + 1 := by rw [List.length_append, List.length_map, List.length_singleton]
  have lL : ((L.eraseIdx f).map fun v => clv v (piv1 L f pl) pl).length = n := by rw [List.length_map, elen]
  refine ⟨?_, fun v hv => ?_, fun v hv => ?_, ?_, fun v hv q hq => ?_, fun v hv q hq => ?_⟩
  · rw [lB, lL]
    refine G2.congr (fun i c hi hc => ?_) fun i c hi hc => ?_
    · by_cases h : i < B.length
      · show ((B.map (fun v => clv v (piv1 L f pl) pl) ++ [piv1 L f pl]).getD i []).getD c 0 = (if i < B.length then cl (qx B i) (fun c => qx L f c / qx L f pl) pl else fun c => qx L f c / qx L f pl) c
        rw [if_pos h, getD_app1 (by rw [List.length_map]; exact h), getD_map' (d := []) h, clv_getD (by rw [S.wb _ (getD_mem h)]; exact hc), ug c hc]
        rfl
      · have e : i = B.length := by omega
        show ((B.map (fun v => clv v (piv1 L f pl) pl) ++ [piv1 L f pl]).getD i []).getD c 0 = (if i < B.length then cl (qx B i) (fun c => qx L f c / qx L f pl) pl else fun c => qx L f c / qx L f pl) c
        rw [if_neg h, getD_app2 (by rw [List.length_map]; omega), List.length_map, e, Nat.sub_self]
        exact ug c hc
    · have hs : skip f i < L.length := by unfold skip; split <;> omega
      show (((L.eraseIdx f).map fun v => clv v (piv1 L f pl) pl).getD i []).getD c 0 = cl (qx L (skip f i)) (fun c => qx L f c / qx L f pl) pl c
      rw [getD_map' (d := []) (by omega), getD_erase, clv_getD (by rw [S.wl _ (getD_mem hs)]; exact hc), ug c hc]
      rfl
  · rcases List.mem_append.mp hv with h | h
    · obtain ⟨v', h', rfl⟩ := List.mem_map.mp h
      rw [clv_len]; exact S.wb _ h'
    · rw [List.mem_singleton.mp h]; exact ul
  · obtain ⟨v', h', rfl⟩ := List.mem_map.mp hv
    rw [clv_len]; exact S.wl _ (emem _ h')
  · rw [lB, lL]
    have := S.km
    omega
  · rw [lB, Cb_succ]
    rcases List.mem_append.mp hv with h | h
    · obtain ⟨v', h', rfl⟩ := List.mem_map.mp h
      exact (clv_sz cp (by omega) (S.sb _ h') usz q hq).mono (by omega)
    · rw [List.mem_singleton.mp h] at hq
      exact (usz q hq).mono (by omega)
  · rw [lB, Cb_succ]
    obtain ⟨v', h', rfl⟩ := List.mem_map.mp hv
    exact (clv_sz cp (by omega) (S.sl _ (emem _ h')) usz q hq).mono (by omega)
end
section
variable {T : List Fn} {I : Ix} {n : Nat}
theorem cut_from {ds : List D} {k : Nat} (h : k ≤ ds.length) : cutD ds (some (k : Int)) none = ds.drop k := by
  unfold cutD
  rw [HT.sIx_none, HT.sIx_nat, Nat.min_eq_left h, List.take_of_length_le]
  rw [List.length_drop]
  omega
theorem filter_none {p : Nat → Bool} {n : Nat} (h : (List.range n).filter p = []) : ∀ i, i < n → p i = false := fun i hi => by
  have := List.filter_eq_nil_iff.mp h i (List.mem_range.mpr hi)
  simpa using this
theorem filter_some {p : Nat → Bool} {n f : Nat} {r : List Nat} (h : (List.range n).filter p = f :: r) : f < n ∧ p f = true := by
  have : f ∈ (List.range n).filter p := by rw [h]; exact List.mem_cons_self
  obtain ⟨h1, h2⟩ := List.mem_filter.mp this
  exact ⟨List.mem_range.mp h1, h2⟩
theorem Lech_out (H : HLech T I) {m w b pl : Nat} {A : Mx} {B L : List (List Rat)} {p : Nat → Nat} {s0 s4 s5 s6 s7 s8 s9 s10 : Sl} (S : LS m w b A pl B L p) (hpl : pl < w) (hb : 1 ≤ b) (hsz : Cb b m ≤ 5800) (hm : m ≤ 50) (hw : w ≤ 100) (f5 : s5.free = true) (f6 : s6.free = true) (f8 : s8.free = true) (f9 : s9.free = true) (f10 : s10.free = true) :
    ∃ f ρ', ((Tg.put (.nm 5) (dn pl) [s0, .dat (lds L), .un, .dat (lds B), s4, s5, s6, .un, s8, s9, s10]).bind fun _ ρ => evSs (evF T (n + 6)) (b_Lechelon_0 I) ρ) = .ok f ρ' ∧ (f = .nx ∨ f = .ct) ∧ ∃ (B' L' : List (List Rat)) (p' : Nat → Nat) (t5 t6 t8 t9 t10 : Sl), ρ' = [s0, .dat (lds L'), .un, .dat (lds B'), s4, t5, t6, .un, t8, t9, t10] ∧ LS m w b A (pl + 1) B' L' p' ∧ t5.free = true ∧ t6.free = true ∧ t8.free = true ∧ t9.free = true ∧ t10.free = true := by
  have km := S.km
  have lc1 : ∀ s5 s6 : Sl, evE (evF T (n + 6)) (e_Lechelon_1 I) [s0, .dat (lds L), .un, .dat (lds B), s4, .dat (dn pl), s6, .un, s8, s9, s10] = .ok (.lst (((List.range L.length).filter fun i => !decide (qx L i pl = 0)).map dn)) [s0, .dat (lds L), .un, .dat (lds B), s4, .dat (dn pl), s6, .un, s8, s9, s10] := fun s5 s6 => by
    refine lc_fil (List.range L.length) dn dn (fun i => !decide (qx L i pl = 0)) ?_ rfl (le_size (by rw [List.length_range]; omega)) (fun k hk => ⟨_, rfl, ?_, rfl, fun _ => ?_⟩) rfl
    · simp! [lds, List.length_map, rng1_n (le_size (show L.length ≤ 100 by omega))]
    · have hk := List.mem_range.mp hk
      have j1 := idx_lds hk
      have j2 := idx_ld (v := L.getD k []) (c := pl) (by rw [S.wl _ (getD_mem hk)]; exact hpl)
      have e : (((L.getD k []).getD pl 0).num == 0) = decide (qx L k pl = 0) := num_beq
      simp! [dn, j1, j2, fr0, e]
    · simp! []
  cases hfl : (List.range L.length).filter fun i => !decide (qx L i pl = 0) with
  | nil =>
    have h0 := filter_none hfl
    rw [hfl] at lc1
    refine ⟨.ct, _, ?_, .inr rfl, B, L, p, .dat (dn pl), .dat (.lst []), s8, s9, s10, rfl, S.pass hpl fun i hi => ?_, rfl, rfl, f8, f9, f10⟩
    · have z : (((0 : Nat) : Int) == 0) = true := rfl
      have lc1' := lc1 s5 s6
      simp only [dn, List.map_nil] at lc1'
      simp! [b_Lechelon_0, dn, f5, f6, lc1', z]
    · have := h0 i hi
      simpa using this
  | cons f r =>
    obtain ⟨hf, hp⟩ := filter_some hfl
    have hr : qx L f pl ≠ 0 := by simpa using hp
    rw [hfl] at lc1
    have S2 := S.step hpl hb hf hr
    have kB : B.length + 1 ≤ m := by omega
    have c4 : 4 * Cb b B.length + 3 ≤ Cb b m := by rw [← Cb_succ]; exact Cb_mono kB
    have cp := Cb_pos (b := b) (j := B.length) hb
    have hmem : L.getD f [] ∈ L := getD_mem hf
    have hfw := S.wl _ hmem
    have usz : ∀ q ∈ piv1 L f pl, Sz (2 * Cb b B.length) q := fun q hq => by
      obtain ⟨x, hx, rfl⟩ := List.mem_map.mp hq
      exact ((S.sl _ hmem x hx).div (sz_getD cp (S.sl _ hmem)) hr).mono (by omega)
    have ul : (piv1 L f pl).length = w := by unfold piv1; rw [List.length_map, hfw]
    have j1 := idx_lds hf
    have lc2 : ∀ s6 s9, evE (evF T (n + 6)) (e_Lechelon_2 I) [s0, .dat (lds L), .un, .dat (lds B), s4, .dat (dn pl), s6, .un, .dat (ld (L.getD f [])), s9, s10] = .ok (ld (piv1 L f pl)) [s0, .dat (lds L), .un, .dat (lds B), s4, .dat (dn pl), s6, .un, .dat (ld (L.getD f [])), s9, s10] := fun s6 s9 => by
      have e : ld (piv1 L f pl) = .lst ((L.getD f []).map fun x => fr (x / (L.getD f []).getD pl 0)) := by rw [ld, piv1, List.map_map]; rfl
      rw [e]
      refine lc_map (L.getD f []) fr (fun x => fr (x / (L.getD f []).getD pl 0)) (by simp! [ld]) rfl (le_size (by omega)) (fun q hq => ⟨_, rfl, rfl, ?_⟩) rfl
      have j2 := idx_ld (v := L.getD f []) (c := pl) (by omega)
      have c := over_ok (n := n + 3) H.Lover H.Lfrac H.Lgcd (S.sl _ hmem q hq) (sz_getD (c := pl) cp (S.sl _ hmem)) (by omega) hr (a := .d (fr q)) (b := .d (fr ((L.getD f []).getD pl 0))) arD arD
      simp! [dn, j2, c]
    have eo : D.slc (lds L) none (some (f : Int)) = some (.lst ((L.map ld).take f)) := by
      show some (D.lst (cutD (L.map ld) none (some (f : Int)))) = _
      rw [cut_none (by rw [List.length_map]; omega)]
    have eo2 : D.slc (lds L) (some ((f : Int) + 1)) none = some (.lst ((L.map ld).drop (f + 1))) := by
      show some (D.lst (cutD (L.map ld) (some ((f + 1 : Nat) : Int)) none)) = _
      rw [cut_from (by rw [List.length_map]; omega)]
    have eo3 : (L.map ld).take f ++ (L.map ld).drop (f + 1) = (L.eraseIdx f).map ld := by
      rw [List.eraseIdx_eq_take_drop_succ, List.map_append, List.map_take, List.map_drop]
    have eo4 : ((L.map ld).take f).length + ((L.map ld).drop (f + 1)).length ≤ sizeLine := le_size (by
      rw [List.length_take, List.length_drop, List.length_map]
      omega)
    have lc3 : ∀ t1 s6 s8, evE (evF T (n + 6)) (e_Lechelon_3 I) [s0, t1, .un, .dat (lds B), s4, .dat (dn pl), s6, .un, s8, .dat (ld (piv1 L f pl)), .dat (.lst ((L.eraseIdx f).map ld))] = .ok (lds ((L.eraseIdx f).map fun v => clv v (piv1 L f pl) pl)) [s0, t1, .un, .dat (lds B), s4, .dat (dn pl), s6, .un, s8, .dat (ld (piv1 L f pl)), .dat (.lst ((L.eraseIdx f).map ld))] := fun t1 s6 s8 => by
      have e : lds ((L.eraseIdx f).map fun v => clv v (piv1 L f pl) pl) = .lst ((L.eraseIdx f).map fun v => ld (clv v (piv1 L f pl) pl)) := by rw [lds, List.map_map]; rfl
      rw [e]
      refine lc_map (L.eraseIdx f) ld (fun v => ld (clv v (piv1 L f pl) pl)) (by simp! []) rfl (le_size (by rw [List.length_eraseIdx_of_lt hf]; omega)) (fun v hv => ⟨_, rfl, rfl, ?_⟩) rfl
      have hv2 := List.mem_of_mem_eraseIdx hv
      have hvw := S.wl _ hv2
      have c := Lcleared_ok (n := n + 1) H (v := v) (u := piv1 L f pl) (pl := pl) (a := Cb b B.length) (b := 2 * Cb b B.length) cp (by omega) (S.sl _ hv2) usz (by omega) (by omega) (by omega) (le_size (by omega)) (x := .d (ld v)) (y := .d (ld (piv1 L f pl))) arD arD
      simp! [dn, c]
    have lc4 : ∀ t1 s6 s8 s10, evE (evF T (n + 6)) (e_Lechelon_4 I) [s0, t1, .un, .dat (lds B), s4, .dat (dn pl), s6, .un, s8, .dat (ld (piv1 L f pl)), s10] = .ok (.lst (B.map fun v => ld (clv v (piv1 L f pl) pl))) [s0, t1, .un, .dat (lds B), s4, .dat (dn pl), s6, .un, s8, .dat (ld (piv1 L f pl)), s10] := fun t1 s6 s8 s10 => by
      refine lc_map B ld (fun v => ld (clv v (piv1 L f pl) pl)) (by simp! [lds]) rfl (le_size (by omega)) (fun v hv => ⟨_, rfl, rfl, ?_⟩) rfl
      have hvw := S.wb _ hv
      have c := Lcleared_ok (n := n + 1) H (v := v) (u := piv1 L f pl) (pl := pl) (a := Cb b B.length) (b := 2 * Cb b B.length) cp (by omega) (S.sb _ hv) usz (by omega) (by omega) (by omega) (le_size (by omega)) (x := .d (ld v)) (y := .d (ld (piv1 L f pl))) arD arD
      simp! [dn, c]
    have eB : lds (B.map (fun v => clv v (piv1 L f pl) pl) ++ [piv1 L f pl]) = .lst ((B.map fun v => ld (clv v (piv1 L f pl) pl)) ++ [ld (piv1 L f pl)]) := by
      rw [lds, List.map_append, List.map_map, List.map_cons, List.map_nil]
      rfl
    have szB : (B.map fun v => ld (clv v (piv1 L f pl) pl)).length + 1 ≤ sizeLine := le_size (by rw [List.length_map]; omega)
    have eh : ∀ (m : En → Res D) (ρ : En), evHof (e_Lechelon_4 I) m ρ = (m ρ).bind fun x ρ => .ok (.d x) ρ := fun _ _ => rfl
    have i6 : ∀ r : List D, D.idx (.lst (.int (f : Int) :: r)) (.int 0) = some (.int (f : Int)) := fun r => idx0l
    refine ⟨.nx, _, ?_, .inl rfl, _, _, _, .dat (dn pl), .dat (.lst ((f :: r).map dn)), .dat (ld (L.getD f [])), .dat (ld (piv1 L f pl)), .dat (.lst ((L.eraseIdx f).map ld)), rfl, S2, rfl, rfl, rfl, rfl, rfl⟩
    rw [eB]
    have lc1' := lc1 s5 s6
    have z : ∀ x : Nat, (((x + 1 : Nat) : Int) == 0) = false := fun x => nat_pos_eq (by omega)
    simp only [dn, List.map_cons] at lc1' lc2 lc3 lc4
    simp! [b_Lechelon_0, dn, f5, f6, f8, f9, f10, lc1', List.map_cons, z, i6, j1, lc2, eo, eo2, if_pos eo4, eo3, lc3, lc4, eh, if_pos szB]
end
end Sm
end

section
set_option linter.all false
set_option autoImplicit false
set_option maxRecDepth 100000
/-! L4: the law's echelon, whole. -/
namespace Sm
open PySem DetQ
local macro_rules | `(tactic| simp! [$ls,*]) => `(tactic| simp only [evSs, evS, evE, evEs, as_nil, as_io, as_scr, as_bor, as_var, as_non, as_bl, as_int, as_str, as_tup, as_lst, as_bin, as_neg, as_not, as_cmp, as_and, as_or, as_ife, as_idx, as_slc, as_slcS, as_call, as_cal, as_isi, as_lc, hof_bor, hof_var, hof_non, hof_bl, hof_int, hof_str, hof_tup, hof_lst, hof_bin, hof_neg, hof_not, hof_cmp, hof_and, hof_or, hof_ife, hof_idx, hof_slc, hof_slcS, hof_call, hof_cal, hof_isi, hof_lc, evPof, evIt, Res.bind, rdB, rdE, rdO, rdS, Hd.look, opt, Sl.see, List.getElem?_cons_zero, List.getElem?_cons_succ, List.getD_cons_zero, List.getD_cons_succ, len_tup, len_lst, bi_int, bi_intb, bi_abs, bi_tupl, bi_tupt, bi_lstl, bi_lstt, bi_gcd, Cop.ev, Bop.ev, add_ii, add_tt, add_ll, sub_ii, neg_ii, D.ltI, isN_n, isN_i, isN_t, isN_l, isN_b, items_t, items_l, eqv_int, truthM, D.truth, nx, put_free, free_un, free_dat, free_own, free_bor, chg, List.set, asListO, It.locks, Ex.lock, Sl.lock, Sl.unlock, lockE, unlockE, wipeE, backE, fillA, callM, ioBack, iosOf, Option.map_some, if_true, List.length_cons, List.length_nil, List.replicate, List.cons_append, List.nil_append, List.append_nil, Nat.zero_add, List.any_cons, List.any_nil, ty_int_obj, ty_bool_obj, ty_str_obj, ty_list_obj, ty_tuple_obj, ty_cls_non, ty_cls_bl, ty_cls_int, ty_cls_str, ty_cls_tup, ty_cls_lst, ty_cls_obj, ty_int_non, ty_int_bl, ty_int_int, ty_int_str, ty_int_tup, ty_int_lst, ty_bool_non, ty_bool_bl, ty_bool_int, ty_bool_str, ty_bool_tup, ty_bool_lst, ty_str_non, ty_str_bl, ty_str_int, ty_str_str, ty_str_tup, ty_str_lst, ty_list_non, ty_list_bl, ty_list_int, ty_list_str, ty_list_tup, ty_list_lst, ty_tuple_non, ty_tuple_bl, ty_tuple_int, ty_tuple_str, ty_tuple_tup, ty_tuple_lst, Bool.or_false, Bool.false_or, Bool.not_true, Bool.not_false, Bool.true_or, Bool.or_true, ap_nil, ap1, ap2, ap3, ap4, ap_b, ap_bb, ap_bd, ap_db, ap_bdd, ap_dbd, ap_dbdd, ap_bbd, ap_ddbd, ap_dbb, ap_ddb, ap_bdb, ap_bddb, ap_bddbd, ap_s, ap_do, ap_dodd, ap_doddd, idx0l, idx0t, idx1l, idx1t, Nat.reduceAdd, Nat.reduceSub, Nat.reduceLeDiff, List.drop, Tg.put, intP, frzE, beq_self_eq_true, size1, size2, size0, $ls,*])
theorem LS.start {M : List (List Rat)} {w b : Nat} {p : Nat → Nat} (hw : ∀ v ∈ M, v.length = w) (hs : ∀ v ∈ M, ∀ q ∈ v, Sz b q) : LS M.length w b (qx M) 0 [] M p :=
  ⟨Lj.start, (fun v h => (nomatch h)), hw, Nat.zero_add _, (fun v h => (nomatch h)), fun v hv q hq => by
    have : Cb b ([] : List (List Rat)).length = b := by show 4 ^ 0 * (b + 1) - 1 = b; omega
    rw [this]
    exact hs v hv q hq⟩
theorem LS.ech {M : List (List Rat)} {w b : Nat} {B L : List (List Rat)} {p : Nat → Nat} (S : LS M.length w b (qx M) w B L p) : Ech M w B p :=
  ⟨S.wb, S.lj.rref, fun i hi => S.lj.from i hi, fun i hi => S.lj.inB i hi⟩
section
variable {T : List Fn} {I : Ix} {n : Nat}
theorem Lechelon_ok (H : HLech T I) {M : List (List Rat)} {w b : Nat} (hm1 : 1 ≤ M.length) (hm : M.length ≤ 50) (hw : ∀ v ∈ M, v.length = w) (hw2 : w ≤ 100) (hb : 1 ≤ b) (hs : ∀ v ∈ M, ∀ q ∈ v, Sz b q) (hC : Cb b M.length ≤ 5800) {x : D} (hx : x.items = some (M.map vd)) {a : Ar} (ha : ArB a x) :
    ∃ (B : List (List Rat)) (p : Nat → Nat), evF T (n + 7) I.Lechelon [a] = .ok (md B) [] ∧ Ech M w B p ∧ B.length ≤ M.length ∧ ∀ v ∈ B, ∀ q ∈ v, Sz (Cb b M.length) q := by
  have lc0 : evE (evF T (n + 6)) (e_Lechelon_0 I) [.bor x, .un, .un, .un, .un, .un, .un, .un, .un, .un, .un] = .ok (lds M) [.bor x, .un, .un, .un, .un, .un, .un, .un, .un, .un, .un] := by
    refine lc_map M vd ld (by simp! [hx]) rfl (le_size (by omega)) (fun v hv => ⟨_, rfl, rfl, ?_⟩) rfl
    have : Bi.ev .list [vd v] = some (ld v) := rfl
    simp! [this]
  obtain ⟨ρ', el, B, L, p, t5, t6, t8, t9, t10, rfl, S, f5, f6, f8, f9, f10⟩ := for_go (tg := .nm 5) (body := evSs (evF T (n + 6)) (b_Lechelon_0 I)) dn (List.range w) (fun j ρ => ∃ (B L : List (List Rat)) (p : Nat → Nat) (t5 t6 t8 t9 t10 : Sl), ρ = [.bor x, .dat (lds L), .un, .dat (lds B), .dat (dn w), t5, t6, .un, t8, t9, t10] ∧ LS M.length w b (qx M) j B L p ∧ t5.free = true ∧ t6.free = true ∧ t8.free = true ∧ t9.free = true ∧ t10.free = true) (ρ := [.bor x, .dat (lds M), .un, .dat (lds []), .dat (dn w), .un, .un, .un, .un, .un, .un]) ⟨[], M, fun i => i, .un, .un, .un, .un, .un, rfl, LS.start hw hs, rfl, rfl, rfl, rfl, rfl⟩ (by
    rintro j a ρ ha ⟨B, L, p, t5, t6, t8, t9, t10, rfl, S, f5, f6, f8, f9, f10⟩
    have hj : j < w := by
      have := (List.getElem?_eq_some_iff.mp ha).1
      rwa [List.length_range] at this
    have ea : a = j := by
      rw [List.getElem?_range hj] at ha
      exact (Option.some.inj ha).symm
    subst ea
    obtain ⟨f, ρ', q1, q2, B', L', p', u5, u6, u8, u9, u10, rfl, q4, g⟩ := Lech_out (n := n) H (s0 := .bor x) (s4 := .dat (dn w)) (s7 := .un) S hj hb hC hm hw2 f5 f6 f8 f9 f10
    exact ⟨f, _, q1, q2, B', L', p', u5, u6, u8, u9, u10, rfl, q4, g⟩)
  rw [List.length_range] at S
  have es : evS (evF T (n + 6)) (s_Lechelon_0 I) [.bor x, .dat (lds M), .un, .dat (lds []), .dat (dn w), .un, .un, .un, .un, .un, .un] = .ok .nx [.bor x, .dat (lds L), .un, .dat (lds B), .dat (dn w), t5, t6, .un, t8, t9, t10] := for_st3 (by simp! [dn, rng1_n (le_size hw2)]) rfl el rfl
  have km := S.km
  refine ⟨B, p, ?_, S.ech, by omega, fun v hv q hq => (S.sb v hv q hq).mono (Cb_mono (by omega))⟩
  have lc5 : evE (evF T (n + 6)) (e_Lechelon_5 I) [.bor x, .dat (lds L), .un, .dat (lds B), .dat (dn w), t5, t6, .un, t8, t9, t10] = .ok (.lst (B.map vd)) [.bor x, .dat (lds L), .un, .dat (lds B), .dat (dn w), t5, t6, .un, t8, t9, t10] := by
    refine lc_map B ld vd (by simp! [lds]) rfl (le_size (by omega)) (fun v hv => ⟨_, rfl, rfl, ?_⟩) rfl
    have : Bi.ev .tuple [ld v] = some (vd v) := rfl
    simp! [this]
  obtain ⟨v0, M', eM⟩ : ∃ v0 M', M = v0 :: M' := by
    cases hM : M with
    | nil => rw [hM] at hm1; simp at hm1
    | cons v M => exact ⟨v, M, rfl⟩
  have i0 : D.idx (lds M) (.int 0) = some (ld v0) := by rw [eM]; exact idx0l
  have l0 : Bi.ev .len [ld v0] = some (.int (w : Int)) := by
    rw [ld, len_lst, List.length_map, hw v0 (by rw [eM]; exact List.mem_cons_self)]
  have lM : Bi.ev .len [lds M] = some (.int (M.length : Int)) := by rw [lds, len_lst, List.length_map]
  have d1 : decide ((0 : Int) < (M.length : Int)) = true := decide_eq_true (by omega)
  have e0 : D.lst [] = lds [] := rfl
  simp only [dn] at es lc5
  rw [run_eq H.Lechelon (entry_b1 ha)]
  simp! [F_Lechelon, lc0, lM, d1, i0, l0, e0, es, lc5, md]
end
end Sm
end

section
set_option linter.all false
set_option autoImplicit false
set_option maxRecDepth 100000
/-! K1: kernels and solutions: the plain part, and the program's walks. -/
namespace Sm
open PySem DetQ
local macro_rules | `(tactic| simp! [$ls,*]) => `(tactic| simp only [evSs, evS, evE, evEs, as_nil, as_io, as_scr, as_bor, as_var, as_non, as_bl, as_int, as_str, as_tup, as_lst, as_bin, as_neg, as_not, as_cmp, as_and, as_or, as_ife, as_idx, as_slc, as_slcS, as_call, as_cal, as_isi, as_lc, hof_bor, hof_var, hof_non, hof_bl, hof_int, hof_str, hof_tup, hof_lst, hof_bin, hof_neg, hof_not, hof_cmp, hof_and, hof_or, hof_ife, hof_idx, hof_slc, hof_slcS, hof_call, hof_cal, hof_isi, hof_lc, evPof, evIt, Res.bind, rdB, rdE, rdO, rdS, Hd.look, opt, Sl.see, List.getElem?_cons_zero, List.getElem?_cons_succ, List.getD_cons_zero, List.getD_cons_succ, len_tup, len_lst, bi_int, bi_intb, bi_abs, bi_tupl, bi_tupt, bi_lstl, bi_lstt, bi_gcd, Cop.ev, Bop.ev, add_ii, add_tt, add_ll, sub_ii, neg_ii, D.ltI, isN_n, isN_i, isN_t, isN_l, isN_b, items_t, items_l, eqv_int, truthM, D.truth, nx, put_free, free_un, free_dat, free_own, free_bor, chg, List.set, asListO, It.locks, Ex.lock, Sl.lock, Sl.unlock, lockE, unlockE, wipeE, backE, fillA, callM, ioBack, iosOf, Option.map_some, if_true, List.length_cons, List.length_nil, List.replicate, List.cons_append, List.nil_append, List.append_nil, Nat.zero_add, List.any_cons, List.any_nil, ty_int_obj, ty_bool_obj, ty_str_obj, ty_list_obj, ty_tuple_obj, ty_cls_non, ty_cls_bl, ty_cls_int, ty_cls_str, ty_cls_tup, ty_cls_lst, ty_cls_obj, ty_int_non, ty_int_bl, ty_int_int, ty_int_str, ty_int_tup, ty_int_lst, ty_bool_non, ty_bool_bl, ty_bool_int, ty_bool_str, ty_bool_tup, ty_bool_lst, ty_str_non, ty_str_bl, ty_str_int, ty_str_str, ty_str_tup, ty_str_lst, ty_list_non, ty_list_bl, ty_list_int, ty_list_str, ty_list_tup, ty_list_lst, ty_tuple_non, ty_tuple_bl, ty_tuple_int, ty_tuple_str, ty_tuple_tup, ty_tuple_lst, Bool.or_false, Bool.false_or, Bool.not_true, Bool.not_false, Bool.true_or, Bool.or_true, ap_nil, ap1, ap2, ap3, ap4, ap_b, ap_bb, ap_bd, ap_db, ap_bdd, ap_dbd, ap_dbdd, ap_bbd, ap_ddbd, ap_dbb, ap_ddb, ap_bdb, ap_bddb, ap_bddbd, ap_s, ap_do, ap_dodd, ap_doddd, idx0l, idx0t, idx1l, idx1t, Nat.reduceAdd, Nat.reduceSub, Nat.reduceLeDiff, List.drop, Tg.put, intP, frzE, beq_self_eq_true, size1, size2, size0, $ls,*])
def setsP {α : Type} (k : Nat) (p : Nat → Nat) (val : Nat → α) (v : List α) : List α := (List.range k).foldl (fun v i => v.set (p i) (val i)) v
section
variable {α β : Type} {k : Nat} {p : Nat → Nat} {val : Nat → α} {v : List α}
theorem setsP_succ : setsP (k + 1) p val v = (setsP k p val v).set (p k) (val k) := by
  unfold setsP
  rw [List.range_succ, List.foldl_append]
  rfl
theorem setsP_len : (setsP k p val v).length = v.length := by
  induction k with
  | zero => rfl
  | succ k ih => rw [setsP_succ, List.length_set, ih]
theorem setsP_map {f : α → β} : (setsP k p val v).map f = setsP k p (fun i => f (val i)) (v.map f) := by
  induction k with
  | zero => rfl
  | succ k ih => rw [setsP_succ, setsP_succ, List.map_set, ih]
theorem setsP_congr {p' : Nat → Nat} {val' : Nat → α} (hp : ∀ i, i < k → p i = p' i) (hv : ∀ i, i < k → val i = val' i) : setsP k p val v = setsP k p' val' v := by
  induction k with
  | zero => rfl
  | succ k ih => rw [setsP_succ, setsP_succ, ih (fun i hi => hp i (by omega)) fun i hi => hv i (by omega), hp k (by omega), hv k (by omega)]
end
def kv (w : Nat) (p : Nat → Nat) (B : List (List Rat)) (pl : Nat) : List Rat := setsP B.length p (fun i => -(qx B i pl)) ((List.replicate w 0).set pl 1)
def kers (w : Nat) (p : Nat → Nat) (B : List (List Rat)) : List (List Rat) := ((List.range w).filter fun c => !decide (c ∈ (List.range B.length).map p)).map (kv w p B)
/-- where the space's last column has no pivot -/
def sv (w : Nat) (p : Nat → Nat) (B : List (List Rat)) : List Rat := setsP B.length p (fun i => qx B i w) (List.replicate w 0)
theorem map_congr_p {k : Nat} {p p' : Nat → Nat} (h : ∀ i, i < k → p i = p' i) : (List.range k).map p = (List.range k).map p' := List.map_congr_left fun i hi => h i (List.mem_range.mp hi)
theorem kers_congr {w : Nat} {p p' : Nat → Nat} {B : List (List Rat)} (h : ∀ i, i < B.length → p i = p' i) : kers w p B = kers w p' B := by
  unfold kers
  rw [map_congr_p h]
  refine List.map_congr_left fun c _ => ?_
  unfold kv
  exact setsP_congr h fun _ _ => rfl
theorem sv_congr {w : Nat} {p p' : Nat → Nat} {B : List (List Rat)} (h : ∀ i, i < B.length → p i = p' i) : sv w p B = sv w p' B := by
  unfold sv
  exact setsP_congr h fun _ _ => rfl
theorem isin_dn {x : Nat} {L : List Nat} : D.isin (.int (x : Int)) (.lst (L.map dn)) = some (decide (x ∈ L)) := by
  have h1 : (L.map dn).all D.flat = true := by
    rw [List.all_eq_true]
    intro d hd
    obtain ⟨i, _, rfl⟩ := List.mem_map.mp hd
    rfl
  show (if (D.flat (.int (x : Int)) && (L.map dn).all D.flat) = true then some ((L.map dn).any fun d => D.eqb d (.int (x : Int))) else none) = _
  rw [h1]
  refine (if_pos rfl).trans ?_
  congr 1
  rw [List.any_map]
  by_cases h : x ∈ L
  · rw [decide_eq_true h, List.any_eq_true]
    exact ⟨x, h, by show ((x : Int) == (x : Int)) = true; exact beq_self_eq_true _⟩
  · rw [decide_eq_false h, List.any_eq_false]
    intro y hy
    show ¬ ((y : Int) == (x : Int)) = true
    intro e
    have : (y : Int) = (x : Int) := eq_of_beq e
    have : y = x := by omega
    exact h (this ▸ hy)
theorem zipD_range {α : Type} {p : Nat → Nat} {R : List α} {e : α → D} {d : α} {k : Nat} (h : R.length = k) : zipD (((List.range k).map p).map dn) (R.map e) = (List.range k).map fun i => .tup [dn (p i), e (R.getD i d)] := by
  have key : ∀ (a b : List D), a.length = b.length → zipD a b = (List.range a.length).map fun i => D.tup [a.getD i .non, b.getD i .non] := by
    intro a
    induction a with
    | nil => intro b _; cases b <;> rfl
    | cons x a ih =>
      intro b hb
      cases b with
      | nil => cases hb
      | cons y b =>
        rw [List.length_cons, List.range_succ_eq_map, List.map_cons, List.map_map]
        show D.tup [x, y] :: zipD a b = _
        rw [ih b (by simpa using hb)]
        rfl
  rw [key _ _ (by rw [List.length_map, List.length_map, List.length_map, List.length_range, h]), List.length_map, List.length_map, List.length_range]
  refine List.map_congr_left fun i hi => ?_
  have hi := List.mem_range.mp hi
  rw [getD_map' (d := 0) (by rw [List.length_map, List.length_range]; exact hi), getD_map' (d := 0) (by rw [List.length_range]; exact hi), getD_map' (d := d) (by omega)]
  have : (List.range k).getD i 0 = i := by rw [List.getD_eq_getElem?_getD, List.getElem?_range hi]; rfl
  rw [this]
theorem rep_flat {x : D} : ∀ {n : Nat}, (List.replicate n [x]).flatten = List.replicate n x
  | 0 => rfl
  | n + 1 => by rw [List.replicate_succ, List.flatten_cons, rep_flat]; rfl
theorem mul_rep {x : D} {n : Nat} (h : n ≤ sizeLine) : D.mul (.lst [x]) (.int (n : Int)) = some (.lst (List.replicate n x)) := by
  have hs : (sizeLine : Nat) < 2 ^ 63 := by decide
  show (if (n : Int).natAbs < 2 ^ 63 ∧ [x].length * (n : Int).toNat ≤ sizeLine then some (D.lst (List.replicate (n : Int).toNat [x]).flatten) else none) = _
  rw [if_pos ⟨by omega, by rw [List.length_singleton]; omega⟩, Int.toNat_natCast, rep_flat]
def kz (w k : Nat) (p : Nat → Nat) (R : List (List Int)) (bot : Int) (pl : Nat) : List Int := setsP k p (fun i => -(ent R i pl)) ((List.replicate w 0).set pl bot)
structure HKer (T : List Fn) (I : Ix) : Prop extends HEch T I where
  nought : T[I.nought]? = some (F_nought I)
  kernel_of : T[I.kernel_of]? = some (F_kernel_of I)
  kernel : T[I.kernel]? = some (F_kernel I)
  beside : T[I.beside]? = some (F_beside I)
  solved : T[I.solved]? = some (F_solved I)
section
variable {T : List Fn} {I : Ix} {n : Nat}
theorem ker_in {F : Nat → List Ar → FRes} {w k pl : Nat} {p : Nat → Nat} {R : List (List Int)} {V : List Int} {s0 s1 s4 s5 s8 s9 : Sl} (hl : R.length = k) (hw : ∀ r ∈ R, r.length = w) (hp : ∀ i, i < k → p i < w) (hpl : pl < w) (hV : V.length = w) (f8 : s8.free = true) (f9 : s9.free = true) :
    ∃ t8 t9 : Sl, evS F (s_kernel_of_1 I) [s0, s1, .dat (wl R), .dat (.lst (((List.range k).map p).map dn)), s4, s5, .dat (dn pl), .own (V.map D.int), s8, s9] = .ok .nx [s0, s1, .dat (wl R), .dat (.lst (((List.range k).map p).map dn)), s4, s5, .dat (dn pl), .own ((setsP k p (fun i => -(ent R i pl)) V).map D.int), t8, t9] ∧ t8.free = true ∧ t9.free = true := by
  obtain ⟨ρ', e, t8, t9, rfl, g8, g9⟩ := for_go (tg := .tp (.nm 8) (.tp (.nm 9) .nl)) (body := evSs F (b_kernel_of_1 I)) (fun i => D.tup [dn (p i), zd (R.getD i [])]) (List.range k) (fun j ρ => ∃ t8 t9 : Sl, ρ = [s0, s1, .dat (wl R), .dat (.lst (((List.range k).map p).map dn)), s4, s5, .dat (dn pl), .own ((setsP j p (fun i => -(ent R i pl)) V).map D.int), t8, t9] ∧ t8.free = true ∧ t9.free = true) (ρ := [s0, s1, .dat (wl R), .dat (.lst (((List.range k).map p).map dn)), s4, s5, .dat (dn pl), .own (V.map D.int), s8, s9]) ⟨s8, s9, rfl, f8, f9⟩ (by
    rintro j a ρ ha ⟨t8, t9, rfl, g8, g9⟩
    have hj : j < k := by
      have := (List.getElem?_eq_some_iff.mp ha).1
      rwa [List.length_range] at this
    have ea : a = j := by
      rw [List.getElem?_range hj] at ha
      exact (Option.some.inj ha).symm
    subst ea
    refine ⟨.nx, _, ?_, .inl rfl, .dat (dn (p a)), .dat (zd (R.getD a [])), rfl, rfl, rfl⟩
    have i1 := idx_zd (r := R.getD a []) (pl := pl) (by rw [hw _ (getD_mem (by omega))]; exact hpl)
    have i2 : L2.ixN w (p a : Int) = some (p a) := ixN_nat (hp a hj)
    have el : ((setsP a p (fun i => -(ent R i pl)) V).map D.int).length = w := by rw [List.length_map, setsP_len, hV]
    have es : ((setsP a p (fun i => -(ent R i pl)) V).map D.int).set (p a) (.int (-((R.getD a []).getD pl 0))) = (setsP (a + 1) p (fun i => -(ent R i pl)) V).map D.int := by rw [setsP_succ, List.map_set]; rfl
    simp! [b_kernel_of_1, dn, g8, g9, i1, stoD, el, i2, es])
  rw [List.length_range] at e
  refine ⟨t8, t9, for_st3 ?_ rfl e rfl, g8, g9⟩
  have : zipO (.lst (((List.range k).map p).map dn)) (wl R) = some ((List.range k).map fun i => D.tup [dn (p i), zd (R.getD i [])]) := by
    rw [← zipD_range hl]
    rfl
  simp! [this]
theorem kernel_of_ok (H : HKer T I) {Z : List (List Int)} {m w K : Nat} (hl : Z.length = m) (hw : ∀ r ∈ Z, r.length = w) (hb : ∀ r ∈ Z, ∀ x ∈ r, x.natAbs < 2 ^ K) (hK : 1 ≤ K) (hB : Bk K m ≤ 9000) (hm : m ≤ 100) (hw2 : w ≤ 100) {x : D} {e : List Int → D} (he : ∀ r ∈ Z, e r = zt r ∨ e r = zd r) (hx : x.items = some (Z.map e)) {a : Ar} (ha : ArB a x) :
    ∃ (k : Nat) (s p : Nat → Nat) (W : Mx) (d : Rat) (R : List (List Int)) (bot : Int), evF T (n + 3) I.kernel_of [a, .d (.int (w : Int))] = .ok (.tup [wl (((List.range w).filter fun c => !decide (c ∈ (List.range k).map p)).map (kz w k p R bot)), .int bot]) [] ∧ RO m w w K k (mx Z) s p W d R bot := by
  obtain ⟨k, s, p, W, d, R, bot, er, O⟩ := reduced_ok (n := n) H.toHRow hl hw hb hK (Nat.le_refl w) hB hm hw2 he hx (a := .b 0 x) arB
  refine ⟨k, s, p, W, d, R, bot, ?_, O⟩
  have plt := O.gj.plt
  obtain ⟨ρ', el, t6, t7, t8, t9, rfl, g6, g7, g8, g9⟩ := for_go (tg := .nm 6) (body := evSs (evF T (n + 2)) (b_kernel_of_0 I)) dn (List.range w) (fun j ρ => ∃ t6 t7 t8 t9 : Sl, ρ = [.bor x, .dat (dn w), .dat (wl R), .dat (.lst (((List.range k).map p).map dn)), .dat (.int bot), .own ((((List.range j).filter fun c => !decide (c ∈ (List.range k).map p)).map (kz w k p R bot)).map zd), t6, t7, t8, t9] ∧ t6.free = true ∧ t7.free = true ∧ t8.free = true ∧ t9.free = true) (ρ := [.bor x, .dat (dn w), .dat (wl R), .dat (.lst (((List.range k).map p).map dn)), .dat (.int bot), .own [], .un, .un, .un, .un]) ⟨.un, .un, .un, .un, rfl, rfl, rfl, rfl, rfl⟩ (by
    rintro j a ρ ha ⟨t6, t7, t8, t9, rfl, g6, g7, g8, g9⟩
    have hj : j < w := by
      have := (List.getElem?_eq_some_iff.mp ha).1
      rwa [List.length_range] at this
    have ea : a = j := by
      rw [List.getElem?_range hj] at ha
      exact (Option.some.inj ha).symm
    subst ea
    have hin := isin_dn (x := a) (L := (List.range k).map p)
    by_cases hc : a ∈ (List.range k).map p
    · have hc' : decide (a ∈ (List.range k).map p) = true := decide_eq_true hc
      have ef : ((List.range (a + 1)).filter fun c => !decide (c ∈ (List.range k).map p)) = (List.range a).filter fun c => !decide (c ∈ (List.range k).map p) := by
        rw [List.range_succ, List.filter_append, List.filter_cons_of_neg (by rw [hc']; decide), List.filter_nil, List.append_nil]
      refine ⟨.ct, _, ?_, .inr rfl, .dat (dn a), t7, t8, t9, rfl, rfl, g7, g8, g9⟩
      rw [ef]
      simp! [b_kernel_of_0, dn, g6, hin, hc']
    · have hc' : decide (a ∈ (List.range k).map p) = false := decide_eq_false hc
      have ef : ((List.range (a + 1)).filter fun c => !decide (c ∈ (List.range k).map p)) = ((List.range a).filter fun c => !decide (c ∈ (List.range k).map p)) ++ [a] := by
        rw [List.range_succ, List.filter_append, List.filter_cons_of_pos (by rw [hc']; rfl), List.filter_nil]
      obtain ⟨u8, u9, ei, h8, h9⟩ := ker_in (F := evF T (n + 2)) (I := I) (s0 := .bor x) (s1 := .dat (dn w)) (s4 := .dat (.int bot)) (s5 := .own ((((List.range a).filter fun c => !decide (c ∈ (List.range k).map p)).map (kz w k p R bot)).map zd)) (s8 := t8) (s9 := t9) (V := (List.replicate w 0).set a bot) O.len O.wid plt hj (by rw [List.length_set, List.length_replicate]) g8 g9
      have mr : D.mul (.lst [.int 0]) (.int (w : Int)) = some (.lst ((List.replicate w (0 : Int)).map D.int)) := by rw [mul_rep (le_size hw2), List.map_replicate]
      have ix : L2.ixN w (a : Int) = some a := ixN_nat hj
      have lr : ((List.replicate w (0 : Int)).map D.int).length = w := by rw [List.length_map, List.length_replicate]
      have es : ((List.replicate w (0 : Int)).map D.int).set a (.int bot) = ((List.replicate w 0).set a bot).map D.int := by rw [List.map_set]
      have fz : ((((List.range a).filter fun c => !decide (c ∈ (List.range k).map p)).map (kz w k p R bot)).map zd).length < sizeLine := by
        have h1 : ((List.range a).filter fun c => !decide (c ∈ (List.range k).map p)).length ≤ a := Nat.le_trans (List.length_filter_le _ _) (by rw [List.length_range]; exact Nat.le_refl _)
        have h2 : (100 : Nat) < sizeLine := by decide
        rw [List.length_map, List.length_map]
        omega
      have ez : ∀ V : List D, V ++ [.lst ((setsP k p (fun i => -(ent R i a)) ((List.replicate w 0).set a bot)).map D.int)] = V ++ [a].map (zd ∘ kz w k p R bot) := fun V => rfl
      refine ⟨.nx, _, ?_, .inl rfl, .dat (dn a), .dat (.lst ((setsP k p (fun i => -(ent R i a)) ((List.replicate w 0).set a bot)).map D.int)), u8, u9, rfl, rfl, rfl, h8, h9⟩
      rw [ef, List.map_append, List.map_append, List.map_map (l := [a])]
      simp only [dn] at ei
      have ez2 := ez ((((List.range a).filter fun c => !decide (c ∈ (List.range k).map p)).map (kz w k p R bot)).map zd)
      simp! [b_kernel_of_0, dn, g6, g7, hin, hc', mr, stoD, lr, ix, es, ei, if_pos fz, ez2])
  rw [List.length_range] at el
  have es : evS (evF T (n + 2)) (s_kernel_of_0 I) [.bor x, .dat (dn w), .dat (wl R), .dat (.lst (((List.range k).map p).map dn)), .dat (.int bot), .own [], .un, .un, .un, .un] = .ok .nx [.bor x, .dat (dn w), .dat (wl R), .dat (.lst (((List.range k).map p).map dn)), .dat (.int bot), .own ((((List.range w).filter fun c => !decide (c ∈ (List.range k).map p)).map (kz w k p R bot)).map zd), t6, t7, t8, t9] := for_st3 (by simp! [dn, rng1_n (le_size hw2)]) rfl el rfl
  simp only [dn] at es
  rw [run_eq H.kernel_of (entry_bd ha)]
  have ew : ∀ X : List (List Int), D.lst (X.map zd) = wl X := fun _ => rfl
  simp! [F_kernel_of, er, es, ew]
end
end Sm
end

section
set_option linter.all false
set_option autoImplicit false
set_option maxRecDepth 100000
/-! L5: what the law draws. -/
namespace Sm
open PySem DetQ
local macro_rules | `(tactic| simp! [$ls,*]) => `(tactic| simp only [evSs, evS, evE, evEs, as_nil, as_io, as_scr, as_bor, as_var, as_non, as_bl, as_int, as_str, as_tup, as_lst, as_bin, as_neg, as_not, as_cmp, as_and, as_or, as_ife, as_idx, as_slc, as_slcS, as_call, as_cal, as_isi, as_lc, hof_bor, hof_var, hof_non, hof_bl, hof_int, hof_str, hof_tup, hof_lst, hof_bin, hof_neg, hof_not, hof_cmp, hof_and, hof_or, hof_ife, hof_idx, hof_slc, hof_slcS, hof_call, hof_cal, hof_isi, hof_lc, evPof, evIt, Res.bind, rdB, rdE, rdO, rdS, Hd.look, opt, Sl.see, List.getElem?_cons_zero, List.getElem?_cons_succ, List.getD_cons_zero, List.getD_cons_succ, len_tup, len_lst, bi_int, bi_intb, bi_abs, bi_tupl, bi_tupt, bi_lstl, bi_lstt, bi_gcd, Cop.ev, Bop.ev, add_ii, add_tt, add_ll, sub_ii, neg_ii, D.ltI, isN_n, isN_i, isN_t, isN_l, isN_b, items_t, items_l, eqv_int, truthM, D.truth, nx, put_free, free_un, free_dat, free_own, free_bor, chg, List.set, asListO, It.locks, Ex.lock, Sl.lock, Sl.unlock, lockE, unlockE, wipeE, backE, fillA, callM, ioBack, iosOf, Option.map_some, if_true, List.length_cons, List.length_nil, List.replicate, List.cons_append, List.nil_append, List.append_nil, Nat.zero_add, List.any_cons, List.any_nil, ty_int_obj, ty_bool_obj, ty_str_obj, ty_list_obj, ty_tuple_obj, ty_cls_non, ty_cls_bl, ty_cls_int, ty_cls_str, ty_cls_tup, ty_cls_lst, ty_cls_obj, ty_int_non, ty_int_bl, ty_int_int, ty_int_str, ty_int_tup, ty_int_lst, ty_bool_non, ty_bool_bl, ty_bool_int, ty_bool_str, ty_bool_tup, ty_bool_lst, ty_str_non, ty_str_bl, ty_str_int, ty_str_str, ty_str_tup, ty_str_lst, ty_list_non, ty_list_bl, ty_list_int, ty_list_str, ty_list_tup, ty_list_lst, ty_tuple_non, ty_tuple_bl, ty_tuple_int, ty_tuple_str, ty_tuple_tup, ty_tuple_lst, Bool.or_false, Bool.false_or, Bool.not_true, Bool.not_false, Bool.true_or, Bool.or_true, ap_nil, ap1, ap2, ap3, ap4, ap_b, ap_bb, ap_bd, ap_db, ap_bdd, ap_dbd, ap_dbdd, ap_bbd, ap_ddbd, ap_dbb, ap_ddb, ap_bdb, ap_bddb, ap_bddbd, ap_s, ap_do, ap_dodd, ap_doddd, idx0l, idx0t, idx1l, idx1t, Nat.reduceAdd, Nat.reduceSub, Nat.reduceLeDiff, List.drop, Tg.put, intP, frzE, beq_self_eq_true, size1, size2, size0, $ls,*])
structure HDraw (T : List Fn) (I : Ix) : Prop where
  Lnumbers : T[I.Lnumbers]? = some (F_Lnumbers I)
  Ldraw : T[I.Ldraw]? = some (F_Ldraw I)
  Ltake : T[I.Ltake]? = some (F_Ltake I)
/-- a number as the law draws it -/
inductive Nm where
  | i (a : Int) | p (a b : Int)
def Nm.d : Nm → D
  | .i a => .int a
  | .p a b => .tup [.int a, .int b]
def Nm.q : Nm → Rat
  | .i a => (a : Rat)
  | .p a b => Rat.divInt a b
def Nm.isI : Nm → Bool
  | .i _ => true
  | .p _ _ => false
def Nm.ok (B : Nat) : Nm → Prop
  | .i a => a.natAbs ≤ B
  | .p a b => a.natAbs ≤ B ∧ 2 ≤ b ∧ b ≤ 4
theorem Nm.ok.mono {B C : Nat} (h : B ≤ C) : ∀ {v : Nm}, v.ok B → v.ok C
  | .i _, g => Nat.le_trans g h
  | .p _ _, g => ⟨Nat.le_trans g.1 h, g.2⟩
abbrev rowD (row : List Int) : D := .lst (row.map D.int)
theorem ap_bo01 {x y : D} {ds : List D} : apart [.b 0 x, .o 1 ds, .d y] = true := ap_bo rfl
section
variable {T : List Fn} {I : Ix} {n : Nat} {row : List Int}
theorem Ltake_ok (H : HDraw T I) (hne : row ≠ []) (s lim : Int) (h0 : 0 ≤ s) (hl : 0 < lim) {a : Ar} (ha : ArB a (rowD row)) (k : Nat) :
    ∃ d, 0 ≤ d ∧ d < lim ∧ evF T (n + 2) I.Ltake [a, .o k [.int s], .d (.int lim)] = .ok (.int d) [[.int (s + 1)]] :=
  take_ok (n := n) (i := I.Ltake) (j := I.Ldraw) H.Ltake H.Ldraw hne s lim h0 hl ha k
theorem drawn_number_ok (H : HDraw T I) (hd : T[I.Ldrawn_number]? = some (F_Ldrawn_number I)) (hne : row ≠ []) (s : Int) (B : Nat) (h0 : 0 ≤ s) (hB : B ≤ 1000) {a : Ar} (ha : ArB a (rowD row)) (k : Nat) :
    ∃ (v : Nm) (s' : Int), v.ok B ∧ 0 ≤ s' ∧ evF T (n + 3) I.Ldrawn_number [a, .o k [.int s], .d (.int (B : Int))] = .ok v.d [[.int s']] := by
  have he : entry (F_Ldrawn_number I).mos [a, .o k [.int s], .d (.int (B : Int))] = some [.bor (rowD row), .io [.int s], .dat (.int (B : Int))] := by
    show entry [.b, .o, .d] _ = _
    rw [entry_b ha]
    rfl
  obtain ⟨t, t0, t1, et⟩ := Ltake_ok (n := n) H hne s (2 * (B : Int) + 1) h0 (by omega) (a := .b 0 (rowD row)) arB 1
  obtain ⟨y, y0, y1, ey⟩ := Ltake_ok (n := n) H hne (s + 1) 6 (by omega) (by omega) (a := .b 0 (rowD row)) arB 1
  obtain ⟨z, z0, z1, ez⟩ := Ltake_ok (n := n) H hne (s + 1 + 1) 3 (by omega) (by omega) (a := .b 0 (rowD row)) arB 1
  have m : D.mul (.int 2) (.int (B : Int)) = some (.int (2 * (B : Int))) := mul_small (by rw [Int.natAbs_natCast]; omega)
  rw [run_eq hd he]
  by_cases hy : y = 0
  · refine ⟨.p (t - B) (2 + z), s + 1 + 1 + 1, ⟨by omega, by omega, by omega⟩, by omega, ?_⟩
    have hy' : (y == 0) = true := by rw [hy]; rfl
    simp! [F_Ldrawn_number, m, ap_bo01, et, ey, ez, hy', Nm.d]
  · refine ⟨.i (t - B), s + 1 + 1, by show (t - (B : Int)).natAbs ≤ B; omega, by omega, ?_⟩
    have hy' : (y == 0) = false := by rw [beq_eq_false_iff_ne]; exact hy
    simp! [F_Ldrawn_number, m, ap_bo01, et, ey, hy', Nm.d]
theorem numeric_nm (hN : T[I.Lnumeric]? = some (F_Lnumeric I)) {a : Ar} {v : Nm} (ha : ArB a v.d) : evF T (n + 1) I.Lnumeric [a] = .ok (.bl v.isI) [] := by
  rw [run_eq hN (entry_b1 ha)]
  cases v <;> simp! [F_Lnumeric, Nm.d, Nm.isI]
def nt (r : List Nm) : D := .tup (r.map Nm.d)
def Nm.sum (u v : Nm) : Nm := match u, v with
  | .i a, .i b => .i (a + b)
  | _, _ => .i 0
theorem Nm.sum_ok {B : Nat} : ∀ {u v : Nm}, u.ok B → v.ok B → (u.sum v).ok (2 * B)
  | .i a, .i b, h, g => by
    have h : a.natAbs ≤ B := h
    have g : b.natAbs ≤ B := g
    show (a + b).natAbs ≤ 2 * B
    omega
  | .i _, .p _ _, _, _ => Nat.zero_le _
  | .p _ _, .i _, _, _ => Nat.zero_le _
  | .p _ _, .p _ _, _, _ => Nat.zero_le _
theorem drawn_row_lc (H : HDraw T I) (hd : T[I.Ldrawn_number]? = some (F_Ldrawn_number I)) (hne : row ≠ []) (s : Int) (B w : Nat) (h0 : 0 ≤ s) (hB : B ≤ 1000) (hw : w ≤ 100) {s2 s5 s6 : Sl} (f : s5.free = true) :
    ∃ (r : List Nm) (s' : Int), r.length = w ∧ (∀ v ∈ r, v.ok B) ∧ 0 ≤ s' ∧ evE (evF T (n + 3)) (e_Ldrawn_rows_1 I) [.bor (rowD row), .io [.int s], s2, .dat (dn w), .dat (dn B), s5, s6, .un] = .ok (.lst (r.map Nm.d)) [.bor (rowD row), .io [.int s'], s2, .dat (dn w), .dat (dn B), s5, s6, .un] := by
  obtain ⟨acc, ρ', e, r, s', rfl, hr, hok, h0', rfl⟩ := lc_inv (tg := .nm 7) (own := [7]) (cond := fun ρ => ((evE (evF T (n + 3)) (.bl true) ρ).bind fun d ρ => truthM d ρ).nox) (elt := fun ρ => (evE (evF T (n + 3)) (.call I.Ldrawn_number (.cons (.bor 0) (.cons (.io 1) (.cons (.var 4) .nil)))) ρ).nox) dn (List.range w) (fun j acc ρ => ∃ (r : List Nm) (s' : Int), acc = r.map Nm.d ∧ r.length = j ∧ (∀ v ∈ r, v.ok B) ∧ 0 ≤ s' ∧ ρ = [.bor (rowD row), .io [.int s'], s2, .dat (dn w), .dat (dn B), s5, s6, .un]) (acc := []) (ρ := [.bor (rowD row), .io [.int s], s2, .dat (dn w), .dat (dn B), s5, s6, .un]) ⟨[], s, rfl, rfl, fun v h => (nomatch h), h0, rfl⟩ (by
    rintro j a acc ρ ha ⟨r, s', rfl, hr, hok, h0', rfl⟩
    have hj : j < w := by
      have := (List.getElem?_eq_some_iff.mp ha).1
      rwa [List.length_range] at this
    obtain ⟨v, s2', hv, h2, ev⟩ := drawn_number_ok (n := n) H hd hne s' B h0' hB (a := .b 0 (rowD row)) arB 1
    refine ⟨_, true, _, rfl, rfl, (fun h => (nomatch h)), fun _ => ⟨v.d, [.bor (rowD row), .io [.int s2'], s2, .dat (dn w), .dat (dn B), s5, s6, .dat (dn a)], ?_, ?_, r ++ [v], s2', by rw [List.map_append]; rfl, by rw [List.length_append, hr]; rfl, fun u hu => ?_, h2, rfl⟩⟩
    · simp! [dn, ap_bo01, ev, Res.nox]
    · have := le_size (n := 100) (by decide)
      have : (100 : Nat) < sizeLine := by decide
      rw [List.length_map]
      omega
    · rcases List.mem_append.mp hu with h | h
      · exact hok u h
      · rw [List.mem_singleton.mp h]; exact hv)
  rw [List.length_range] at hr
  refine ⟨r, s', hr, hok, h0', ?_⟩
  have h1 : evIt (evF T (n + 3)) (.rng1 (.var 3)) [.bor (rowD row), .io [.int s], s2, .dat (dn w), .dat (dn B), s5, s6, .un] = .ok ((List.range w).map dn) [.bor (rowD row), .io [.int s], s2, .dat (dn w), .dat (dn B), s5, s6, .un] := by
    simp! [dn, rng1_n (le_size hw)]
  exact evE_lc (src := .rng1 (.var 3)) (cond := .bl true) (elt := .call I.Ldrawn_number (.cons (.bor 0) (.cons (.io 1) (.cons (.var 4) .nil)))) h1 rfl e
end
end Sm
end

section
set_option linter.all false
set_option autoImplicit false
set_option maxRecDepth 100000
/-! L6: the rows that the law draws. -/
namespace Sm
open PySem DetQ
local macro_rules | `(tactic| simp! [$ls,*]) => `(tactic| simp only [evSs, evS, evE, evEs, as_nil, as_io, as_scr, as_bor, as_var, as_non, as_bl, as_int, as_str, as_tup, as_lst, as_bin, as_neg, as_not, as_cmp, as_and, as_or, as_ife, as_idx, as_slc, as_slcS, as_call, as_cal, as_isi, as_lc, hof_bor, hof_var, hof_non, hof_bl, hof_int, hof_str, hof_tup, hof_lst, hof_bin, hof_neg, hof_not, hof_cmp, hof_and, hof_or, hof_ife, hof_idx, hof_slc, hof_slcS, hof_call, hof_cal, hof_isi, hof_lc, evPof, evIt, Res.bind, rdB, rdE, rdO, rdS, Hd.look, opt, Sl.see, List.getElem?_cons_zero, List.getElem?_cons_succ, List.getD_cons_zero, List.getD_cons_succ, len_tup, len_lst, bi_int, bi_intb, bi_abs, bi_tupl, bi_tupt, bi_lstl, bi_lstt, bi_gcd, Cop.ev, Bop.ev, add_ii, add_tt, add_ll, sub_ii, neg_ii, D.ltI, isN_n, isN_i, isN_t, isN_l, isN_b, items_t, items_l, eqv_int, truthM, D.truth, nx, put_free, free_un, free_dat, free_own, free_bor, chg, List.set, asListO, It.locks, Ex.lock, Sl.lock, Sl.unlock, lockE, unlockE, wipeE, backE, fillA, callM, ioBack, iosOf, Option.map_some, if_true, List.length_cons, List.length_nil, List.replicate, List.cons_append, List.nil_append, List.append_nil, Nat.zero_add, List.any_cons, List.any_nil, ty_int_obj, ty_bool_obj, ty_str_obj, ty_list_obj, ty_tuple_obj, ty_cls_non, ty_cls_bl, ty_cls_int, ty_cls_str, ty_cls_tup, ty_cls_lst, ty_cls_obj, ty_int_non, ty_int_bl, ty_int_int, ty_int_str, ty_int_tup, ty_int_lst, ty_bool_non, ty_bool_bl, ty_bool_int, ty_bool_str, ty_bool_tup, ty_bool_lst, ty_str_non, ty_str_bl, ty_str_int, ty_str_str, ty_str_tup, ty_str_lst, ty_list_non, ty_list_bl, ty_list_int, ty_list_str, ty_list_tup, ty_list_lst, ty_tuple_non, ty_tuple_bl, ty_tuple_int, ty_tuple_str, ty_tuple_tup, ty_tuple_lst, Bool.or_false, Bool.false_or, Bool.not_true, Bool.not_false, Bool.true_or, Bool.or_true, ap_nil, ap1, ap2, ap3, ap4, ap_b, ap_bb, ap_bd, ap_db, ap_bdd, ap_dbd, ap_dbdd, ap_bbd, ap_ddbd, ap_dbb, ap_ddb, ap_bdb, ap_bddb, ap_bddbd, ap_s, ap_do, ap_dodd, ap_doddd, idx0l, idx0t, idx1l, idx1t, Nat.reduceAdd, Nat.reduceSub, Nat.reduceLeDiff, List.drop, Tg.put, intP, frzE, beq_self_eq_true, size1, size2, size0, $ls,*])
def rt (R : List (List Nm)) : D := .tup (R.map nt)
structure RowsI (R : List (List Nm)) (w B : Nat) : Prop where
  wid : ∀ r ∈ R, r.length = w
  ok2 : ∀ r ∈ R, ∀ v ∈ r, v.ok (2 * B)
  ok1 : ∀ i, i < 2 → ∀ v ∈ R.getD i [], v.ok B
theorem RowsI.add {R : List (List Nm)} {w B : Nat} (H : RowsI R w B) {r : List Nm} (hr : r.length = w) (h2 : ∀ v ∈ r, v.ok (2 * B)) (h1 : R.length < 2 → ∀ v ∈ r, v.ok B) : RowsI (R ++ [r]) w B := by
  refine ⟨fun x hx => ?_, fun x hx => ?_, fun i hi v hv => ?_⟩
  · rcases List.mem_append.mp hx with h | h
    · exact H.wid x h
    · rw [List.mem_singleton.mp h]; exact hr
  · rcases List.mem_append.mp hx with h | h
    · exact H.ok2 x h
    · rw [List.mem_singleton.mp h]; exact h2
  · by_cases h : i < R.length
    · rw [getD_app1 h] at hv; exact H.ok1 i hi v hv
    · rw [getD_app2 (by omega)] at hv
      by_cases h3 : i - R.length = 0
      · rw [h3] at hv
        exact h1 (by omega) v hv
      · have : ([r] : List (List Nm)).getD (i - R.length) [] = [] := by
          rw [List.getD_eq_getElem?_getD, List.getElem?_eq_none (by rw [List.length_singleton]; omega)]
          rfl
        rw [this] at hv
        cases hv
section
variable {T : List Fn} {I : Ix} {n : Nat} {row : List Int}
theorem sum_lc (hN : T[I.Lnumeric]? = some (F_Lnumeric I)) {R : List (List Nm)} {r0 r1 : List Nm} {R' : List (List Nm)} (eR : R = r0 :: r1 :: R') {w : Nat} (h0 : r0.length = w) (h1 : r1.length = w) (hw : w ≤ 100) {s0 s1 s2 s4 s6 : Sl} :
    evE (evF T (n + 1)) (e_Ldrawn_rows_0 I) [s0, s1, s2, .dat (dn w), s4, .own (R.map nt), s6, .un] = .ok (.lst (((List.range w).map fun k => (r0.getD k (.i 0)).sum (r1.getD k (.i 0))).map Nm.d)) [s0, s1, s2, .dat (dn w), s4, .own (R.map nt), s6, .un] := by
  rw [List.map_map]
  refine lc_map (List.range w) dn _ (by simp! [dn, rng1_n (le_size hw)]) rfl (le_size (by rw [List.length_range]; exact hw)) (fun k hk => ⟨_, rfl, rfl, ?_⟩) rfl
  have hk := List.mem_range.mp hk
  have i0 : D.idx (.lst (R.map nt)) (.int 0) = some (nt r0) := by rw [eR]; exact idx0l
  have i1 : D.idx (.lst (R.map nt)) (.int 1) = some (nt r1) := by rw [eR]; exact idx1l
  have j : ∀ r : List Nm, k < r.length → D.idx (nt r) (.int (k : Int)) = some (r.getD k (.i 0)).d := fun r h => by
    refine idx_tup ?_
    rw [List.getElem?_map, List.getD_eq_getElem?_getD, List.getElem?_eq_getElem h]
    rfl
  have j0 := j r0 (by omega)
  have j1 := j r1 (by omega)
  have n0 : evF T (n + 1) I.Lnumeric [.d (r0.getD k (.i 0)).d] = .ok (.bl (r0.getD k (.i 0)).isI) [] := numeric_nm (n := n) hN arD
  have n1 : evF T (n + 1) I.Lnumeric [.d (r1.getD k (.i 0)).d] = .ok (.bl (r1.getD k (.i 0)).isI) [] := numeric_nm (n := n) hN arD
  show evE _ _ _ = .ok ((r0.getD k (.i 0)).sum (r1.getD k (.i 0))).d _
  generalize r0.getD k (.i 0) = u at *
  generalize r1.getD k (.i 0) = v at *
  cases u <;> cases v <;> (simp only [Nm.d, Nm.isI] at j0 j1 n0 n1; simp! [dn, i0, i1, j0, j1, n0, n1, Nm.d, Function.comp, Nm.sum])
theorem drawn_rows_ok (H : HDraw T I) (hN : T[I.Lnumeric]? = some (F_Lnumeric I)) (hd : T[I.Ldrawn_number]? = some (F_Ldrawn_number I)) (hR : T[I.Ldrawn_rows]? = some (F_Ldrawn_rows I)) (hne : row ≠ []) (s : Int) (m w B : Nat) (h0 : 0 ≤ s) (hB : B ≤ 1000) (hm : m ≤ 50) (hw : w ≤ 50) {a : Ar} (ha : ArB a (rowD row)) (k : Nat) :
    ∃ (R : List (List Nm)) (s' : Int), R.length = m ∧ RowsI R w B ∧ 0 ≤ s' ∧ evF T (n + 4) I.Ldrawn_rows [a, .o k [.int s], .d (.int (m : Int)), .d (.int (w : Int)), .d (.int (B : Int))] = .ok (rt R) [[.int s']] := by
  have he : entry (F_Ldrawn_rows I).mos [a, .o k [.int s], .d (.int (m : Int)), .d (.int (w : Int)), .d (.int (B : Int))] = some [.bor (rowD row), .io [.int s], .dat (dn m), .dat (dn w), .dat (dn B)] := by
    show entry [.b, .o, .d, .d, .d] _ = _
    rw [entry_b ha]
    rfl
  obtain ⟨ρ', el, R, s', s6, rfl, f6, h0', hl, hI⟩ := for_go (tg := .nm 6) (body := evSs (evF T (n + 3)) (b_Ldrawn_rows_0 I)) dn (List.range m) (fun j ρ => ∃ (R : List (List Nm)) (s' : Int) (s6 : Sl), ρ = [.bor (rowD row), .io [.int s'], .dat (dn m), .dat (dn w), .dat (dn B), .own (R.map nt), s6, .un] ∧ s6.free = true ∧ 0 ≤ s' ∧ R.length = j ∧ RowsI R w B) (ρ := [.bor (rowD row), .io [.int s], .dat (dn m), .dat (dn w), .dat (dn B), .own [], .un, .un]) ⟨[], s, .un, rfl, rfl, h0, rfl, ⟨fun r h => (nomatch h), fun r h => (nomatch h), fun i hi v hv => (nomatch hv)⟩⟩ (by
    rintro j a ρ ha ⟨R, s', s6, rfl, f6, h0', hl, hI⟩
    have hj : j < m := by
      have := (List.getElem?_eq_some_iff.mp ha).1
      rwa [List.length_range] at this
    have ea : a = j := by
      rw [List.getElem?_range hj] at ha
      exact (Option.some.inj ha).symm
    subst ea
    have lz : R.length < sizeLine := by
      have : (100 : Nat) < sizeLine := by decide
      omega
    have eapp : ∀ r : List Nm, (R.map nt) ++ [.tup (r.map Nm.d)] = (R ++ [r]).map nt := fun r => by rw [List.map_append]; rfl
    have lm : (R.map nt).length = R.length := List.length_map _
    by_cases hc : a ≤ 1
    · obtain ⟨r, s2, hr, hok, h2, e⟩ := drawn_row_lc (n := n) H hd hne s' B w h0' hB (by omega) (s2 := .dat (dn m)) (s5 := .own (R.map nt)) (s6 := .dat (dn a)) rfl
      have d1 : decide ((1 : Int) < (a : Int)) = false := decide_eq_false (by omega)
      refine ⟨.nx, _, ?_, .inl rfl, R ++ [r], s2, .dat (dn a), rfl, rfl, h2, by rw [List.length_append, hl]; rfl, hI.add hr (fun v hv => (hok v hv).mono (by omega)) fun _ => hok⟩
      simp only [dn] at e
      simp! [b_Ldrawn_rows_0, dn, f6, d1, e, lm, if_pos lz, eapp]
    · obtain ⟨t, t0, t1, et⟩ := Ltake_ok (n := n + 1) H hne s' 5 h0' (by omega) (a := .b 0 (rowD row)) arB 1
      have d1 : decide ((1 : Int) < (a : Int)) = true := decide_eq_true (by omega)
      by_cases ht : t = 0
      · obtain ⟨r0, r1, R', eR⟩ : ∃ r0 r1 R', R = r0 :: r1 :: R' := by
          match hR : R with
          | [] => simp at hl; omega
          | [x] => simp at hl; omega
          | x :: y :: z => exact ⟨x, y, z, rfl⟩
        have w0 := hI.wid r0 (by rw [eR]; simp)
        have w1 := hI.wid r1 (by rw [eR]; simp)
        have o0 : ∀ v ∈ r0, v.ok B := fun v hv => hI.ok1 0 (by omega) v (by rw [eR]; exact hv)
        have o1 : ∀ v ∈ r1, v.ok B := fun v hv => hI.ok1 1 (by omega) v (by rw [eR]; exact hv)
        have e := sum_lc (n := n + 2) hN eR w0 w1 (by omega) (s0 := .bor (rowD row)) (s1 := .io [.int (s' + 1)]) (s2 := .dat (dn m)) (s4 := .dat (dn B)) (s6 := .dat (dn a))
        have ht' : (t == 0) = true := by rw [ht]; rfl
        refine ⟨.nx, _, ?_, .inl rfl, R ++ [(List.range w).map fun k => (r0.getD k (.i 0)).sum (r1.getD k (.i 0))], s' + 1, .dat (dn a), rfl, rfl, by omega, by rw [List.length_append, hl]; rfl, hI.add (by rw [List.length_map, List.length_range]) (fun v hv => ?_) fun h => absurd h (by omega)⟩
        · simp only [dn] at e
          simp! [b_Ldrawn_rows_0, dn, f6, d1, ap_bo01, et, ht', e, lm, if_pos lz, eapp]
        · obtain ⟨k, hk, rfl⟩ := List.mem_map.mp hv
          have hk := List.mem_range.mp hk
          exact Nm.sum_ok (o0 _ (getD_mem (by omega))) (o1 _ (getD_mem (by omega)))
      · obtain ⟨r, s2, hr, hok, h2, e⟩ := drawn_row_lc (n := n) H hd hne (s' + 1) B w (by omega) hB (by omega) (s2 := .dat (dn m)) (s5 := .own (R.map nt)) (s6 := .dat (dn a)) rfl
        have ht' : (t == 0) = false := by rw [beq_eq_false_iff_ne]; exact ht
        refine ⟨.nx, _, ?_, .inl rfl, R ++ [r], s2, .dat (dn a), rfl, rfl, h2, by rw [List.length_append, hl]; rfl, hI.add hr (fun v hv => (hok v hv).mono (by omega)) fun _ => hok⟩
        simp only [dn] at e
        simp! [b_Ldrawn_rows_0, dn, f6, d1, ap_bo01, et, ht', e, lm, if_pos lz, eapp])
  rw [List.length_range] at hl
  refine ⟨R, s', hl, hI, h0', ?_⟩
  have es : evS (evF T (n + 3)) (s_Ldrawn_rows_0 I) [.bor (rowD row), .io [.int s], .dat (dn m), .dat (dn w), .dat (dn B), .own [], .un, .un] = .ok .nx [.bor (rowD row), .io [.int s'], .dat (dn m), .dat (dn w), .dat (dn B), .own (R.map nt), s6, .un] := for_st3 (by simp! [dn, rng1_n (le_size (show m ≤ 100 by omega))]) rfl el rfl
  rw [run_eq hR he]
  simp! [F_Ldrawn_rows, es, rt]
end
end Sm
end

section
set_option linter.all false
set_option autoImplicit false
set_option maxRecDepth 100000
/-! L7: loosened values; the numbers drawn as rationals; bounds. -/
namespace Sm
open PySem DetQ
local macro_rules | `(tactic| simp! [$ls,*]) => `(tactic| simp only [evSs, evS, evE, evEs, as_nil, as_io, as_scr, as_bor, as_var, as_non, as_bl, as_int, as_str, as_tup, as_lst, as_bin, as_neg, as_not, as_cmp, as_and, as_or, as_ife, as_idx, as_slc, as_slcS, as_call, as_cal, as_isi, as_lc, hof_bor, hof_var, hof_non, hof_bl, hof_int, hof_str, hof_tup, hof_lst, hof_bin, hof_neg, hof_not, hof_cmp, hof_and, hof_or, hof_ife, hof_idx, hof_slc, hof_slcS, hof_call, hof_cal, hof_isi, hof_lc, evPof, evIt, Res.bind, rdB, rdE, rdO, rdS, Hd.look, opt, Sl.see, List.getElem?_cons_zero, List.getElem?_cons_succ, List.getD_cons_zero, List.getD_cons_succ, len_tup, len_lst, bi_int, bi_intb, bi_abs, bi_tupl, bi_tupt, bi_lstl, bi_lstt, bi_gcd, Cop.ev, Bop.ev, add_ii, add_tt, add_ll, sub_ii, neg_ii, D.ltI, isN_n, isN_i, isN_t, isN_l, isN_b, items_t, items_l, eqv_int, truthM, D.truth, nx, put_free, free_un, free_dat, free_own, free_bor, chg, List.set, asListO, It.locks, Ex.lock, Sl.lock, Sl.unlock, lockE, unlockE, wipeE, backE, fillA, callM, ioBack, iosOf, Option.map_some, if_true, List.length_cons, List.length_nil, List.replicate, List.cons_append, List.nil_append, List.append_nil, Nat.zero_add, List.any_cons, List.any_nil, ty_int_obj, ty_bool_obj, ty_str_obj, ty_list_obj, ty_tuple_obj, ty_cls_non, ty_cls_bl, ty_cls_int, ty_cls_str, ty_cls_tup, ty_cls_lst, ty_cls_obj, ty_int_non, ty_int_bl, ty_int_int, ty_int_str, ty_int_tup, ty_int_lst, ty_bool_non, ty_bool_bl, ty_bool_int, ty_bool_str, ty_bool_tup, ty_bool_lst, ty_str_non, ty_str_bl, ty_str_int, ty_str_str, ty_str_tup, ty_str_lst, ty_list_non, ty_list_bl, ty_list_int, ty_list_str, ty_list_tup, ty_list_lst, ty_tuple_non, ty_tuple_bl, ty_tuple_int, ty_tuple_str, ty_tuple_tup, ty_tuple_lst, Bool.or_false, Bool.false_or, Bool.not_true, Bool.not_false, Bool.true_or, Bool.or_true, ap_nil, ap1, ap2, ap3, ap4, ap_b, ap_bb, ap_bd, ap_db, ap_bdd, ap_dbd, ap_dbdd, ap_bbd, ap_ddbd, ap_dbb, ap_ddb, ap_bdb, ap_bddb, ap_bddbd, ap_s, ap_do, ap_dodd, ap_doddd, idx0l, idx0t, idx1l, idx1t, Nat.reduceAdd, Nat.reduceSub, Nat.reduceLeDiff, List.drop, Tg.put, intP, frzE, beq_self_eq_true, size1, size2, size0, $ls,*])
def pk (t : Nat) (ds : List D) : D := if t % 2 = 0 then .lst ds else .tup ds
def lo (t : Nat) : Nm → D
  | .i a => .int a
  | .p a b => pk t [.int a, .int b]
def lor (t : Nat) (r : List Nm) : D := pk t (r.map (lo (t + 1)))
def lors (t : Nat) (R : List (List Nm)) : D := pk t (R.map (lor (t + 1)))
theorem pk_or (t : Nat) (ds : List D) : pk t ds = .tup ds ∨ pk t ds = .lst ds := by
  unfold pk
  split
  · exact .inr rfl
  · exact .inl rfl
theorem lo_rd {t : Nat} {B : Nat} {v : Nm} (h : v.ok B) : RdN 3 (lo t v) v.q := by
  cases v with
  | i a => exact .int a
  | p a b =>
    have := h.2
    show RdN 3 (pk t [.int a, .int b]) _
    rcases pk_or t [.int a, .int b] with e | e <;> rw [e]
    · exact .tup a b (by omega) (by omega)
    · exact .lst a b (by omega) (by omega)
theorem nm_rd {B : Nat} {v : Nm} (h : v.ok B) : RdN 3 v.d v.q := by
  cases v with
  | i a => exact .int a
  | p a b =>
    have := h.2
    exact .tup a b (by omega) (by omega)
theorem row_rd {r : List Nm} {k : Nat} {e : Nm → D} {x : D} (h : ∀ v ∈ r, RdN k (e v) v.q) (hx : x = .tup (r.map e) ∨ x = .lst (r.map e)) : RdV k x (r.map Nm.q) := by
  have e1 : (r.map fun v => (e v, v.q)).map Prod.fst = r.map e := by rw [List.map_map]; rfl
  have e2 : (r.map fun v => (e v, v.q)).map Prod.snd = r.map Nm.q := by rw [List.map_map]; rfl
  refine ⟨r.map fun v => (e v, v.q), by rw [e1]; exact hx, e2.symm, fun p hp => ?_⟩
  obtain ⟨v, hv, rfl⟩ := List.mem_map.mp hp
  exact h v hv
theorem rows_rd {R : List (List Nm)} {k : Nat} {e : List Nm → D} {x : D} (h : ∀ r ∈ R, RdV k (e r) (r.map Nm.q)) (hx : x = .tup (R.map e) ∨ x = .lst (R.map e)) : RdR k x (R.map fun r => r.map Nm.q) := by
  have e1 : (R.map fun r => (e r, r.map Nm.q)).map Prod.fst = R.map e := by rw [List.map_map]; rfl
  have e2 : (R.map fun r => (e r, r.map Nm.q)).map Prod.snd = R.map fun r => r.map Nm.q := by rw [List.map_map]; rfl
  refine ⟨R.map fun r => (e r, r.map Nm.q), by rw [e1]; exact hx, e2.symm, fun p hp => ?_⟩
  obtain ⟨v, hv, rfl⟩ := List.mem_map.mp hp
  exact h v hv
theorem RdN.up {k j : Nat} (h : k ≤ j) {d : D} {q : Rat} (r : RdN k d q) : RdN j d q := by
  have := Nat.pow_le_pow_right (show 0 < 2 by decide) h
  cases r with
  | int a => exact .int a
  | tup a b h1 h2 => exact .tup a b h1 (by omega)
  | lst a b h1 h2 => exact .lst a b h1 (by omega)
theorem RdV.up {k j : Nat} {d : D} {v : List Rat} (r : RdV k d v) (h : k ≤ j) : RdV j d v := by
  obtain ⟨l, h1, h2, h3⟩ := r
  exact ⟨l, h1, h2, fun p hp => (h3 p hp).up h⟩
theorem RdR.up {k j : Nat} {d : D} {v : List (List Rat)} (r : RdR k d v) (h : k ≤ j) : RdR j d v := by
  obtain ⟨l, h1, h2, h3⟩ := r
  exact ⟨l, h1, h2, fun p hp => (h3 p hp).up h⟩
theorem lors_rd {R : List (List Nm)} {t B : Nat} (h : ∀ r ∈ R, ∀ v ∈ r, v.ok B) : RdR 3 (lors t R) (R.map fun r => r.map Nm.q) :=
  rows_rd (fun r hr => row_rd (fun v hv => lo_rd (h r hr v hv)) (pk_or _ _)) (pk_or _ _)
theorem rt_rd {R : List (List Nm)} {B : Nat} (h : ∀ r ∈ R, ∀ v ∈ r, v.ok B) : RdR 3 (rt R) (R.map fun r => r.map Nm.q) :=
  rows_rd (fun r hr => row_rd (fun v hv => nm_rd (h r hr v hv)) (.inl rfl)) (.inl rfl)
theorem even_int (t : Nat) : ((t : Int).fmod 2 == 0) = decide (t % 2 = 0) := by
  rw [Int.fmod_eq_emod_of_nonneg _ (by decide)]
  by_cases h : t % 2 = 0
  · rw [decide_eq_true h]
    have : (t : Int) % 2 = 0 := by omega
    rw [this]; rfl
  · rw [decide_eq_false h, beq_eq_false_iff_ne]
    omega
theorem ti_md {B : List (List Rat)} {w : Nat} (h : B.length ≤ 100) (hw : ∀ v ∈ B, v.length = w) (hw2 : w ≤ 100) : TI 3 (md B) := by
  refine ⟨le_size (by rw [List.length_map]; exact h), fun d hd => ?_⟩
  obtain ⟨v, hv, rfl⟩ := List.mem_map.mp hd
  refine ⟨le_size (by rw [List.length_map, hw v hv]; exact hw2), fun d hd => ?_⟩
  obtain ⟨q, hq, rfl⟩ := List.mem_map.mp hd
  refine ⟨le_size (by simp), fun d hd => ?_⟩
  rcases List.mem_cons.mp hd with rfl | hd
  · trivial
  · rw [List.mem_singleton.mp hd]; trivial
theorem md_rd {B : List (List Rat)} {k : Nat} (h : ∀ v ∈ B, ∀ q ∈ v, q.den < 2 ^ k) : RdR k (md B) B := by
  have e1 : (B.map fun v => (vd v, v)).map Prod.fst = B.map vd := by rw [List.map_map]; rfl
  have e2 : (B.map fun v => (vd v, v)).map Prod.snd = B := by rw [List.map_map]; exact List.map_id' B
  refine ⟨B.map fun v => (vd v, v), .inl (by rw [e1]; rfl), e2.symm, fun p hp => ?_⟩
  obtain ⟨v, hv, rfl⟩ := List.mem_map.mp hp
  have e3 : (v.map fun q => (fr q, q)).map Prod.fst = v.map fr := by rw [List.map_map]; rfl
  have e4 : (v.map fun q => (fr q, q)).map Prod.snd = v := by rw [List.map_map]; exact List.map_id' v
  refine ⟨v.map fun q => (fr q, q), .inl (by rw [e3]; rfl), e4.symm, fun p hp => ?_⟩
  obtain ⟨q, hq, rfl⟩ := List.mem_map.mp hp
  have := RdN.tup (k := k) q.num (q.den : Int) (by have := q.den_pos; omega) (by rw [Int.natAbs_natCast]; exact h v hv q hq)
  rw [Rat.num_divInt_den] at this
  exact this
section
variable {T : List Fn} {I : Ix} {n : Nat}
theorem loose_int (H : T[I.Lloose]? = some (F_Lloose I)) (a : Int) (t : Nat) : evF T (n + 1) I.Lloose [.d (.int a), .d (.int (t : Int))] = .ok (.int a) [] := by
  rw [run_eq H (show entry (F_Lloose I).mos _ = some [.dat (.int a), .dat (.int (t : Int))] from rfl)]
  simp! [F_Lloose]
theorem loose_tup {α : Type} (H : T[I.Lloose]? = some (F_Lloose I)) (l : List α) (d g : α → D) (t : Nat) (hs : l.length ≤ sizeLine) (h : ∀ a ∈ l, evF T n I.Lloose [.d (d a), .d (.int ((t + 1 : Nat) : Int))] = .ok (g a) []) : evF T (n + 1) I.Lloose [.d (.tup (l.map d)), .d (.int (t : Int))] = .ok (pk t (l.map g)) [] := by
  rw [run_eq H (show entry (F_Lloose I).mos _ = some [.dat (.tup (l.map d)), .dat (.int (t : Int))] from rfl)]
  have lc : evE (evF T n) (e_Lloose_0 I) [.dat (.tup (l.map d)), .dat (.int (t : Int)), .un, .un] = .ok (.lst (l.map g)) [.dat (.tup (l.map d)), .dat (.int (t : Int)), .un, .un] := by
    refine lc_map l d g (by simp! []) rfl hs (fun a ha => ⟨_, rfl, rfl, ?_⟩) rfl
    have := h a ha
    have e : (t : Int) + 1 = ((t + 1 : Nat) : Int) := rfl
    simp! [e, this]
  have m : D.mod (.int (t : Int)) (.int 2) = some (.int ((t : Int).fmod 2)) := mod_pos (by decide)
  by_cases ht : t % 2 = 0
  · have h2 : decide (t % 2 = 0) = true := decide_eq_true ht
    simp! [F_Lloose, lc, m, even_int, h2, pk, if_pos ht]
  · have h2 : decide (t % 2 = 0) = false := decide_eq_false ht
    simp! [F_Lloose, lc, m, even_int, h2, pk, if_neg ht]
theorem loose_num (H : T[I.Lloose]? = some (F_Lloose I)) (v : Nm) (t : Nat) : evF T (n + 2) I.Lloose [.d v.d, .d (.int (t : Int))] = .ok (lo t v) [] := by
  cases v with
  | i a => exact loose_int H a t
  | p a b => exact loose_tup (n := n + 1) H [a, b] D.int D.int t (le_size (by simp)) fun x _ => loose_int H x _
theorem loose_row (H : T[I.Lloose]? = some (F_Lloose I)) (r : List Nm) (t : Nat) (hs : r.length ≤ sizeLine) : evF T (n + 3) I.Lloose [.d (nt r), .d (.int (t : Int))] = .ok (lor t r) [] :=
  loose_tup (n := n + 2) H r Nm.d (lo (t + 1)) t hs fun v _ => loose_num H v _
theorem loose_rows (H : T[I.Lloose]? = some (F_Lloose I)) (R : List (List Nm)) (t : Nat) (hs : R.length ≤ sizeLine) (hr : ∀ r ∈ R, r.length ≤ sizeLine) : evF T (n + 4) I.Lloose [.d (rt R), .d (.int (t : Int))] = .ok (lors t R) [] :=
  loose_tup (n := n + 3) H R nt (lor (t + 1)) t hs fun r h => loose_row H r _ (hr r h)
end
/-! bounds of what is drawn -/
theorem den_divInt_dvd {a b : Int} (hb : b ≠ 0) : (Rat.divInt a b).den ∣ b.natAbs := by
  rw [Rat.den_divInt, if_neg hb]
  exact Nat.div_dvd_of_dvd (Nat.gcd_dvd_left b.natAbs a.natAbs)
theorem nm_den {B : Nat} {v : Nm} (h : v.ok B) : v.q.den ∣ 12 ∧ v.q.den ≤ 4 ∧ v.q.num.natAbs ≤ B := by
  cases v with
  | i a => exact ⟨⟨12, rfl⟩, by show 1 ≤ 4; decide, h⟩
  | p a b =>
    obtain ⟨h1, h2, h3⟩ := h
    have hb : b ≠ 0 := by omega
    have d := den_divInt_dvd (a := a) hb
    obtain ⟨l1, l2⟩ := divInt_le (a := a) hb
    refine ⟨Nat.dvd_trans d ?_, by show (Rat.divInt a b).den ≤ 4; omega, Nat.le_trans l1 h1⟩
    have : b.natAbs = 2 ∨ b.natAbs = 3 ∨ b.natAbs = 4 := by omega
    rcases this with e | e | e <;> rw [e] <;> decide
theorem wh_bound {v : List Rat} {N B : Nat} (hN : 0 < N) (hd : ∀ q ∈ v, q.den ∣ N) (hB : ∀ q ∈ v, q.num.natAbs ≤ B) : ∀ x ∈ wh v, x.natAbs ≤ B * N := fun x hx => by
  obtain ⟨q, hq, rfl⟩ := List.mem_map.mp hx
  have hL : lcmR v ≤ N := Nat.le_of_dvd hN (lcm_dvd v 1 (Nat.one_dvd _) hd)
  have : lcmR v / q.den ≤ N := Nat.le_trans (Nat.div_le_self _ _) hL
  rw [Int.natAbs_mul, Int.natAbs_natCast]
  exact Nat.mul_le_mul (hB q hq) this
theorem RO.bot_le {m w K k : Nat} {Z : List (List Int)} {s p : Nat → Nat} {W : Mx} {d : Rat} {R : List (List Int)} {bot : Int} {N : Nat} (O : RO m w w K k (mx Z) s p W d R bot) (hZ : ∀ r ∈ Z, ∀ x ∈ r, x.natAbs ≤ N) : bot.natAbs ≤ fac k * N ^ k := by
  have hb : IsB (fac k * N ^ k) d := by
    rw [← O.gj.dt]
    refine det_bound fun i j _ _ => ⟨ent Z (s i) (p j), rfl, ?_⟩
    unfold ent
    rw [List.getD_eq_getElem?_getD]
    cases h : (Z.getD (s i) [])[p j]? with
    | none => exact Nat.zero_le _
    | some x =>
      have hx := List.mem_of_getElem? h
      rw [List.getD_eq_getElem?_getD] at hx
      cases h2 : Z[s i]? with
      | none => rw [h2] at hx; cases hx
      | some r =>
        rw [h2] at hx
        exact hZ r (List.mem_of_getElem? h2) x hx
  obtain ⟨z, e, hz⟩ := hb
  rcases O.sg with h | h
  · rw [e] at h
    have : bot = z := by exact_mod_cast h
    rw [this]; exact hz
  · rw [e, ← Rat.intCast_neg] at h
    have : bot = -z := by exact_mod_cast h
    rw [this, Int.natAbs_neg]; exact hz
/-- the rows handed back, taken as given -/
theorem RO.again {m w K k : Nat} {A : Mx} {s p : Nat → Nat} {W : Mx} {d : Rat} {R : List (List Int)} {bot : Int} (O : RO m w w K k A s p W d R bot) : ∀ v ∈ bR R bot, (∀ q ∈ v, q.den ∣ bot.natAbs) ∧ ∀ x ∈ wh v, x.natAbs < 2 ^ Bk K m := fun v hv => by
  have hb : bot ≠ 0 := by have := O.pos; omega
  obtain ⟨r, hr, rfl⟩ := List.mem_map.mp hv
  have hd : ∀ q ∈ r.map fun x => Rat.divInt x bot, q.den ∣ bot.natAbs := fun q hq => by
    obtain ⟨x, hx, rfl⟩ := List.mem_map.mp hq
    exact den_divInt_dvd hb
  refine ⟨hd, fun x hx => ?_⟩
  obtain ⟨q, hq, rfl⟩ := List.mem_map.mp hx
  have hq2 := hq
  obtain ⟨y, hy, rfl⟩ := List.mem_map.mp hq
  obtain ⟨t, ht⟩ := lcm_dvd _ 1 (Nat.one_dvd _) hd
  have t0 : t ≠ 0 := fun z => by rw [z, Nat.mul_zero] at ht; omega
  have e1 := mul_den _ (den_lcm hq2)
  generalize hX : (Rat.divInt y bot).num * ((lcmR (r.map fun x => Rat.divInt x bot) / (Rat.divInt y bot).den : Nat) : Int) = X at *
  have e2 : (bot : Rat) = ((lcmR (r.map fun x => Rat.divInt x bot) * t : Nat) : Rat) := by
    have : bot = ((lcmR (r.map fun x => Rat.divInt x bot) * t : Nat) : Int) := by
      have := O.pos
      unfold lcmR
      rw [← ht]
      omega
    exact_mod_cast congrArg (fun z : Int => (z : Rat)) this
  have hb' : (bot : Rat) ≠ 0 := fun e => hb (by exact_mod_cast e)
  have e3 : (y : Rat) = (X : Rat) * (t : Rat) := by
    rw [e1, Rat.divInt_eq_div]
    have e4 : ((lcmR (r.map fun x => Rat.divInt x bot) * t : Nat) : Rat) = (lcmR (r.map fun x => Rat.divInt x bot) : Rat) * (t : Rat) := by exact_mod_cast rfl
    rw [e4] at e2
    grind
  have e5 : y = X * (t : Int) := by exact_mod_cast e3
  have hy2 := O.bd r hr y hy
  rw [e5, Int.natAbs_mul, Int.natAbs_natCast] at hy2
  exact Nat.lt_of_le_of_lt (Nat.le_mul_of_pos_right _ (by omega)) hy2
end Sm
end

section
set_option linter.all false
set_option autoImplicit false
set_option maxRecDepth 100000
/-! K2: kernel, solved of the program. -/
namespace Sm
open PySem DetQ
local macro_rules | `(tactic| simp! [$ls,*]) => `(tactic| simp only [evSs, evS, evE, evEs, as_nil, as_io, as_scr, as_bor, as_var, as_non, as_bl, as_int, as_str, as_tup, as_lst, as_bin, as_neg, as_not, as_cmp, as_and, as_or, as_ife, as_idx, as_slc, as_slcS, as_call, as_cal, as_isi, as_lc, hof_bor, hof_var, hof_non, hof_bl, hof_int, hof_str, hof_tup, hof_lst, hof_bin, hof_neg, hof_not, hof_cmp, hof_and, hof_or, hof_ife, hof_idx, hof_slc, hof_slcS, hof_call, hof_cal, hof_isi, hof_lc, evPof, evIt, Res.bind, rdB, rdE, rdO, rdS, Hd.look, opt, Sl.see, List.getElem?_cons_zero, List.getElem?_cons_succ, List.getD_cons_zero, List.getD_cons_succ, len_tup, len_lst, bi_int, bi_intb, bi_abs, bi_tupl, bi_tupt, bi_lstl, bi_lstt, bi_gcd, Cop.ev, Bop.ev, add_ii, add_tt, add_ll, sub_ii, neg_ii, D.ltI, isN_n, isN_i, isN_t, isN_l, isN_b, items_t, items_l, eqv_int, truthM, D.truth, nx, put_free, free_un, free_dat, free_own, free_bor, chg, List.set, asListO, It.locks, Ex.lock, Sl.lock, Sl.unlock, lockE, unlockE, wipeE, backE, fillA, callM, ioBack, iosOf, Option.map_some, if_true, List.length_cons, List.length_nil, List.replicate, List.cons_append, List.nil_append, List.append_nil, Nat.zero_add, List.any_cons, List.any_nil, ty_int_obj, ty_bool_obj, ty_str_obj, ty_list_obj, ty_tuple_obj, ty_cls_non, ty_cls_bl, ty_cls_int, ty_cls_str, ty_cls_tup, ty_cls_lst, ty_cls_obj, ty_int_non, ty_int_bl, ty_int_int, ty_int_str, ty_int_tup, ty_int_lst, ty_bool_non, ty_bool_bl, ty_bool_int, ty_bool_str, ty_bool_tup, ty_bool_lst, ty_str_non, ty_str_bl, ty_str_int, ty_str_str, ty_str_tup, ty_str_lst, ty_list_non, ty_list_bl, ty_list_int, ty_list_str, ty_list_tup, ty_list_lst, ty_tuple_non, ty_tuple_bl, ty_tuple_int, ty_tuple_str, ty_tuple_tup, ty_tuple_lst, Bool.or_false, Bool.false_or, Bool.not_true, Bool.not_false, Bool.true_or, Bool.or_true, ap_nil, ap1, ap2, ap3, ap4, ap_b, ap_bb, ap_bd, ap_db, ap_bdd, ap_dbd, ap_dbdd, ap_bbd, ap_ddbd, ap_dbb, ap_ddb, ap_bdb, ap_bddb, ap_bddbd, ap_s, ap_do, ap_dodd, ap_doddd, idx0l, idx0t, idx1l, idx1t, Nat.reduceAdd, Nat.reduceSub, Nat.reduceLeDiff, List.drop, Tg.put, intP, frzE, beq_self_eq_true, size1, size2, size0, $ls,*])
theorem qx_neg {R : List (List Int)} {bot : Int} {i c : Nat} : Rat.divInt (-(ent R i c)) bot = -(qx (bR R bot) i c) := by
  rw [qx_bR, Rat.divInt_eq_div, Rat.intCast_neg]
  grind
theorem kz_kv {w k : Nat} {p : Nat → Nat} {R : List (List Int)} {bot : Int} {pl : Nat} (hb : bot ≠ 0) (hl : R.length = k) : (kz w k p R bot pl).map (fun x => Rat.divInt x bot) = kv w p (bR R bot) pl := by
  have hb' : (bot : Rat) ≠ 0 := fun e => hb (by exact_mod_cast e)
  unfold kz kv
  rw [setsP_map, bR_len, hl, List.map_set, List.map_replicate]
  have e0 : Rat.divInt 0 bot = 0 := by rw [Rat.divInt_eq_div, show ((0 : Int) : Rat) = 0 from rfl, Rat.div_def, Rat.zero_mul]
  have e1 : Rat.divInt bot bot = 1 := by rw [Rat.divInt_eq_div]; grind
  rw [e0, e1]
  exact setsP_congr (fun _ _ => rfl) fun i _ => qx_neg
theorem kv_len {w : Nat} {p : Nat → Nat} {B : List (List Rat)} {pl : Nat} : (kv w p B pl).length = w := by
  unfold kv
  rw [setsP_len, List.length_set, List.length_replicate]
theorem kz_len {w k : Nat} {p : Nat → Nat} {R : List (List Int)} {bot : Int} {pl : Nat} : (kz w k p R bot pl).length = w := by
  unfold kz
  rw [setsP_len, List.length_set, List.length_replicate]
theorem kers_len {w : Nat} {p : Nat → Nat} {B : List (List Rat)} : (kers w p B).length ≤ w := by
  unfold kers
  rw [List.length_map]
  refine Nat.le_trans (List.length_filter_le _ _) ?_
  rw [List.length_range]
  exact Nat.le_refl _
theorem kers_wid {w : Nat} {p : Nat → Nat} {B : List (List Rat)} : ∀ v ∈ kers w p B, v.length = w := fun v hv => by
  obtain ⟨c, _, rfl⟩ := List.mem_map.mp hv
  exact kv_len
def aug (M : List (List Rat)) (b : List Rat) : List (List Rat) := (M.zip b).map fun p => p.1 ++ [p.2]
theorem zipD_vd : ∀ (M : List (List Rat)) (b : List Rat), zipD (M.map vd) (b.map fr) = (M.zip b).map fun p => .tup [vd p.1, fr p.2]
  | [], b => by cases b <;> rfl
  | v :: M, [] => rfl
  | v :: M, q :: b => by
    show D.tup [vd v, fr q] :: zipD (M.map vd) (b.map fr) = _
    rw [zipD_vd M b]
    rfl
section
variable {T : List Fn} {I : Ix} {n : Nat}
theorem kernel_ok (H : HKer T I) {M : List (List Rat)} {w K N kk : Nat} (O : Okr M w K N) (hw8 : w ≤ 8) {x : D} (hx : RdR kk x M) (hkk : kk ≤ 9000) {a : Ar} (ha : ArB a x) :
    ∃ (R : List (List Int)) (bot : Int) (k : Nat) (s p : Nat → Nat) (W : Mx) (d : Rat), evF T (n + 8) I.kernel [a] = .ok (md (kers w p (bR R bot))) [] ∧ RO M.length w w K k (mx (M.map wh)) s p W d R bot := by
  have r := rows_needed_ok (n := n) (y := .int 1) H.toHChk hx O.wid hkk O.m1 O.m24 O.w1 hw8 (a := .b 0 x) arB
  have h2 := whole_rows_ok (n := n + 5) H.toHEch O.N0 O.N64 (M := M) (fun v hv => ⟨le_size (by have := O.wid v hv; have := O.w8; omega), O.den v hv⟩) (le_size (by have := O.m24; omega)) (x := md M) rfl (a := .d (md M)) arD
  obtain ⟨q1, q2⟩ := wh_rows O
  have hm := O.m24
  obtain ⟨k, s, p, W, d, R, bot, h3, O3⟩ := kernel_of_ok (n := n + 4) H (Z := M.map wh) (m := M.length) (w := w) (K := K) (by rw [List.length_map]) q1 q2 O.K1 O.big (by omega) (by omega) (x := .lst (M.map fun v => zt (wh v))) (e := zt) (fun _ _ => .inl rfl) (by rw [List.map_map]; rfl) (a := .d (.lst (M.map fun v => zt (wh v)))) arD
  refine ⟨R, bot, k, s, p, W, d, ?_, O3⟩
  have bne : bot ≠ 0 := by have := O3.pos; omega
  have lc : ∀ (s1 : Sl), evE (evF T (n + 7)) (e_kernel_0 I) [.bor x, s1, .dat (wl (((List.range w).filter fun c => !decide (c ∈ (List.range k).map p)).map (kz w k p R bot))), .dat (.int bot), .un] = .ok (.lst ((kers w p (bR R bot)).map vd)) [.bor x, s1, .dat (wl (((List.range w).filter fun c => !decide (c ∈ (List.range k).map p)).map (kz w k p R bot))), .dat (.int bot), .un] := fun s1 => by
    have e1 : (kers w p (bR R bot)).map vd = ((List.range w).filter fun c => !decide (c ∈ (List.range k).map p)).map (fun c => vd ((kz w k p R bot c).map fun x => Rat.divInt x bot)) := by
      unfold kers
      rw [List.map_map, bR_len, O3.len]
      exact List.map_congr_left fun c _ => by show vd (kv w p (bR R bot) c) = _; rw [kz_kv bne O3.len]
    rw [e1]
    refine lc_map ((List.range w).filter fun c => !decide (c ∈ (List.range k).map p)) (fun c => zd (kz w k p R bot c)) _ (by simp! [wl, List.map_map]; rfl) rfl (le_size (Nat.le_trans (List.length_filter_le _ _) (by rw [List.length_range]; omega))) (fun c hc => ⟨_, rfl, rfl, ?_⟩) rfl
    have := fractions_of_ok (n := n + 5) H.toHFo bne O3.bb O.big (le_size (by rw [kz_len (w := w) (k := k) (p := p) (R := R) (bot := bot) (pl := c)]; omega)) (x := zd (kz w k p R bot c)) zd_items (a := .d (zd (kz w k p R bot c))) arD
    simp! [this]
  obtain ⟨v0, M', eM⟩ : ∃ v0 M', M = v0 :: M' := by
    cases hM : M with
    | nil => have := O.m1; rw [hM] at this; simp at this
    | cons v M => exact ⟨v, M, rfl⟩
  have i0 : D.idx (md M) (.int 0) = some (vd v0) := by rw [eM]; exact idx0t
  have l0 : Bi.ev .len [vd v0] = some (.int (w : Int)) := by
    rw [vd, len_tup, List.length_map, O.wid v0 (by rw [eM]; exact List.mem_cons_self)]
  have lc' := lc (.dat (md M))
  have em : ∀ X : List (List Rat), D.tup (X.map vd) = md X := fun _ => rfl
  rw [run_eq H.kernel (entry_b1 ha)]
  simp! [F_kernel, r, h2, i0, l0, h3, lc', em]
theorem nought_ok (H : HKer T I) {w : Nat} (hw : w ≤ 100) : evF T (n + 1) I.nought [.d (.int (w : Int))] = .ok (vd (List.replicate w 0)) [] := by
  have lc : evE (evF T n) (e_nought_0 I) [.dat (dn w), .un] = .ok (.lst ((List.range w).map fun _ => fr 0)) [.dat (dn w), .un] := by
    refine lc_map (List.range w) dn (fun _ => fr 0) (by simp! [dn, rng1_n (le_size hw)]) rfl (le_size (by rw [List.length_range]; exact hw)) (fun k hk => ⟨_, rfl, rfl, ?_⟩) rfl
    simp! []
    rfl
  have e : vd (List.replicate w 0) = .tup ((List.range w).map fun _ => fr 0) := by
    rw [vd, List.map_replicate]
    congr 1
    refine List.ext_getElem (by simp) fun i h1 h2 => by simp
  simp only [dn] at lc
  rw [run_eq H.nought (show entry (F_nought I).mos _ = some [.dat (.int (w : Int))] from rfl), e]
  simp! [F_nought, lc]
theorem beside_ok (H : HKer T I) {M : List (List Rat)} {b : List Rat} (hw : ∀ v ∈ M, v.length ≤ 50) (hm : M.length ≤ 100) {x y : Ar} (hx : ArB x (md M)) (hy : ArB y (vd b)) : evF T (n + 1) I.beside [x, y] = .ok (.lst ((aug M b).map vd)) [] := by
  have lc : evE (evF T n) (e_beside_0 I) [.bor (md M), .bor (vd b), .un, .un] = .ok (.lst ((aug M b).map vd)) [.bor (md M), .bor (vd b), .un, .un] := by
    have e1 : (aug M b).map vd = (M.zip b).map fun p => vd (p.1 ++ [p.2]) := by rw [aug, List.map_map]; rfl
    rw [e1]
    refine lc_map (M.zip b) (fun p => .tup [vd p.1, fr p.2]) _ ?_ rfl (le_size (by rw [List.length_zip]; omega)) (fun p hp => ⟨_, rfl, rfl, ?_⟩) rfl
    · have : zipO (md M) (vd b) = some ((M.zip b).map fun p => .tup [vd p.1, fr p.2]) := by rw [← zipD_vd]; rfl
      simp! [this]
    · have hl := hw p.1 (List.of_mem_zip hp).1
      have e2 : D.add (vd p.1) (.tup [fr p.2]) = some (vd (p.1 ++ [p.2])) := by
        show (if (p.1.map fr).length + [fr p.2].length ≤ sizeLine then some (D.tup (p.1.map fr ++ [fr p.2])) else none) = _
        rw [if_pos (le_size (by rw [List.length_map, List.length_singleton]; omega)), vd, List.map_append]
        rfl
      simp! [e2]
  rw [run_eq H.beside (entry_bb hx hy)]
  simp! [F_beside, lc]
theorem sol_in {n : Nat} (H : HKer T I) {w k K : Nat} {p : Nat → Nat} {R : List (List Int)} {V : List Rat} {bot : Int} {s0 s1 s2 s3 s9 s10 : Sl} (hl : R.length = k) (hw : ∀ r ∈ R, r.length = w + 1) (hp : ∀ i, i < k → p i < w) (hV : V.length = w) (hb : bot ≠ 0) (hbk : bot.natAbs < 2 ^ K) (hK : K ≤ 9000) (f9 : s9.free = true) (f10 : s10.free = true) :
    ∃ t9 t10 : Sl, evS (evF T (n + 1)) (s_solved_0 I) [s0, s1, s2, s3, .dat (dn w), .dat (wl R), .dat (.lst (((List.range k).map p).map dn)), .dat (.int bot), .own (V.map fr), s9, s10] = .ok .nx [s0, s1, s2, s3, .dat (dn w), .dat (wl R), .dat (.lst (((List.range k).map p).map dn)), .dat (.int bot), .own ((setsP k p (fun i => qx (bR R bot) i w) V).map fr), t9, t10] := by
  obtain ⟨ρ', e, t8, t9, rfl, g8, g9⟩ := for_go (tg := .tp (.nm 9) (.tp (.nm 10) .nl)) (body := evSs (evF T (n + 1)) (b_solved_0 I)) (fun i => D.tup [dn (p i), zd (R.getD i [])]) (List.range k) (fun j ρ => ∃ t9 t10 : Sl, ρ = [s0, s1, s2, s3, .dat (dn w), .dat (wl R), .dat (.lst (((List.range k).map p).map dn)), .dat (.int bot), .own ((setsP j p (fun i => qx (bR R bot) i w) V).map fr), t9, t10] ∧ t9.free = true ∧ t10.free = true) (ρ := [s0, s1, s2, s3, .dat (dn w), .dat (wl R), .dat (.lst (((List.range k).map p).map dn)), .dat (.int bot), .own (V.map fr), s9, s10]) ⟨s9, s10, rfl, f9, f10⟩ (by
    rintro j a ρ ha ⟨t8, t9, rfl, g8, g9⟩
    have hj : j < k := by
      have := (List.getElem?_eq_some_iff.mp ha).1
      rwa [List.length_range] at this
    have ea : a = j := by
      rw [List.getElem?_range hj] at ha
      exact (Option.some.inj ha).symm
    subst ea
    refine ⟨.nx, _, ?_, .inl rfl, .dat (dn (p a)), .dat (zd (R.getD a [])), rfl, rfl, rfl⟩
    have i1 := idx_zd (r := R.getD a []) (pl := w) (by rw [hw _ (getD_mem (by omega))]; omega)
    have i2 : L2.ixN w (p a : Int) = some (p a) := ixN_nat (hp a hj)
    have fo := fraction_ok (n := n) H.toHNum (a := (R.getD a []).getD w 0) hb hbk hK
    have el : ((setsP a p (fun i => qx (bR R bot) i w) V).map fr).length = w := by rw [List.length_map, setsP_len, hV]
    have eq : Rat.divInt ((R.getD a []).getD w 0) bot = qx (bR R bot) a w := by rw [qx_bR, Rat.divInt_eq_div]; rfl
    have es : ((setsP a p (fun i => qx (bR R bot) i w) V).map fr).set (p a) (fr (qx (bR R bot) a w)) = (setsP (a + 1) p (fun i => qx (bR R bot) i w) V).map fr := by rw [setsP_succ, List.map_set]
    rw [eq] at fo
    simp! [b_solved_0, dn, g8, g9, i1, stoD, el, i2, es, fo])
  rw [List.length_range] at e
  refine ⟨t8, t9, for_st3 ?_ rfl e rfl⟩
  have : zipO (.lst (((List.range k).map p).map dn)) (wl R) = some ((List.range k).map fun i => D.tup [dn (p i), zd (R.getD i [])]) := by
    rw [← zipD_range hl]
    rfl
  simp! [this]
theorem solved_ok (H : HKer T I) {M : List (List Rat)} {b : List Rat} {w K N K' N' kk : Nat} (O : Okr M w K N) (hw8 : w ≤ 8) (hbl : b.length = M.length) (O' : Okr (aug M b) (w + 1) K' N') {x y : D} (hx : RdR kk x M) (hy : RdV kk y b) (hkk : kk ≤ 9000) (hq : ∀ v ∈ M, ∀ q ∈ v, q.den < 2 ^ kk) {a c : Ar} (ha : ArB a x) (hc : ArB c y) :
    ∃ (R R' : List (List Int)) (bot bot' : Int) (k k' : Nat) (s s' p p' : Nat → Nat) (W W' : Mx) (d d' : Rat), evF T (n + 9) I.solved [a, c] = .ok (if w ∈ (List.range k').map p' then .non else .tup [vd (sv w p' (bR R' bot')), md (kers w p (bR R bot))]) [] ∧ RO M.length w w K k (mx (M.map wh)) s p W d R bot ∧ RO (aug M b).length (w + 1) (w + 1) K' k' (mx ((aug M b).map wh)) s' p' W' d' R' bot' := by
  have hm := O.m24
  have r := rows_needed_ok (n := n + 1) (y := .int 1) H.toHChk hx O.wid hkk O.m1 O.m24 O.w1 hw8 (a := .b 0 x) arB
  have rv := vector_needed_ok (n := n + 3) (y := .int 2) H.toHChk hy hkk (le_size (by omega)) (a := .b 1 y) (b := .d (.int (b.length : Int))) arB arD
  have lM : Bi.ev .len [md M] = some (.int (b.length : Int)) := by rw [md, len_tup, List.length_map, hbl]
  have hbes := beside_ok (n := n + 7) H (M := M) (b := b) (fun v hv => by rw [O.wid v hv]; omega) (by omega) (x := .d (md M)) (y := .d (vd b)) arD arD
  have h2 := whole_rows_ok (n := n + 6) H.toHEch O'.N0 O'.N64 (M := aug M b) (fun v hv => ⟨le_size (by have := O'.wid v hv; have := O'.w8; omega), O'.den v hv⟩) (le_size (by have := O'.m24; omega)) (x := .lst ((aug M b).map vd)) rfl (a := .d (.lst ((aug M b).map vd))) arD
  obtain ⟨q1, q2⟩ := wh_rows O'
  have hm' := O'.m24
  have hw' := O'.w8
  obtain ⟨k', s', p', W', d', R', bot', h3, O3⟩ := reduced_ok (n := n + 6) H.toHRow (Z := (aug M b).map wh) (m := (aug M b).length) (w := w + 1) (wd := w + 1) (K := K') (by rw [List.length_map]) q1 q2 O'.K1 (Nat.le_refl _) O'.big (by omega) (by omega) (x := .lst ((aug M b).map fun v => zt (wh v))) (e := zt) (fun _ _ => .inl rfl) (by rw [List.map_map]; rfl) (a := .d (.lst ((aug M b).map fun v => zt (wh v)))) arD
  obtain ⟨R, bot, k, s, p, W, d, h4, O4⟩ := kernel_ok (n := n) H O hw8 (md_rd hq) hkk (a := .d (md M)) arD
  refine ⟨R, R', bot, bot', k, k', s, s', p, p', W, W', d, d', ?_, O4, O3⟩
  obtain ⟨v0, M', eM⟩ : ∃ v0 M', M = v0 :: M' := by
    cases hM : M with
    | nil => have := O.m1; rw [hM] at this; simp at this
    | cons v M => exact ⟨v, M, rfl⟩
  have i0 : D.idx (md M) (.int 0) = some (vd v0) := by rw [eM]; exact idx0t
  have l0 : Bi.ev .len [vd v0] = some (.int (w : Int)) := by
    rw [vd, len_tup, List.length_map, O.wid v0 (by rw [eM]; exact List.mem_cons_self)]
  have hin := isin_dn (x := w) (L := (List.range k').map p')
  have w1 : (w : Int) + 1 = ((w + 1 : Nat) : Int) := rfl
  rw [run_eq H.solved (entry_bb ha hc)]
  by_cases hw : w ∈ (List.range k').map p'
  · have hw2 : decide (w ∈ (List.range k').map p') = true := decide_eq_true hw
    rw [if_pos hw]
    simp! [F_solved, r, lM, rv, i0, l0, hbes, h2, w1, h3, hin, hw2]
  · have hw2 : decide (w ∈ (List.range k').map p') = false := decide_eq_false hw
    rw [if_neg hw]
    have plt : ∀ i, i < k' → p' i < w := fun i hi => by
      have h1 := O3.gj.plt i hi
      have h2 : p' i ≠ w := fun e => hw (List.mem_map.mpr ⟨i, List.mem_range.mpr hi, e⟩)
      omega
    have bne : bot' ≠ 0 := by have := O3.pos; omega
    have hno := nought_ok (n := n + 7) H (w := w) (by omega)
    have hls : Bi.ev .list [vd (List.replicate w 0)] = some (.lst ((List.replicate w (0 : Rat)).map fr)) := rfl
    obtain ⟨t9, t10, es⟩ := sol_in (n := n + 7) H (s0 := .bor x) (s1 := .bor y) (s2 := .dat (md M)) (s3 := .dat (vd b)) (s9 := .un) (s10 := .un) (V := List.replicate w 0) O3.len O3.wid plt (by rw [List.length_replicate]) bne O3.bb O'.big rfl rfl
    have ev : D.tup ((setsP k' p' (fun i => qx (bR R' bot') i w) (List.replicate w 0)).map fr) = vd (sv w p' (bR R' bot')) := by
      unfold sv
      rw [bR_len, O3.len]
      rfl
    simp only [dn] at es
    simp! [F_solved, r, lM, rv, i0, l0, hbes, h2, w1, h3, hin, hw2, hno, hls, es, ev, h4]
end
end Sm
end

section
set_option linter.all false
set_option autoImplicit false
set_option maxRecDepth 100000
/-! D3: the program's inverse. -/
namespace Sm
open PySem DetQ
local macro_rules | `(tactic| simp! [$ls,*]) => `(tactic| simp only [evSs, evS, evE, evEs, as_nil, as_io, as_scr, as_bor, as_var, as_non, as_bl, as_int, as_str, as_tup, as_lst, as_bin, as_neg, as_not, as_cmp, as_and, as_or, as_ife, as_idx, as_slc, as_slcS, as_call, as_cal, as_isi, as_lc, hof_bor, hof_var, hof_non, hof_bl, hof_int, hof_str, hof_tup, hof_lst, hof_bin, hof_neg, hof_not, hof_cmp, hof_and, hof_or, hof_ife, hof_idx, hof_slc, hof_slcS, hof_call, hof_cal, hof_isi, hof_lc, evPof, evIt, Res.bind, rdB, rdE, rdO, rdS, Hd.look, opt, Sl.see, List.getElem?_cons_zero, List.getElem?_cons_succ, List.getD_cons_zero, List.getD_cons_succ, len_tup, len_lst, bi_int, bi_intb, bi_abs, bi_tupl, bi_tupt, bi_lstl, bi_lstt, bi_gcd, Cop.ev, Bop.ev, add_ii, add_tt, add_ll, sub_ii, neg_ii, D.ltI, isN_n, isN_i, isN_t, isN_l, isN_b, items_t, items_l, eqv_int, truthM, D.truth, nx, put_free, free_un, free_dat, free_own, free_bor, chg, List.set, asListO, It.locks, Ex.lock, Sl.lock, Sl.unlock, lockE, unlockE, wipeE, backE, fillA, callM, ioBack, iosOf, Option.map_some, if_true, List.length_cons, List.length_nil, List.replicate, List.cons_append, List.nil_append, List.append_nil, Nat.zero_add, List.any_cons, List.any_nil, ty_int_obj, ty_bool_obj, ty_str_obj, ty_list_obj, ty_tuple_obj, ty_cls_non, ty_cls_bl, ty_cls_int, ty_cls_str, ty_cls_tup, ty_cls_lst, ty_cls_obj, ty_int_non, ty_int_bl, ty_int_int, ty_int_str, ty_int_tup, ty_int_lst, ty_bool_non, ty_bool_bl, ty_bool_int, ty_bool_str, ty_bool_tup, ty_bool_lst, ty_str_non, ty_str_bl, ty_str_int, ty_str_str, ty_str_tup, ty_str_lst, ty_list_non, ty_list_bl, ty_list_int, ty_list_str, ty_list_tup, ty_list_lst, ty_tuple_non, ty_tuple_bl, ty_tuple_int, ty_tuple_str, ty_tuple_tup, ty_tuple_lst, Bool.or_false, Bool.false_or, Bool.not_true, Bool.not_false, Bool.true_or, Bool.or_true, ap_nil, ap1, ap2, ap3, ap4, ap_b, ap_bb, ap_bd, ap_db, ap_bdd, ap_dbd, ap_dbdd, ap_bbd, ap_ddbd, ap_dbb, ap_ddb, ap_bdb, ap_bddb, ap_bddbd, ap_s, ap_do, ap_dodd, ap_doddd, idx0l, idx0t, idx1l, idx1t, Nat.reduceAdd, Nat.reduceSub, Nat.reduceLeDiff, List.drop, Tg.put, intP, frzE, beq_self_eq_true, size1, size2, size0, $ls,*])
structure HInv (T : List Fn) (I : Ix) : Prop extends HDet T I where
  fractions_of : T[I.fractions_of]? = some (F_fractions_of I)
  unit : T[I.unit]? = some (F_unit I)
  inverse : T[I.inverse]? = some (F_inverse I)
theorem HInv.toFo {T : List Fn} {I : Ix} (H : HInv T I) : HFo T I := ⟨H.toHRow, H.fractions_of⟩
def uv (n k : Nat) : List Rat := (List.range n).map fun j => if j = k then 1 else 0
theorem uv_len {n k : Nat} : (uv n k).length = n := by unfold uv; rw [List.length_map, List.length_range]
theorem uv_getD {n k j : Nat} (h : j < n) : (uv n k).getD j 0 = if j = k then 1 else 0 := by
  unfold uv
  rw [List.getD_eq_getElem?_getD, List.getElem?_map, List.getElem?_range h]
  rfl
theorem uv_mem {n k : Nat} {q : Rat} (h : q ∈ uv n k) : q = 1 ∨ q = 0 := by
  obtain ⟨j, _, rfl⟩ := List.mem_map.mp h
  split
  · exact .inl rfl
  · exact .inr rfl
theorem enumD_map {α : Type} {e : α → D} : ∀ (l : List α) (k : Nat), enumD k (l.map e) = (l.zipIdx k).map fun p => .tup [dn p.2, e p.1]
  | [], _ => rfl
  | a :: l, k => by
    show D.tup [dn k, e a] :: enumD (k + 1) (l.map e) = _
    rw [enumD_map l (k + 1)]
    rfl
/-- rows with a unit row behind each -/
def augI (M : List (List Rat)) (n : Nat) : List (List Rat) := M.zipIdx.map fun p => p.1 ++ uv n p.2
theorem augI_len {M : List (List Rat)} {n : Nat} : (augI M n).length = M.length := by unfold augI; rw [List.length_map, List.length_zipIdx]
theorem augI_getD {M : List (List Rat)} {n i : Nat} (h : i < M.length) : (augI M n).getD i [] = M.getD i [] ++ uv n i := by
  unfold augI
  simp only [List.getD_eq_getElem?_getD, List.getElem?_map, List.getElem?_zipIdx, List.getElem?_eq_getElem h, Nat.zero_add]
  rfl
theorem augI_mem {M : List (List Rat)} {n : Nat} {v : List Rat} (h : v ∈ augI M n) : ∃ u ∈ M, ∃ k, v = u ++ uv n k := by
  obtain ⟨p, hp, rfl⟩ := List.mem_map.mp h
  exact ⟨p.1, List.fst_mem_of_mem_zipIdx hp, p.2, rfl⟩
section
variable {T : List Fn} {I : Ix} {n : Nat}
theorem unit_ok (H : T[I.unit]? = some (F_unit I)) {m k : Nat} (hm : m ≤ 100) {b : Ar} (hb : ArB b (.int (k : Int))) : evF T (n + 1) I.unit [.d (.int (m : Int)), b] = .ok (vd (uv m k)) [] := by
  have he : entry (F_unit I).mos [.d (.int (m : Int)), b] = some [.dat (dn m), .bor (dn k)] := by
    show (entry [.b] [b]).map _ = _
    rw [entry_b1 hb]
    rfl
  have lc : evE (evF T n) (e_unit_0 I) [.dat (dn m), .bor (dn k), .un] = .ok (.lst ((List.range m).map fun j => fr (if j = k then 1 else 0))) [.dat (dn m), .bor (dn k), .un] := by
    refine lc_map (List.range m) dn _ (by simp! [dn, rng1_n (le_size hm)]) rfl (le_size (by rw [List.length_range]; exact hm)) (fun j hj => ⟨_, rfl, rfl, ?_⟩) rfl
    by_cases e : j = k
    · have h1 : ((j : Int) == (k : Int)) = true := by rw [e]; exact beq_self_eq_true _
      rw [if_pos e]
      simp! [dn, h1]
      rfl
    · have h1 : ((j : Int) == (k : Int)) = false := by rw [beq_eq_false_iff_ne]; omega
      rw [if_neg e]
      simp! [dn, h1]
      rfl
  have ev : D.tup ((List.range m).map fun j => fr (if j = k then 1 else 0)) = vd (uv m k) := by
    rw [vd, uv, List.map_map]
    rfl
  rw [run_eq H he]
  simp! [F_unit, lc, ev]
theorem inverse_ok (H : HInv T I) {x : D} {M : List (List Rat)} {kk K N : Nat} (hx : RdR kk x M) (hk2 : kk ≤ 9000) (hm1 : 1 ≤ M.length) (hm : M.length ≤ 8) (hw : ∀ v ∈ M, v.length = M.length) (O' : Okr (augI M M.length) (M.length + M.length) K N) {a : Ar} (ha : ArB a x) :
    ∃ (R : List (List Int)) (bot : Int) (k : Nat) (s p : Nat → Nat) (W : Mx) (d : Rat), evF T (n + 9) I.inverse [a] = .ok (if k < M.length then .non else md (R.map fun r => (r.drop M.length).map fun x => Rat.divInt x bot)) [] ∧ RO M.length (M.length + M.length) M.length K k (mx ((augI M M.length).map wh)) s p W d R bot := by
  have r := square_ok (n := n) H.toHDet (y := 1) hx hw hk2 hm1 hm (a := .b 0 x) arB
  have lM : Bi.ev .len [md M] = some (.int (M.length : Int)) := by rw [md, len_tup, List.length_map]
  have al := augI_len (M := M) (n := M.length)
  have lc0 : evE (evF T (n + 8)) (e_inverse_0 I) [.bor x, .dat (md M), .dat (dn M.length), .un, .un, .un, .un, .un, .un] = .ok (.lst ((augI M M.length).map fun v => zt (wh v))) [.bor x, .dat (md M), .dat (dn M.length), .un, .un, .un, .un, .un, .un] := by
    have e1 : (augI M M.length).map (fun v => zt (wh v)) = M.zipIdx.map fun p => zt (wh (p.1 ++ uv M.length p.2)) := by rw [augI, List.map_map]; rfl
    rw [e1]
    have hin : (md M).items.map (enumD 0) = some (M.zipIdx.map fun p => D.tup [dn p.2, vd p.1]) := by
      show some (enumD 0 (M.map vd)) = _
      rw [enumD_map]
    refine lc_map M.zipIdx (fun p => .tup [dn p.2, vd p.1]) _ ?_ rfl (le_size (by rw [List.length_zipIdx]; omega)) (fun p hp => ⟨_, rfl, rfl, ?_⟩) rfl
    · simp! [hin]
    · have hp1 := List.fst_mem_of_mem_zipIdx hp
      have hv : p.1 ++ uv M.length p.2 ∈ augI M M.length := List.mem_map.mpr ⟨p, hp, rfl⟩
      have hu := unit_ok (n := n + 7) H.unit (m := M.length) (k := p.2) (by omega) (b := .d (.int (p.2 : Int))) arD
      have hsh := shared_ok (n := n + 7) H.toHRow O'.N0 O'.N64 (O'.den _ hv) (le_size (by rw [O'.wid _ hv]; omega)) (a := .d (vd (p.1 ++ uv M.length p.2))) arD
      have e2 : D.add (vd p.1) (vd (uv M.length p.2)) = some (vd (p.1 ++ uv M.length p.2)) := by
        show (if (p.1.map fr).length + ((uv M.length p.2).map fr).length ≤ sizeLine then some (D.tup (p.1.map fr ++ (uv M.length p.2).map fr)) else none) = _
        rw [if_pos (le_size (by rw [List.length_map, List.length_map, uv_len, hw _ hp1]; omega)), vd, List.map_append]
      have i0 : ∀ a b : D, D.idx (.tup [a, b]) (.int 0) = some a := fun _ _ => rfl
      simp! [dn, hu, e2, hsh, i0]
  obtain ⟨q1, q2⟩ := wh_rows O'
  have big : Bk K M.length ≤ 9000 := by have := O'.big; rwa [al] at this
  obtain ⟨k, s, p, W, d, R, bot, h3, O3⟩ := reduced_ok (n := n + 6) H.toHRow (Z := (augI M M.length).map wh) (m := M.length) (w := M.length + M.length) (wd := M.length) (K := K) (by rw [List.length_map, al]) q1 q2 O'.K1 (by omega) big (by omega) (by omega) (x := .lst ((augI M M.length).map fun v => zt (wh v))) (e := zt) (fun _ _ => .inl rfl) (by rw [List.map_map]; rfl) (a := .d (.lst ((augI M M.length).map fun v => zt (wh v)))) arD
  refine ⟨R, bot, k, s, p, W, d, ?_, O3⟩
  have km := O3.gj.km
  have bne : bot ≠ 0 := by have := O3.pos; omega
  simp only [dn] at lc0
  rw [run_eq H.inverse (entry_b1 ha)]
  by_cases hk : k < M.length
  · rw [if_pos hk]
    have d1 : decide ((k : Int) < (M.length : Int)) = true := decide_eq_true (by omega)
    simp! [F_inverse, dn, r, lM, lc0, h3, List.length_map, List.length_range, d1]
  · rw [if_neg hk]
    have d1 : decide ((k : Int) < (M.length : Int)) = false := decide_eq_false (by omega)
    have lc1 : ∀ s3 s4 s7, evE (evF T (n + 8)) (e_inverse_1 I) [.bor x, .dat (md M), .dat (.int (M.length : Int)), s3, s4, .un, .dat (wl R), s7, .dat (.int bot)] = .ok (.lst (R.map fun r => vd ((r.drop M.length).map fun x => Rat.divInt x bot))) [.bor x, .dat (md M), .dat (.int (M.length : Int)), s3, s4, .un, .dat (wl R), s7, .dat (.int bot)] := fun s3 s4 s7 => by
      refine lc_map R zd _ (by simp! [wl]) rfl (le_size (by have := O3.len; omega)) (fun z hz => ⟨_, rfl, rfl, ?_⟩) rfl
      have zw := O3.wid z hz
      have sl : D.slc (zd z) (some (M.length : Int)) none = some (zd (z.drop M.length)) := by
        show some (D.lst (cutD (z.map D.int) (some (M.length : Int)) none)) = _
        rw [cut_from (by rw [List.length_map]; omega), zd, List.map_drop]
      have := fractions_of_ok (n := n + 6) H.toFo bne O3.bb big (r := z.drop M.length) (le_size (by rw [List.length_drop]; omega)) (x := zd (z.drop M.length)) zd_items (a := .d (zd (z.drop M.length))) arD
      simp! [sl, this]
    have lc2 := lc1 (.dat (.lst ((augI M M.length).map fun v => zt (wh v)))) .un (.dat (.lst (((List.range k).map p).map dn)))
    have em : md (R.map fun r => (r.drop M.length).map fun x => Rat.divInt x bot) = .tup (R.map fun r => vd ((r.drop M.length).map fun x => Rat.divInt x bot)) := by rw [md, List.map_map]; rfl
    rw [em]
    simp! [F_inverse, dn, r, lM, lc0, h3, List.length_map, List.length_range, d1, lc2]
end
end Sm
end

section
set_option linter.all false
set_option autoImplicit false
set_option maxRecDepth 100000
/-! K3: kernels and solutions of the law. -/
namespace Sm
open PySem DetQ
local macro_rules | `(tactic| simp! [$ls,*]) => `(tactic| simp only [evSs, evS, evE, evEs, as_nil, as_io, as_scr, as_bor, as_var, as_non, as_bl, as_int, as_str, as_tup, as_lst, as_bin, as_neg, as_not, as_cmp, as_and, as_or, as_ife, as_idx, as_slc, as_slcS, as_call, as_cal, as_isi, as_lc, hof_bor, hof_var, hof_non, hof_bl, hof_int, hof_str, hof_tup, hof_lst, hof_bin, hof_neg, hof_not, hof_cmp, hof_and, hof_or, hof_ife, hof_idx, hof_slc, hof_slcS, hof_call, hof_cal, hof_isi, hof_lc, evPof, evIt, Res.bind, rdB, rdE, rdO, rdS, Hd.look, opt, Sl.see, List.getElem?_cons_zero, List.getElem?_cons_succ, List.getD_cons_zero, List.getD_cons_succ, len_tup, len_lst, bi_int, bi_intb, bi_abs, bi_tupl, bi_tupt, bi_lstl, bi_lstt, bi_gcd, Cop.ev, Bop.ev, add_ii, add_tt, add_ll, sub_ii, neg_ii, D.ltI, isN_n, isN_i, isN_t, isN_l, isN_b, items_t, items_l, eqv_int, truthM, D.truth, nx, put_free, free_un, free_dat, free_own, free_bor, chg, List.set, asListO, It.locks, Ex.lock, Sl.lock, Sl.unlock, lockE, unlockE, wipeE, backE, fillA, callM, ioBack, iosOf, Option.map_some, if_true, List.length_cons, List.length_nil, List.replicate, List.cons_append, List.nil_append, List.append_nil, Nat.zero_add, List.any_cons, List.any_nil, ty_int_obj, ty_bool_obj, ty_str_obj, ty_list_obj, ty_tuple_obj, ty_cls_non, ty_cls_bl, ty_cls_int, ty_cls_str, ty_cls_tup, ty_cls_lst, ty_cls_obj, ty_int_non, ty_int_bl, ty_int_int, ty_int_str, ty_int_tup, ty_int_lst, ty_bool_non, ty_bool_bl, ty_bool_int, ty_bool_str, ty_bool_tup, ty_bool_lst, ty_str_non, ty_str_bl, ty_str_int, ty_str_str, ty_str_tup, ty_str_lst, ty_list_non, ty_list_bl, ty_list_int, ty_list_str, ty_list_tup, ty_list_lst, ty_tuple_non, ty_tuple_bl, ty_tuple_int, ty_tuple_str, ty_tuple_tup, ty_tuple_lst, Bool.or_false, Bool.false_or, Bool.not_true, Bool.not_false, Bool.true_or, Bool.or_true, ap_nil, ap1, ap2, ap3, ap4, ap_b, ap_bb, ap_bd, ap_db, ap_bdd, ap_dbd, ap_dbdd, ap_bbd, ap_ddbd, ap_dbb, ap_ddb, ap_bdb, ap_bddb, ap_bddbd, ap_s, ap_do, ap_dodd, ap_doddd, idx0l, idx0t, idx1l, idx1t, Nat.reduceAdd, Nat.reduceSub, Nat.reduceLeDiff, List.drop, Tg.put, intP, frzE, beq_self_eq_true, size1, size2, size0, $ls,*])
structure HLker (T : List Fn) (I : Ix) : Prop extends HLech T I where
  Lsum : T[I.Lsum]? = some (F_Lsum I)
  Ldot : T[I.Ldot]? = some (F_Ldot I)
  Lpivots : T[I.Lpivots]? = some (F_Lpivots I)
  Lkernel : T[I.Lkernel]? = some (F_Lkernel I)
  Lsolve : T[I.Lsolve]? = some (F_Lsolve I)
theorem filter_first {q : Nat → Bool} {p : Nat} (hp : q p = true) (h : ∀ c, c < p → q c = false) : ∀ {n : Nat}, p < n → ∃ r, (List.range n).filter q = p :: r
  | 0, hn => absurd hn (Nat.not_lt_zero _)
  | n + 1, hn => by
    rw [List.range_succ, List.filter_append]
    by_cases e : p = n
    · subst e
      have : (List.range p).filter q = [] := List.filter_eq_nil_iff.mpr fun c hc => by rw [h c (List.mem_range.mp hc)]; decide
      rw [this, List.filter_cons_of_pos hp]
      exact ⟨_, rfl⟩
    · obtain ⟨r, hr⟩ := filter_first hp h (n := n) (by omega)
      rw [hr]
      exact ⟨_, rfl⟩
theorem ixP {n k : Nat} {p : Nat → Nat} (h : k < n) : D.idx (.lst (((List.range n).map p).map dn)) (.int (k : Int)) = some (dn (p k)) := by
  refine idx_lst ?_
  rw [List.getElem?_map, List.getElem?_map, List.getElem?_range h]
  rfl
def qsum (l : List Rat) : Rat := l.foldl (· + ·) 0
section
variable {T : List Fn} {I : Ix} {n : Nat}
/-- sums whose parts stay small -/
theorem Lsum_ok (H : HLker T I) {l : List Rat} {b : Nat} (hb : b ≤ 4400) (hl : ∀ q ∈ l, Sz b q) (hp : ∀ j, j ≤ l.length → Sz b (qsum (l.take j))) {a : Ar} (ha : ArB a (ld l)) : evF T (n + 4) I.Lsum [a] = .ok (fr (qsum l)) [] := by
  obtain ⟨ρ', e, t2, rfl, g2⟩ := for_go (tg := .nm 2) (body := evSs (evF T (n + 3)) (b_Lsum_0 I)) fr l (fun j ρ => ∃ t2 : Sl, ρ = [.bor (ld l), .dat (fr (qsum (l.take j))), t2] ∧ t2.free = true) (ρ := [.bor (ld l), .dat (fr 0), .un]) ⟨.un, rfl, rfl⟩ (by
    rintro j q ρ hq ⟨t2, rfl, g2⟩
    have hj : j < l.length := (List.getElem?_eq_some_iff.mp hq).1
    have et : qsum (l.take (j + 1)) = qsum (l.take j) + q := by
      unfold qsum
      rw [List.take_add_one, hq, Option.toList_some, List.foldl_append]
      rfl
    have c := plus_ok (n := n) H.Lplus H.Lfrac H.Lgcd (hp j (by omega)) (hl q (List.mem_of_getElem? hq)) hb (a := .d (fr (qsum (l.take j)))) (b := .d (fr q)) arD arD
    refine ⟨.nx, _, ?_, .inl rfl, .dat (fr q), rfl, rfl⟩
    rw [et]
    simp! [b_Lsum_0, g2, c])
  rw [List.take_length] at e
  have es : evS (evF T (n + 3)) (s_Lsum_0 I) [.bor (ld l), .dat (.tup [.int 0, .int 1]), .un] = .ok .nx [.bor (ld l), .dat (fr (qsum l)), t2] := for_st3 (by simp! [ld]) rfl e rfl
  rw [run_eq H.Lsum (entry_b1 ha)]
  simp! [F_Lsum, es]
def qdot (u v : List Rat) : Rat := qsum ((List.range u.length).map fun k => u.getD k 0 * v.getD k 0)
theorem Ldot_ok (H : HLker T I) {u v : List Rat} {b : Nat} (hb1 : 1 ≤ b) (hb : b ≤ 4400) (hu : ∀ q ∈ u, Sz b q) (hv : ∀ q ∈ v, Sz b q) (hl : u.length = v.length) (hs : u.length ≤ 100) (hp : ∀ k, k < u.length → Sz b (u.getD k 0 * v.getD k 0)) (hq : ∀ j, j ≤ u.length → Sz b (qsum (((List.range u.length).map fun k => u.getD k 0 * v.getD k 0).take j))) {x y : Ar} (hx : ArB x (vd u)) (hy : ArB y (vd v)) : evF T (n + 5) I.Ldot [x, y] = .ok (fr (qdot u v)) [] := by
  have lc : evE (evF T (n + 4)) (e_Ldot_0 I) [.bor (vd u), .bor (vd v), .un] = .ok (.lst ((List.range u.length).map fun k => fr (u.getD k 0 * v.getD k 0))) [.bor (vd u), .bor (vd v), .un] := by
    refine lc_map (List.range u.length) dn _ (by simp! [vd, List.length_map, rng1_n (le_size hs)]) rfl (le_size (by rw [List.length_range]; exact hs)) (fun k hk => ⟨_, rfl, rfl, ?_⟩) rfl
    have hk := List.mem_range.mp hk
    have j1 := idx_vd hk
    have j2 := idx_vd (v := v) (c := k) (by omega)
    have c := by_ok (n := n + 1) H.Lby H.Lfrac H.Lgcd (sz_getD (c := k) hb1 hu) (sz_getD (c := k) hb1 hv) hb (a := .d (fr (u.getD k 0))) (b := .d (fr (v.getD k 0))) arD arD
    simp! [dn, j1, j2, c]
  have e : D.lst ((List.range u.length).map fun k => fr (u.getD k 0 * v.getD k 0)) = ld ((List.range u.length).map fun k => u.getD k 0 * v.getD k 0) := by
    rw [ld, List.map_map]
    rfl
  have c := Lsum_ok (n := n) H (l := (List.range u.length).map fun k => u.getD k 0 * v.getD k 0) hb (fun q hq => by
    obtain ⟨k, hk, rfl⟩ := List.mem_map.mp hq
    exact hp k (List.mem_range.mp hk)) (fun j hj => hq j (by rwa [List.length_map, List.length_range] at hj)) (a := .d (ld ((List.range u.length).map fun k => u.getD k 0 * v.getD k 0))) arD
  rw [run_eq H.Ldot (entry_bb hx hy)]
  rw [e] at lc
  simp! [F_Ldot, as_lce (e := e_Ldot_0 I) rfl, lc, c, qdot]
theorem Lpivots_ok (H : HLker T I) {B : List (List Rat)} {w : Nat} {p : Nat → Nat} (R : Rref w B.length (qx B) p) (hw : ∀ v ∈ B, v.length = w) (hw2 : w ≤ 100) (hB : B.length ≤ 100) {a : Ar} (ha : ArB a (md B)) : evF T (n + 1) I.Lpivots [a] = .ok (.lst (((List.range B.length).map p).map dn)) [] := by
  obtain ⟨ρ', e, t2, rfl, g2⟩ := for_go (tg := .nm 2) (body := evSs (evF T n) (b_Lpivots_0 I)) vd B (fun j ρ => ∃ t2 : Sl, ρ = [.bor (md B), .own (((List.range j).map p).map dn), t2, .un] ∧ t2.free = true) (ρ := [.bor (md B), .own [], .un, .un]) ⟨.un, rfl, rfl⟩ (by
    rintro j v ρ hv ⟨t2, rfl, g2⟩
    have hj : j < B.length := (List.getElem?_eq_some_iff.mp hv).1
    have ev : B.getD j [] = v := by rw [List.getD_eq_getElem?_getD, hv]; rfl
    have hvw := hw v (List.mem_of_getElem? hv)
    have lc : evE (evF T n) (e_Lpivots_0 I) [.bor (md B), .own (((List.range j).map p).map dn), .dat (vd v), .un] = .ok (.lst (((List.range w).filter fun c => !decide (v.getD c 0 = 0)).map dn)) [.bor (md B), .own (((List.range j).map p).map dn), .dat (vd v), .un] := by
      refine lc_fil (List.range w) dn dn (fun c => !decide (v.getD c 0 = 0)) ?_ rfl (le_size (by rw [List.length_range]; omega)) (fun k hk => ⟨_, rfl, ?_, rfl, fun _ => ?_⟩) rfl
      · simp! [vd, List.length_map, hvw, rng1_n (le_size hw2)]
      · have hk := List.mem_range.mp hk
        have j1 := idx_vd (v := v) (c := k) (by omega)
        have e : ((v.getD k 0).num == 0) = decide (v.getD k 0 = 0) := num_beq
        simp! [dn, j1, fr0, e]
      · simp! []
    have one := R.one j j hj hj
    rw [if_pos rfl] at one
    obtain ⟨r, hr⟩ := filter_first (q := fun c => !decide (v.getD c 0 = 0)) (p := p j) (by
      show (!decide (v.getD (p j) 0 = 0)) = true
      have : v.getD (p j) 0 = 1 := by rw [← ev]; exact one
      rw [this]
      decide) (fun c hc => by
      show (!decide (v.getD c 0 = 0)) = false
      have : v.getD c 0 = 0 := by rw [← ev]; exact R.lead j hj c hc
      rw [this]
      decide) (R.lt j hj)
    rw [hr, List.map_cons] at lc
    have i0 : ∀ l : List D, D.idx (.lst (dn (p j) :: l)) (.int 0) = some (dn (p j)) := fun l => idx0l
    have ea : ((List.range j).map p).map dn ++ [dn (p j)] = ((List.range (j + 1)).map p).map dn := by
      rw [List.range_succ, List.map_append, List.map_append]
      rfl
    have lz : (((List.range j).map p).map dn).length < sizeLine := by
      have : (100 : Nat) < sizeLine := by decide
      rw [List.length_map, List.length_map, List.length_range]
      omega
    refine ⟨.nx, _, ?_, .inl rfl, .dat (vd v), rfl, rfl⟩
    simp! [b_Lpivots_0, hof_lce (e := e_Lpivots_0 I) rfl, g2, lc, i0, if_pos lz, ea])
  have es : evS (evF T n) (s_Lpivots_0 I) [.bor (md B), .own [], .un, .un] = .ok .nx [.bor (md B), .own (((List.range B.length).map p).map dn), t2, .un] := for_st3 (by simp! [md]) rfl e rfl
  rw [run_eq H.Lpivots (entry_b1 ha)]
  simp! [F_Lpivots, es]
theorem own1 {ρ : En} {i : Nat} {s : Sl} (h : ρ[i]? = some s) (hs : s = .un ∨ ∃ d, s = .dat d) : ownFree ρ [i] = true := by
  unfold ownFree
  rw [List.all_cons, h]
  rcases hs with rfl | ⟨d, rfl⟩ <;> rfl
theorem lker_in {F : Nat → List Ar → FRes} (hF : ∀ q : Rat, F I.Lneg [.d (fr q)] = .ok (fr (-q)) []) {B : List (List Rat)} {w pl : Nat} {p : Nat → Nat} {V : List Rat} {s0 s1 s4 s7 : Sl} (hw : ∀ v ∈ B, v.length = w) (hp : ∀ i, i < B.length → p i < w) (hpl : pl < w) (hV : V.length = w) (hB : B.length ≤ 100) (f7 : s7.free = true) (h7 : s7 = .un ∨ ∃ d, s7 = .dat d) :
    ∃ t7 : Sl, evS F (s_Lkernel_1 I) [s0, s1, .dat (md B), .dat (.lst (((List.range B.length).map p).map dn)), s4, .dat (dn pl), .own (V.map fr), s7] = .ok .nx [s0, s1, .dat (md B), .dat (.lst (((List.range B.length).map p).map dn)), s4, .dat (dn pl), .own ((setsP B.length p (fun i => -(qx B i pl)) V).map fr), t7] ∧ t7.free = true ∧ (t7 = .un ∨ ∃ d, t7 = .dat d) := by
  obtain ⟨ρ', e, t7, rfl, g7, k7⟩ := for_go (tg := .nm 7) (body := evSs F (b_Lkernel_1 I)) dn (List.range B.length) (fun j ρ => ∃ t7 : Sl, ρ = [s0, s1, .dat (md B), .dat (.lst (((List.range B.length).map p).map dn)), s4, .dat (dn pl), .own ((setsP j p (fun i => -(qx B i pl)) V).map fr), t7] ∧ t7.free = true ∧ (t7 = .un ∨ ∃ d, t7 = .dat d)) (ρ := [s0, s1, .dat (md B), .dat (.lst (((List.range B.length).map p).map dn)), s4, .dat (dn pl), .own (V.map fr), s7]) ⟨s7, rfl, f7, h7⟩ (by
    rintro j a ρ ha ⟨t7, rfl, g7, k7⟩
    have hj : j < B.length := by
      have := (List.getElem?_eq_some_iff.mp ha).1
      rwa [List.length_range] at this
    have ea : a = j := by
      rw [List.getElem?_range hj] at ha
      exact (Option.some.inj ha).symm
    subst ea
    refine ⟨.nx, _, ?_, .inl rfl, .dat (dn a), rfl, rfl, .inr ⟨_, rfl⟩⟩
    have i1 := idx_md hj
    have i2 := idx_vd (v := B.getD a []) (c := pl) (by rw [hw _ (getD_mem hj)]; exact hpl)
    have i3 := ixP (p := p) hj
    have i4 : L2.ixN w (p a : Int) = some (p a) := ixN_nat (hp a hj)
    have el : ((setsP a p (fun i => -(qx B i pl)) V).map fr).length = w := by rw [List.length_map, setsP_len, hV]
    have es : ((setsP a p (fun i => -(qx B i pl)) V).map fr).set (p a) (fr (-((B.getD a []).getD pl 0))) = (setsP (a + 1) p (fun i => -(qx B i pl)) V).map fr := by rw [setsP_succ, List.map_set]; rfl
    simp only [dn] at i3
    simp! [b_Lkernel_1, dn, g7, i1, i2, i3, hF, stoD, el, i4, es])
  rw [List.length_range] at e
  refine ⟨t7, for_st3 ?_ rfl e rfl, g7, k7⟩
  have lB : Bi.ev .len [md B] = some (.int (B.length : Int)) := by rw [md, len_tup, List.length_map]
  simp! [lB, rng1_n (le_size hB)]
theorem Lkernel_ok (H : HLker T I) {M : List (List Rat)} {w b : Nat} (hm1 : 1 ≤ M.length) (hm : M.length ≤ 50) (hw : ∀ v ∈ M, v.length = w) (hw2 : w ≤ 100) (hb : 1 ≤ b) (hs : ∀ v ∈ M, ∀ q ∈ v, Sz b q) (hC : Cb b M.length ≤ 5800) {a : Ar} (ha : ArB a (md M)) :
    ∃ (B : List (List Rat)) (p : Nat → Nat), evF T (n + 8) I.Lkernel [a, .d (.int (w : Int))] = .ok (md (kers w p B)) [] ∧ Ech M w B p ∧ B.length ≤ M.length ∧ ∀ v ∈ B, ∀ q ∈ v, Sz (Cb b M.length) q := by
  obtain ⟨B, p, e1, E, hBl, hBs⟩ := Lechelon_ok (n := n) H.toHLech hm1 hm hw hw2 hb hs hC (x := md M) rfl (a := .b 0 (md M)) arB
  refine ⟨B, p, ?_, E, hBl, hBs⟩
  have e2 := Lpivots_ok (n := n + 6) H E.rref E.wid hw2 (by omega) (a := .d (md B)) arD
  have plt := E.rref.lt
  have hneg : ∀ q : Rat, evF T (n + 7) I.Lneg [.d (fr q)] = .ok (fr (-q)) [] := fun q => neg_ok (n := n + 6) H.Lneg arD
  obtain ⟨ρ', el, t5, t6, t7, rfl, g5, g6, g7, k7⟩ := for_go (tg := .nm 5) (body := evSs (evF T (n + 7)) (b_Lkernel_0 I)) dn (List.range w) (fun j ρ => ∃ t5 t6 t7 : Sl, ρ = [.bor (md M), .dat (dn w), .dat (md B), .dat (.lst (((List.range B.length).map p).map dn)), .own ((((List.range j).filter fun c => !decide (c ∈ (List.range B.length).map p)).map (kv w p B)).map vd), t5, t6, t7] ∧ t5.free = true ∧ t6.free = true ∧ t7.free = true ∧ (t7 = .un ∨ ∃ d, t7 = .dat d)) (ρ := [.bor (md M), .dat (dn w), .dat (md B), .dat (.lst (((List.range B.length).map p).map dn)), .own [], .un, .un, .un]) ⟨.un, .un, .un, rfl, rfl, rfl, rfl, .inl rfl⟩ (by
    rintro j a ρ ha ⟨t5, t6, t7, rfl, g5, g6, g7, k7⟩
    have hj : j < w := by
      have := (List.getElem?_eq_some_iff.mp ha).1
      rwa [List.length_range] at this
    have ea : a = j := by
      rw [List.getElem?_range hj] at ha
      exact (Option.some.inj ha).symm
    subst ea
    have hin := isin_dn (x := a) (L := (List.range B.length).map p)
    by_cases hc : a ∈ (List.range B.length).map p
    · have hc' : decide (a ∈ (List.range B.length).map p) = true := decide_eq_true hc
      have ef : ((List.range (a + 1)).filter fun c => !decide (c ∈ (List.range B.length).map p)) = (List.range a).filter fun c => !decide (c ∈ (List.range B.length).map p) := by
        rw [List.range_succ, List.filter_append, List.filter_cons_of_neg (by rw [hc']; decide), List.filter_nil, List.append_nil]
      refine ⟨.ct, _, ?_, .inr rfl, .dat (dn a), t6, t7, rfl, rfl, g6, g7, k7⟩
      rw [ef]
      simp! [b_Lkernel_0, dn, g5, hin, hc']
    · have hc' : decide (a ∈ (List.range B.length).map p) = false := decide_eq_false hc
      have ef : ((List.range (a + 1)).filter fun c => !decide (c ∈ (List.range B.length).map p)) = ((List.range a).filter fun c => !decide (c ∈ (List.range B.length).map p)) ++ [a] := by
        rw [List.range_succ, List.filter_append, List.filter_cons_of_pos (by rw [hc']; rfl), List.filter_nil]
      have lc : ∀ s4 s6 : Sl, evE (evF T (n + 7)) (e_Lkernel_0 I) [.bor (md M), .dat (dn w), .dat (md B), .dat (.lst (((List.range B.length).map p).map dn)), s4, .dat (dn a), s6, t7] = .ok (.lst ((List.replicate w (0 : Rat)).map fr)) [.bor (md M), .dat (dn w), .dat (md B), .dat (.lst (((List.range B.length).map p).map dn)), s4, .dat (dn a), s6, t7] := fun s4 s6 => by
        have e : (List.replicate w (0 : Rat)).map fr = (List.range w).map fun _ => fr 0 := by
          rw [List.map_replicate]
          exact List.ext_getElem (by simp) fun i h1 h2 => by simp
        rw [e]
        refine lc_map (List.range w) dn _ (by simp! [dn, rng1_n (le_size hw2)]) (own1 rfl k7) (le_size (by rw [List.length_range]; exact hw2)) (fun k hk => ⟨_, rfl, rfl, ?_⟩) rfl
        simp! []
        rfl
      obtain ⟨u7, ei, h7, l7⟩ := lker_in (I := I) hneg (s0 := .bor (md M)) (s1 := .dat (dn w)) (s4 := .own ((((List.range a).filter fun c => !decide (c ∈ (List.range B.length).map p)).map (kv w p B)).map vd)) (s7 := t7) (V := (List.replicate w 0).set a 1) E.wid plt hj (by rw [List.length_set, List.length_replicate]) (by omega) g7 k7
      have ix : L2.ixN w (a : Int) = some a := ixN_nat hj
      have lr : ((List.replicate w (0 : Rat)).map fr).length = w := by rw [List.length_map, List.length_replicate]
      have es : ((List.replicate w (0 : Rat)).map fr).set a (.tup [.int 1, .int 1]) = ((List.replicate w 0).set a 1).map fr := by rw [List.map_set]; rfl
      have fz : ((((List.range a).filter fun c => !decide (c ∈ (List.range B.length).map p)).map (kv w p B)).map vd).length < sizeLine := by
        have h1 : ((List.range a).filter fun c => !decide (c ∈ (List.range B.length).map p)).length ≤ a := Nat.le_trans (List.length_filter_le _ _) (by rw [List.length_range]; exact Nat.le_refl _)
        have h2 : (100 : Nat) < sizeLine := by decide
        rw [List.length_map, List.length_map]
        omega
      have ez : ∀ V : List D, V ++ [.tup ((setsP B.length p (fun i => -(qx B i a)) ((List.replicate w 0).set a 1)).map fr)] = V ++ [a].map (vd ∘ kv w p B) := fun V => rfl
      refine ⟨.nx, _, ?_, .inl rfl, .dat (dn a), .own ((setsP B.length p (fun i => -(qx B i a)) ((List.replicate w 0).set a 1)).map fr), u7, rfl, rfl, rfl, h7, l7⟩
      rw [ef, List.map_append, List.map_append, List.map_map (l := [a])]
      simp only [dn] at ei lc
      have ez2 := ez ((((List.range a).filter fun c => !decide (c ∈ (List.range B.length).map p)).map (kv w p B)).map vd)
      simp! [b_Lkernel_0, dn, g5, g6, g7, hin, hc', lc, stoD, lr, ix, es, ei, if_pos fz, ez2])
  rw [List.length_range] at el
  have es : evS (evF T (n + 7)) (s_Lkernel_0 I) [.bor (md M), .dat (dn w), .dat (md B), .dat (.lst (((List.range B.length).map p).map dn)), .own [], .un, .un, .un] = .ok .nx [.bor (md M), .dat (dn w), .dat (md B), .dat (.lst (((List.range B.length).map p).map dn)), .own ((kers w p B).map vd), t5, t6, t7] := for_st3 (by simp! [dn, rng1_n (le_size hw2)]) rfl el rfl
  have em : ∀ X : List (List Rat), D.tup (X.map vd) = md X := fun _ => rfl
  simp only [dn] at es e2
  rw [run_eq H.Lkernel (entry_bd ha)]
  simp! [F_Lkernel, e1, e2, es, em]
end
end Sm
end

section
set_option linter.all false
set_option autoImplicit false
set_option maxRecDepth 100000
/-! K4: solutions by the law; rows of ints drawn. -/
namespace Sm
open PySem DetQ
local macro_rules | `(tactic| simp! [$ls,*]) => `(tactic| simp only [evSs, evS, evE, evEs, as_nil, as_io, as_scr, as_bor, as_var, as_non, as_bl, as_int, as_str, as_tup, as_lst, as_bin, as_neg, as_not, as_cmp, as_and, as_or, as_ife, as_idx, as_slc, as_slcS, as_call, as_cal, as_isi, as_lc, hof_bor, hof_var, hof_non, hof_bl, hof_int, hof_str, hof_tup, hof_lst, hof_bin, hof_neg, hof_not, hof_cmp, hof_and, hof_or, hof_ife, hof_idx, hof_slc, hof_slcS, hof_call, hof_cal, hof_isi, hof_lc, evPof, evIt, Res.bind, rdB, rdE, rdO, rdS, Hd.look, opt, Sl.see, List.getElem?_cons_zero, List.getElem?_cons_succ, List.getD_cons_zero, List.getD_cons_succ, len_tup, len_lst, bi_int, bi_intb, bi_abs, bi_tupl, bi_tupt, bi_lstl, bi_lstt, bi_gcd, Cop.ev, Bop.ev, add_ii, add_tt, add_ll, sub_ii, neg_ii, D.ltI, isN_n, isN_i, isN_t, isN_l, isN_b, items_t, items_l, eqv_int, truthM, D.truth, nx, put_free, free_un, free_dat, free_own, free_bor, chg, List.set, asListO, It.locks, Ex.lock, Sl.lock, Sl.unlock, lockE, unlockE, wipeE, backE, fillA, callM, ioBack, iosOf, Option.map_some, if_true, List.length_cons, List.length_nil, List.replicate, List.cons_append, List.nil_append, List.append_nil, Nat.zero_add, List.any_cons, List.any_nil, ty_int_obj, ty_bool_obj, ty_str_obj, ty_list_obj, ty_tuple_obj, ty_cls_non, ty_cls_bl, ty_cls_int, ty_cls_str, ty_cls_tup, ty_cls_lst, ty_cls_obj, ty_int_non, ty_int_bl, ty_int_int, ty_int_str, ty_int_tup, ty_int_lst, ty_bool_non, ty_bool_bl, ty_bool_int, ty_bool_str, ty_bool_tup, ty_bool_lst, ty_str_non, ty_str_bl, ty_str_int, ty_str_str, ty_str_tup, ty_str_lst, ty_list_non, ty_list_bl, ty_list_int, ty_list_str, ty_list_tup, ty_list_lst, ty_tuple_non, ty_tuple_bl, ty_tuple_int, ty_tuple_str, ty_tuple_tup, ty_tuple_lst, Bool.or_false, Bool.false_or, Bool.not_true, Bool.not_false, Bool.true_or, Bool.or_true, ap_nil, ap1, ap2, ap3, ap4, ap_b, ap_bb, ap_bd, ap_db, ap_bdd, ap_dbd, ap_dbdd, ap_bbd, ap_ddbd, ap_dbb, ap_ddb, ap_bdb, ap_bddb, ap_bddbd, ap_s, ap_do, ap_dodd, ap_doddd, idx0l, idx0t, idx1l, idx1t, Nat.reduceAdd, Nat.reduceSub, Nat.reduceLeDiff, List.drop, Tg.put, intP, frzE, beq_self_eq_true, size1, size2, size0, $ls,*])
theorem aug_len {M : List (List Rat)} {b : List Rat} (h : b.length = M.length) : (aug M b).length = M.length := by
  unfold aug
  rw [List.length_map, List.length_zip]
  omega
theorem aug_getD {M : List (List Rat)} {b : List Rat} (h : b.length = M.length) {k : Nat} (hk : k < M.length) : (aug M b).getD k [] = M.getD k [] ++ [b.getD k 0] := by
  unfold aug
  rw [getD_map' (d := ([], 0)) (by rw [List.length_zip]; omega)]
  have : (M.zip b).getD k ([], 0) = (M.getD k [], b.getD k 0) := by
    simp only [List.getD_eq_getElem?_getD]
    rw [List.getElem?_eq_getElem (by rw [List.length_zip]; omega), List.getElem?_eq_getElem hk, List.getElem?_eq_getElem (by omega)]
    simp
  rw [this]
theorem aug_range {M : List (List Rat)} {b : List Rat} (h : b.length = M.length) : aug M b = (List.range M.length).map fun k => M.getD k [] ++ [b.getD k 0] := by
  refine List.ext_getElem (by rw [aug_len h, List.length_map, List.length_range]) fun i h1 h2 => ?_
  have hi : i < M.length := by rw [aug_len h] at h1; exact h1
  have := aug_getD h hi
  rw [List.getD_eq_getElem?_getD, List.getElem?_eq_getElem h1, Option.getD_some] at this
  rw [this, List.getElem_map, List.getElem_range]
theorem aug_mem {M : List (List Rat)} {b : List Rat} {v : List Rat} (h : v ∈ aug M b) : ∃ u ∈ M, ∃ q ∈ b, v = u ++ [q] := by
  obtain ⟨p, hp, rfl⟩ := List.mem_map.mp h
  exact ⟨p.1, (List.of_mem_zip hp).1, p.2, (List.of_mem_zip hp).2, rfl⟩
theorem aug_all {M : List (List Rat)} {b : List Rat} {P : Rat → Prop} (h1 : ∀ v ∈ M, ∀ q ∈ v, P q) (h2 : ∀ q ∈ b, P q) : ∀ v ∈ aug M b, ∀ q ∈ v, P q := fun v hv q hq => by
  obtain ⟨u, hu, r, hr, rfl⟩ := aug_mem hv
  rcases List.mem_append.mp hq with h | h
  · exact h1 u hu q h
  · rw [List.mem_singleton.mp h]; exact h2 r hr
section
variable {T : List Fn} {I : Ix} {n : Nat}
theorem lsol_in {F : Nat → List Ar → FRes} {B : List (List Rat)} {w : Nat} {p : Nat → Nat} {V : List Rat} {s0 s1 s4 : Sl} (hw : ∀ v ∈ B, v.length = w + 1) (hp : ∀ i, i < B.length → p i < w) (hV : V.length = w) (hB : B.length ≤ 100) (f4 : s4.free = true) :
    ∃ t4 : Sl, evS F (s_Lsolve_0 I) [s0, s1, .dat (dn w), .dat (md B), s4, .dat (.lst (((List.range B.length).map p).map dn)), .own (V.map fr)] = .ok .nx [s0, s1, .dat (dn w), .dat (md B), t4, .dat (.lst (((List.range B.length).map p).map dn)), .own ((setsP B.length p (fun i => qx B i w) V).map fr)] := by
  obtain ⟨ρ', e, t7, rfl, g7⟩ := for_go (tg := .nm 4) (body := evSs F (b_Lsolve_0 I)) dn (List.range B.length) (fun j ρ => ∃ t4 : Sl, ρ = [s0, s1, .dat (dn w), .dat (md B), t4, .dat (.lst (((List.range B.length).map p).map dn)), .own ((setsP j p (fun i => qx B i w) V).map fr)] ∧ t4.free = true) (ρ := [s0, s1, .dat (dn w), .dat (md B), s4, .dat (.lst (((List.range B.length).map p).map dn)), .own (V.map fr)]) ⟨s4, rfl, f4⟩ (by
    rintro j a ρ ha ⟨t7, rfl, g7⟩
    have hj : j < B.length := by
      have := (List.getElem?_eq_some_iff.mp ha).1
      rwa [List.length_range] at this
    have ea : a = j := by
      rw [List.getElem?_range hj] at ha
      exact (Option.some.inj ha).symm
    subst ea
    refine ⟨.nx, _, ?_, .inl rfl, .dat (dn a), rfl, rfl⟩
    have i1 := idx_md hj
    have i2 := idx_vd (v := B.getD a []) (c := w) (by rw [hw _ (getD_mem hj)]; omega)
    have i3 := ixP (p := p) hj
    have i4 : L2.ixN w (p a : Int) = some (p a) := ixN_nat (hp a hj)
    have el : ((setsP a p (fun i => qx B i w) V).map fr).length = w := by rw [List.length_map, setsP_len, hV]
    have es : ((setsP a p (fun i => qx B i w) V).map fr).set (p a) (fr ((B.getD a []).getD w 0)) = (setsP (a + 1) p (fun i => qx B i w) V).map fr := by rw [setsP_succ, List.map_set]; rfl
    simp only [dn] at i3
    simp! [b_Lsolve_0, dn, g7, i1, i2, i3, stoD, el, i4, es])
  rw [List.length_range] at e
  have lB : Bi.ev .len [md B] = some (.int (B.length : Int)) := by rw [md, len_tup, List.length_map]
  exact ⟨t7, for_st3 (by simp! [lB, rng1_n (le_size hB)]) rfl e rfl⟩
theorem Lsolve_ok (H : HLker T I) {M : List (List Rat)} {c : List Rat} {w b : Nat} (hm1 : 1 ≤ M.length) (hm : M.length ≤ 50) (hw : ∀ v ∈ M, v.length = w) (hw2 : w ≤ 50) (hc : c.length = M.length) (hb : 1 ≤ b) (hs : ∀ v ∈ M, ∀ q ∈ v, Sz b q) (hs2 : ∀ q ∈ c, Sz b q) (hC : Cb b M.length ≤ 5800) {x y : Ar} (hx : ArB x (md M)) (hy : ArB y (vd c)) :
    ∃ (B : List (List Rat)) (p : Nat → Nat), evF T (n + 8) I.Lsolve [x, y, .d (.int (w : Int))] = .ok (if w ∈ (List.range B.length).map p then .non else vd (sv w p B)) [] ∧ Ech (aug M c) (w + 1) B p ∧ B.length ≤ M.length ∧ ∀ v ∈ B, ∀ q ∈ v, Sz (Cb b M.length) q := by
  have he : entry (F_Lsolve I).mos [x, y, .d (.int (w : Int))] = some [.bor (md M), .bor (vd c), .dat (dn w)] := by
    show entry [.b, .b, .d] _ = _
    rw [entry_b hx, entry_b hy]
    rfl
  have al := aug_len hc
  have awid : ∀ v ∈ aug M c, v.length = w + 1 := fun v hv => by
    obtain ⟨u, hu, q, _, rfl⟩ := aug_mem hv
    rw [List.length_append, hw u hu]
    rfl
  have lM : Bi.ev .len [md M] = some (.int (M.length : Int)) := by rw [md, len_tup, List.length_map]
  have lc0 : evE (evF T (n + 7)) (e_Lsolve_0 I) [.bor (md M), .bor (vd c), .dat (dn w), .un, .un, .un, .un] = .ok (.lst ((aug M c).map vd)) [.bor (md M), .bor (vd c), .dat (dn w), .un, .un, .un, .un] := by
    rw [aug_range hc, List.map_map]
    refine lc_map (List.range M.length) dn _ (by simp! [lM, rng1_n (le_size (show M.length ≤ 100 by omega))]) rfl (le_size (by rw [List.length_range]; omega)) (fun k hk => ⟨_, rfl, rfl, ?_⟩) rfl
    have hk := List.mem_range.mp hk
    have i1 := idx_md hk
    have i2 := idx_vd (v := c) (c := k) (by omega)
    have i3 : Bi.ev .tuple [vd (M.getD k [])] = some (vd (M.getD k [])) := rfl
    have e2 : D.add (vd (M.getD k [])) (.tup [fr (c.getD k 0)]) = some (vd (M.getD k [] ++ [c.getD k 0])) := by
      show (if ((M.getD k []).map fr).length + [fr (c.getD k 0)].length ≤ sizeLine then some (D.tup ((M.getD k []).map fr ++ [fr (c.getD k 0)])) else none) = _
      rw [if_pos (le_size (by rw [List.length_map, List.length_singleton, hw _ (getD_mem hk)]; omega)), vd, List.map_append]
      rfl
    simp! [dn, i1, i2, i3, e2, Function.comp]
  obtain ⟨B, p, e1, E, hBl, hBs⟩ := Lechelon_ok (n := n) H.toHLech (M := aug M c) (w := w + 1) (b := b) (by omega) (by omega) awid (by omega) hb (aug_all hs hs2) (by rw [al]; exact hC) (x := .lst ((aug M c).map vd)) rfl (a := .d (.lst ((aug M c).map vd))) arD
  rw [al] at hBl hBs
  have e2 := Lpivots_ok (n := n + 6) H E.rref E.wid (by omega) (by omega) (a := .d (md B)) arD
  refine ⟨B, p, ?_, E, hBl, hBs⟩
  have hin := isin_dn (x := w) (L := (List.range B.length).map p)
  simp only [dn] at lc0
  rw [run_eq H.Lsolve he]
  by_cases hcw : w ∈ (List.range B.length).map p
  · have h2 : decide (w ∈ (List.range B.length).map p) = true := decide_eq_true hcw
    rw [if_pos hcw]
    simp! [F_Lsolve, dn, as_lce (e := e_Lsolve_0 I) rfl, lc0, e1, e2, hin, h2]
  · have h2 : decide (w ∈ (List.range B.length).map p) = false := decide_eq_false hcw
    rw [if_neg hcw]
    have plt : ∀ i, i < B.length → p i < w := fun i hi => by
      have h1 := E.rref.lt i hi
      have h2 : p i ≠ w := fun e => hcw (List.mem_map.mpr ⟨i, List.mem_range.mpr hi, e⟩)
      omega
    have lc1 : ∀ s5, evE (evF T (n + 7)) (e_Lsolve_1 I) [.bor (md M), .bor (vd c), .dat (dn w), .dat (md B), .un, s5, .un] = .ok (.lst ((List.replicate w (0 : Rat)).map fr)) [.bor (md M), .bor (vd c), .dat (dn w), .dat (md B), .un, s5, .un] := fun s5 => by
      have e : (List.replicate w (0 : Rat)).map fr = (List.range w).map fun _ => fr 0 := by
        rw [List.map_replicate]
        exact List.ext_getElem (by simp) fun i h1 h2 => by simp
      rw [e]
      refine lc_map (List.range w) dn _ (by simp! [dn, rng1_n (le_size (show w ≤ 100 by omega))]) rfl (le_size (by rw [List.length_range]; omega)) (fun k hk => ⟨_, rfl, rfl, ?_⟩) rfl
      simp! []
      rfl
    obtain ⟨t4, es⟩ := lsol_in (F := evF T (n + 7)) (I := I) (s0 := .bor (md M)) (s1 := .bor (vd c)) (s4 := .un) (V := List.replicate w 0) E.wid plt (by rw [List.length_replicate]) (by omega) rfl
    have ev : D.tup ((setsP B.length p (fun i => qx B i w) (List.replicate w 0)).map fr) = vd (sv w p B) := rfl
    simp only [dn] at lc1 es
    simp! [F_Lsolve, dn, as_lce (e := e_Lsolve_0 I) rfl, lc0, e1, e2, hin, h2, lc1, es, ev]
theorem take_lc {row : List Int} {F : Nat → List Ar → FRes} {e : Ex} {i : Nat} {z : Int → D} : True := trivial
theorem drawn_row_ok {row : List Int} (H : HDraw T I) (hd : T[I.Ldrawn_row]? = some (F_Ldrawn_row I)) (hne : row ≠ []) (s : Int) (m B : Nat) (h0 : 0 ≤ s) (hB : B ≤ 1000) (hm : m ≤ 50) {a : Ar} (ha : ArB a (rowD row)) (k : Nat) :
    ∃ (r : List Int) (s' : Int), r.length = m ∧ (∀ x ∈ r, x.natAbs ≤ B) ∧ 0 ≤ s' ∧ evF T (n + 3) I.Ldrawn_row [a, .o k [.int s], .d (.int (m : Int)), .d (.int (B : Int))] = .ok (zt r) [[.int s']] := by
  have he : entry (F_Ldrawn_row I).mos [a, .o k [.int s], .d (.int (m : Int)), .d (.int (B : Int))] = some [.bor (rowD row), .io [.int s], .dat (dn m), .dat (dn B)] := by
    show entry [.b, .o, .d, .d] _ = _
    rw [entry_b ha]
    rfl
  obtain ⟨acc, ρ', e, r, s', rfl, hr, hok, h0', rfl⟩ := lc_inv (tg := .nm 4) (own := [4]) (cond := fun ρ => ((evE (evF T (n + 2)) (.bl true) ρ).bind fun d ρ => truthM d ρ).nox) (elt := fun ρ => (evE (evF T (n + 2)) (.bin .sub (.call I.Ltake (.cons (.bor 0) (.cons (.io 1) (.cons (.bin .add (.bin .mul (.int 2) (.var 3)) (.int 1)) .nil)))) (.var 3)) ρ).nox) dn (List.range m) (fun j acc ρ => ∃ (r : List Int) (s' : Int), acc = r.map D.int ∧ r.length = j ∧ (∀ x ∈ r, x.natAbs ≤ B) ∧ 0 ≤ s' ∧ ρ = [.bor (rowD row), .io [.int s'], .dat (dn m), .dat (dn B), .un]) (acc := []) (ρ := [.bor (rowD row), .io [.int s], .dat (dn m), .dat (dn B), .un]) ⟨[], s, rfl, rfl, (fun v h => (nomatch h)), h0, rfl⟩ (by
    rintro j a acc ρ ha ⟨r, s', rfl, hr, hok, h0', rfl⟩
    have hj : j < m := by
      have := (List.getElem?_eq_some_iff.mp ha).1
      rwa [List.length_range] at this
    obtain ⟨t, t0, t1, et⟩ := Ltake_ok (n := n) H hne s' (2 * (B : Int) + 1) h0' (by omega) (a := .b 0 (rowD row)) arB 1
    have mm : D.mul (.int 2) (.int (B : Int)) = some (.int (2 * (B : Int))) := mul_small (by rw [Int.natAbs_natCast]; omega)
    refine ⟨_, true, _, rfl, rfl, (fun h => (nomatch h)), fun _ => ⟨.int (t - B), [.bor (rowD row), .io [.int (s' + 1)], .dat (dn m), .dat (dn B), .dat (dn a)], ?_, ?_, r ++ [t - B], s' + 1, by rw [List.map_append]; rfl, by rw [List.length_append, hr]; rfl, fun u hu => ?_, by omega, rfl⟩⟩
    · simp! [dn, mm, ap_bo01, et, Res.nox]
    · have : (100 : Nat) < sizeLine := by decide
      rw [List.length_map]
      omega
    · rcases List.mem_append.mp hu with h | h
      · exact hok u h
      · rw [List.mem_singleton.mp h]; omega)
  rw [List.length_range] at hr
  refine ⟨r, s', hr, hok, h0', ?_⟩
  have h1 : evIt (evF T (n + 2)) (.rng1 (.var 2)) [.bor (rowD row), .io [.int s], .dat (dn m), .dat (dn B), .un] = .ok ((List.range m).map dn) [.bor (rowD row), .io [.int s], .dat (dn m), .dat (dn B), .un] := by
    simp! [dn, rng1_n (le_size (show m ≤ 100 by omega))]
  have lc : evE (evF T (n + 2)) (e_Ldrawn_row_0 I) [.bor (rowD row), .io [.int s], .dat (dn m), .dat (dn B), .un] = .ok (.lst (r.map D.int)) [.bor (rowD row), .io [.int s'], .dat (dn m), .dat (dn B), .un] := evE_lc h1 rfl e
  have ez : D.tup (r.map D.int) = zt r := rfl
  rw [run_eq hd he]
  simp! [F_Ldrawn_row, lc, ez]
end
end Sm
end

section
set_option linter.all false
set_option autoImplicit false
set_option maxRecDepth 100000
/-! D4: the law's determinant. -/
namespace Sm
open PySem DetQ
local macro_rules | `(tactic| simp! [$ls,*]) => `(tactic| simp only [evSs, evS, evE, evEs, as_nil, as_io, as_scr, as_bor, as_var, as_non, as_bl, as_int, as_str, as_tup, as_lst, as_bin, as_neg, as_not, as_cmp, as_and, as_or, as_ife, as_idx, as_slc, as_slcS, as_call, as_cal, as_isi, as_lc, hof_bor, hof_var, hof_non, hof_bl, hof_int, hof_str, hof_tup, hof_lst, hof_bin, hof_neg, hof_not, hof_cmp, hof_and, hof_or, hof_ife, hof_idx, hof_slc, hof_slcS, hof_call, hof_cal, hof_isi, hof_lc, evPof, evIt, Res.bind, rdB, rdE, rdO, rdS, Hd.look, opt, Sl.see, List.getElem?_cons_zero, List.getElem?_cons_succ, List.getD_cons_zero, List.getD_cons_succ, len_tup, len_lst, bi_int, bi_intb, bi_abs, bi_tupl, bi_tupt, bi_lstl, bi_lstt, bi_gcd, Cop.ev, Bop.ev, add_ii, add_tt, add_ll, sub_ii, neg_ii, D.ltI, isN_n, isN_i, isN_t, isN_l, isN_b, items_t, items_l, eqv_int, truthM, D.truth, nx, put_free, free_un, free_dat, free_own, free_bor, chg, List.set, asListO, It.locks, Ex.lock, Sl.lock, Sl.unlock, lockE, unlockE, wipeE, backE, fillA, callM, ioBack, iosOf, Option.map_some, if_true, List.length_cons, List.length_nil, List.replicate, List.cons_append, List.nil_append, List.append_nil, Nat.zero_add, List.any_cons, List.any_nil, ty_int_obj, ty_bool_obj, ty_str_obj, ty_list_obj, ty_tuple_obj, ty_cls_non, ty_cls_bl, ty_cls_int, ty_cls_str, ty_cls_tup, ty_cls_lst, ty_cls_obj, ty_int_non, ty_int_bl, ty_int_int, ty_int_str, ty_int_tup, ty_int_lst, ty_bool_non, ty_bool_bl, ty_bool_int, ty_bool_str, ty_bool_tup, ty_bool_lst, ty_str_non, ty_str_bl, ty_str_int, ty_str_str, ty_str_tup, ty_str_lst, ty_list_non, ty_list_bl, ty_list_int, ty_list_str, ty_list_tup, ty_list_lst, ty_tuple_non, ty_tuple_bl, ty_tuple_int, ty_tuple_str, ty_tuple_tup, ty_tuple_lst, Bool.or_false, Bool.false_or, Bool.not_true, Bool.not_false, Bool.true_or, Bool.or_true, ap_nil, ap1, ap2, ap3, ap4, ap_b, ap_bb, ap_bd, ap_db, ap_bdd, ap_dbd, ap_dbdd, ap_bbd, ap_ddbd, ap_dbb, ap_ddb, ap_bdb, ap_bddb, ap_bddbd, ap_s, ap_do, ap_dodd, ap_doddd, idx0l, idx0t, idx1l, idx1t, Nat.reduceAdd, Nat.reduceSub, Nat.reduceLeDiff, List.drop, Tg.put, intP, frzE, beq_self_eq_true, size1, size2, size0, $ls,*])
def rsub (v u : List Rat) (c m : Nat) : List Rat := (List.range m).map fun j => v.getD j 0 - v.getD c 0 / u.getD c 0 * u.getD j 0
theorem rsub_len {v u : List Rat} {c m : Nat} : (rsub v u c m).length = m := by unfold rsub; rw [List.length_map, List.length_range]
theorem rsub_getD {v u : List Rat} {c m j : Nat} (h : j < m) : (rsub v u c m).getD j 0 = v.getD j 0 - v.getD c 0 / u.getD c 0 * u.getD j 0 := by
  unfold rsub
  rw [List.getD_eq_getElem?_getD, List.getElem?_map, List.getElem?_range h]
  rfl
theorem rsub_sz {v u : List Rat} {b c m : Nat} (hb : 1 ≤ b) (hv : ∀ q ∈ v, Sz b q) (hu : ∀ q ∈ u, Sz b q) (h0 : u.getD c 0 ≠ 0) : ∀ q ∈ rsub v u c m, Sz (4 * b + 1) q := fun q hq => by
  obtain ⟨j, _, rfl⟩ := List.mem_map.mp hq
  exact ((sz_getD hb hv).sub (((sz_getD hb hv).div (sz_getD hb hu) h0).mul (sz_getD hb hu))).mono (by omega)
/-- what stands in the law's determinant when the columns below j are done -/
structure LD (m b : Nat) (A : Mx) (j : Nat) (L : List (List Rat)) (made : Rat) : Prop where
  len : L.length = m
  wid : ∀ v ∈ L, v.length = m
  zero : ∀ i c, i < m → c < i → c < j → qx L i c = 0
  det : ∃ σ : Rat, det m A = σ * det m (qx L) ∧ made = σ * prodTo j fun i => qx L i i
  sz : ∀ v ∈ L, ∀ q ∈ v, Sz (Cb b j) q
  szm : Sz (Cb b j) made
def swapQ (L : List (List Rat)) (k f : Nat) : List (List Rat) := (L.set f (L.getD k [])).set k (L.getD f [])
theorem swapQ_getD {L : List (List Rat)} {k f : Nat} (hk : k < L.length) (hf : f < L.length) (i : Nat) : (swapQ L k f).getD i [] = L.getD (tr k f i) [] := by
  unfold swapQ tr
  simp only [List.getD_eq_getElem?_getD, List.getElem?_set, List.length_set]
  by_cases h1 : k = i
  · subst h1
    by_cases h2 : k = f
    · subst h2; simp [hk]
    · simp [hk, h2]
  · by_cases h2 : f = i
    · subst h2; simp [h1, hf, Ne.symm h1]
    · simp [h1, h2, Ne.symm h1, Ne.symm h2]
section
variable {m b j : Nat} {A : Mx} {L : List (List Rat)} {made : Rat}
theorem LD.start {M : List (List Rat)} (hl : M.length = m) (hw : ∀ v ∈ M, v.length = m) (hb : 1 ≤ b) (hs : ∀ v ∈ M, ∀ q ∈ v, Sz b q) : LD m b (qx M) 0 M 1 := by
  have e0 : Cb b 0 = b := by unfold Cb; omega
  refine ⟨hl, hw, fun i c _ _ h => absurd h (Nat.not_lt_zero _), ⟨1, by rw [Rat.one_mul], by rw [Rat.one_mul]; rfl⟩, fun v hv q hq => by rw [e0]; exact hs v hv q hq, ?_⟩
  rw [e0]
  exact ⟨by show 1 < _; exact Nat.one_lt_two_pow_iff.mpr (by omega), by show 1 < _; exact Nat.one_lt_two_pow_iff.mpr (by omega)⟩
theorem LD.none (R : LD m b A j L made) (hj : j < m) (h : ∀ i, j ≤ i → i < m → qx L i j = 0) : DetQ.det m A = 0 := by
  obtain ⟨σ, h1, _⟩ := R.det
  have : DetQ.det m (qx L) = 0 := det_gap hj fun i c h1 h2 h3 => by
    by_cases e : c = j
    · rw [e]; exact h i h1 h2
    · exact R.zero i c h2 (by omega) (by omega)
  rw [h1, this, Rat.mul_zero]
theorem LD.swap (R : LD m b A j L made) {f : Nat} (hf : j ≤ f) (hfm : f < m) : LD m b A j (swapQ L j f) (if f = j then made else -made) := by
  have hl := R.len
  have tm : ∀ i, i < m → tr j f i < m := fun i hi => tr_lt (by omega) hfm hi
  have lo : ∀ i, i < j → tr j f i = i := fun i hi => by
    unfold tr
    rw [if_neg (by omega), if_neg (by omega)]
  have sl : (swapQ L j f).length = m := by unfold swapQ; rw [List.length_set, List.length_set]; exact hl
  have qs : ∀ i c, qx (swapQ L j f) i c = qx L (tr j f i) c := fun i c => by
    unfold qx
    rw [swapQ_getD (by omega) (by omega)]
  have mem : ∀ v ∈ swapQ L j f, v ∈ L := fun v hv => by
    obtain ⟨i, hi, e⟩ := List.getElem_of_mem hv
    have e2 : (swapQ L j f).getD i [] = v := by rw [List.getD_eq_getElem?_getD, List.getElem?_eq_getElem hi, e]; rfl
    rw [swapQ_getD (by omega) (by omega)] at e2
    rw [← e2]
    exact getD_mem (by rw [hl]; exact tm i (by omega))
  refine ⟨sl, fun v hv => R.wid v (mem v hv), fun i c hi hc hcj => ?_, ?_, fun v hv => R.sz v (mem v hv), ?_⟩
  · rw [qs]
    by_cases h : i < j
    · rw [lo i h]; exact R.zero i c hi hc hcj
    · refine R.zero _ c (tm i hi) ?_ hcj
      have : j ≤ tr j f i := by
        unfold tr
        repeat' split
        all_goals omega
      omega
  · obtain ⟨σ, h1, h2⟩ := R.det
    have e : prodTo j (fun i => qx (swapQ L j f) i i) = prodTo j fun i => qx L i i := prod_congr fun i hi => by rw [qs, lo i hi]
    by_cases hfj : f = j
    · refine ⟨σ, ?_, ?_⟩
      · rw [h1]
        congr 1
        refine det_ext fun i c _ _ => ?_
        rw [qs]
        have : tr j f i = i := by
          unfold tr
          repeat' split
          all_goals omega
        rw [this]
      · rw [if_pos hfj, e]; exact h2
    · refine ⟨-σ, ?_, ?_⟩
      · have := det_tr (n := m) (A := qx L) (r := j) (s := f) (by omega) hfm (Ne.symm hfj)
        have e3 : DetQ.det m (qx (swapQ L j f)) = - DetQ.det m (qx L) := by
          rw [← this]
          exact det_ext fun i c _ _ => qs i c
        rw [h1, e3]
        grind
      · rw [if_neg hfj, e, h2]
        grind
  · split
    · exact R.szm
    · exact R.szm.neg
theorem LD.step (R : LD m b A j L made) (hb : 1 ≤ b) (hj : j < m) (h0 : qx L j j ≠ 0) {V : List (List Rat)} (hV : V.length = m) (hV2 : ∀ i, i < m → V.getD i [] = if j < i then rsub (L.getD i []) (L.getD j []) j m else L.getD i []) :
    LD m b A (j + 1) V (made * qx L j j) := by
  have hl := R.len
  have cp := Cb_pos (b := b) (j := j) hb
  have lm : ∀ i, i < m → L.getD i [] ∈ L := fun i hi => getD_mem (by omega)
  have qV : ∀ i c, i < m → c < m → qx V i c = if j < i then qx L i c - qx L i j / qx L j j * qx L j c else qx L i c := fun i c hi hc => by
    unfold qx
    rw [hV2 i hi]
    split
    · rw [rsub_getD hc]
    · rfl
  have mem : ∀ v ∈ V, ∃ i, i < m ∧ V.getD i [] = v := fun v hv => by
    obtain ⟨i, hi, e⟩ := List.getElem_of_mem hv
    exact ⟨i, by omega, by rw [List.getD_eq_getElem?_getD, List.getElem?_eq_getElem hi, e]; rfl⟩
  have dV : DetQ.det m (qx V) = DetQ.det m (qx L) := by
    have key : ∀ n, n ≤ m - (j + 1) → DetQ.det m (fun i c => if j < i ∧ i < j + 1 + n then qx L i c - qx L i j / qx L j j * qx L j c else qx L i c) = DetQ.det m (qx L) := by
      intro n
      induction n with
      | zero => intro _; exact det_ext fun i c _ _ => if_neg (by omega)
      | succ n ih =>
        intro hn
        rw [← ih (by omega)]
        have := det_add (n := m) (A := fun i c => if j < i ∧ i < j + 1 + n then qx L i c - qx L i j / qx L j j * qx L j c else qx L i c) (r := j + 1 + n) (s := j) (t := -(qx L (j + 1 + n) j / qx L j j)) (by omega) hj (by omega)
        rw [← this]
        refine det_ext fun i c _ _ => ?_
        show _ = (if i = j + 1 + n then 1 * (if j < j + 1 + n ∧ j + 1 + n < j + 1 + n then _ else qx L (j + 1 + n) c) + -(qx L (j + 1 + n) j / qx L j j) * (if j < j ∧ j < j + 1 + n then _ else qx L j c) else if j < i ∧ i < j + 1 + n then _ else qx L i c)
        by_cases e : i = j + 1 + n
        · rw [if_pos ⟨by omega, by omega⟩, if_pos e, if_neg (by omega), if_neg (by omega), e]
          grind
        · rw [if_neg e]
          by_cases h : j < i ∧ i < j + 1 + n
          · rw [if_pos h, if_pos ⟨h.1, by omega⟩]
          · rw [if_neg h, if_neg (fun z => h ⟨z.1, by omega⟩)]
    rw [← key (m - (j + 1)) (Nat.le_refl _)]
    refine det_ext fun i c hi hc => ?_
    rw [qV i c hi hc]
    by_cases h : j < i
    · rw [if_pos h, if_pos ⟨h, by omega⟩]
    · rw [if_neg h, if_neg (fun z => h z.1)]
  refine ⟨hV, fun v hv => ?_, fun i c hi hc hcj => ?_, ?_, fun v hv q hq => ?_, ?_⟩
  · obtain ⟨i, hi, e⟩ := mem v hv
    rw [← e, hV2 i hi]
    split
    · exact rsub_len
    · exact R.wid _ (lm i hi)
  · rw [qV i c hi (by omega)]
    by_cases h : j < i
    · rw [if_pos h]
      by_cases e : c = j
      · rw [e]; grind
      · rw [R.zero i c hi hc (by omega), R.zero j c hj (by omega) (by omega)]; grind
    · rw [if_neg h]
      exact R.zero i c hi hc (by omega)
  · obtain ⟨σ, h1, h2⟩ := R.det
    refine ⟨σ, by rw [dV]; exact h1, ?_⟩
    show made * qx L j j = σ * (prodTo j (fun i => qx V i i) * qx V j j)
    have e : prodTo j (fun i => qx V i i) = prodTo j fun i => qx L i i := prod_congr fun i hi => by rw [qV i i (by omega) (by omega), if_neg (by omega)]
    rw [e, qV j j hj hj, if_neg (by omega), h2]
    grind
  · obtain ⟨i, hi, e⟩ := mem v hv
    rw [← e, hV2 i hi] at hq
    rw [Cb_succ]
    split at hq
    · exact (rsub_sz cp (R.sz _ (lm i hi)) (R.sz _ (lm j hj)) h0 q hq).mono (by omega)
    · exact (R.sz _ (lm i hi) q hq).mono (by omega)
  · rw [Cb_succ]
    exact (R.szm.mul (sz_getD cp (R.sz _ (lm j hj)))).mono (by omega)
theorem LD.done (R : LD m b A m L made) : made = DetQ.det m A := by
  obtain ⟨σ, h1, h2⟩ := R.det
  rw [h2, h1, det_tri fun i c hi hc => R.zero i c hi hc (by omega)]
end
structure HLdet (T : List Fn) (I : Ix) : Prop extends HFrac T I where
  Lover : T[I.Lover]? = some (F_Lover I)
  Ldeterminant : T[I.Ldeterminant]? = some (F_Ldeterminant I)
section
variable {T : List Fn} {I : Ix} {n : Nat}
theorem whl_t {c : En → Res Bool} {body : En → Res Fl} {n : Nat} {ρ ρ1 ρ2 : En} (h1 : c ρ = .ok true ρ1) (h2 : body ρ1 = .ok .nx ρ2) : whlLoop c body (n + 1) ρ = whlLoop c body n ρ2 := by
  simp only [whlLoop, h1, h2, Res.bind]
theorem whl_f {c : En → Res Bool} {body : En → Res Fl} {n : Nat} {ρ ρ1 : En} (h1 : c ρ = .ok false ρ1) : whlLoop c body (n + 1) ρ = .ok .nx ρ1 := by
  simp only [whlLoop, h1, Res.bind]
theorem ldet_whl {F : Nat → List Ar → FRes} {L : List (List Rat)} {m j : Nat} {s0 s3 s6 s7 s8 s9 : Sl} (hl : L.length = m) (hw : ∀ v ∈ L, v.length = m) (hj : j < m) (hm : m ≤ 100) :
    ∃ f : Nat, j ≤ f ∧ f ≤ m ∧ (∀ i, j ≤ i → i < f → qx L i j = 0) ∧ (f < m → qx L f j ≠ 0) ∧ evS F (s_Ldeterminant_1 I) [s0, .own (L.map ld), .un, s3, .dat (dn j), .dat (dn j), s6, s7, s8, s9] = .ok .nx [s0, .own (L.map ld), .un, s3, .dat (dn j), .dat (dn f), s6, s7, s8, s9] := by
  have cond : ∀ f : Nat, f ≤ m → ((evE F (c_Ldeterminant_1 I) [s0, .own (L.map ld), .un, s3, .dat (dn j), .dat (dn f), s6, s7, s8, s9]).bind fun d ρ => truthM d ρ) = .ok (decide (f < m) && decide (qx L f j = 0)) [s0, .own (L.map ld), .un, s3, .dat (dn j), .dat (dn f), s6, s7, s8, s9] := fun f hf => by
    by_cases h : f < m
    · have i1 : D.idx (.lst (L.map ld)) (.int (f : Int)) = some (ld (L.getD f [])) := idx_lds (by omega)
      have i2 := idx_ld (v := L.getD f []) (c := j) (by rw [hw _ (getD_mem (by omega))]; exact hj)
      have e2 : (((L.getD f []).getD j 0).num == 0) = decide (qx L f j = 0) := num_beq
      have d1 : decide ((f : Int) < (m : Int)) = true := decide_eq_true (by omega)
      have d2 : decide (f < m) = true := decide_eq_true h
      simp! [c_Ldeterminant_1, dn, List.length_map, hl, d1, i1, i2, fr0, e2, d2, Bool.true_and]
    · have d1 : decide ((f : Int) < (m : Int)) = false := decide_eq_false (by omega)
      have d2 : decide (f < m) = false := decide_eq_false h
      simp! [c_Ldeterminant_1, dn, List.length_map, hl, d1, d2, Bool.false_and]
  have body : ∀ f : Nat, evSs F (b_Ldeterminant_1 I) [s0, .own (L.map ld), .un, s3, .dat (dn j), .dat (dn f), s6, s7, s8, s9] = .ok .nx [s0, .own (L.map ld), .un, s3, .dat (dn j), .dat (dn (f + 1)), s6, s7, s8, s9] := fun f => by
    simp! [b_Ldeterminant_1, dn, Int.natCast_add]
    rfl
  have key : ∀ (t f N : Nat), f + t = m → j ≤ f → t + 1 ≤ N → (∀ i, j ≤ i → i < f → qx L i j = 0) → ∃ g : Nat, j ≤ g ∧ g ≤ m ∧ (∀ i, j ≤ i → i < g → qx L i j = 0) ∧ (g < m → qx L g j ≠ 0) ∧
      whlLoop (fun ρ => (evE F (c_Ldeterminant_1 I) ρ).bind fun d ρ => truthM d ρ) (evSs F (b_Ldeterminant_1 I)) N [s0, .own (L.map ld), .un, s3, .dat (dn j), .dat (dn f), s6, s7, s8, s9] = .ok .nx [s0, .own (L.map ld), .un, s3, .dat (dn j), .dat (dn g), s6, s7, s8, s9] := by
    intro t
    induction t with
    | zero =>
      intro f N hf hjf hN hz
      obtain ⟨N, rfl⟩ : ∃ k, N = k + 1 := ⟨N - 1, by omega⟩
      refine ⟨f, hjf, by omega, hz, fun h => absurd h (by omega), ?_⟩
      have d2 : decide (f < m) = false := decide_eq_false (by omega)
      exact whl_f (by show ((evE F (c_Ldeterminant_1 I) _).bind _) = _; rw [cond f (by omega), d2, Bool.false_and])
    | succ t ih =>
      intro f N hf hjf hN hz
      obtain ⟨N, rfl⟩ : ∃ k, N = k + 1 := ⟨N - 1, by omega⟩
      have d2 : decide (f < m) = true := decide_eq_true (by omega)
      by_cases h0 : qx L f j = 0
      · obtain ⟨g, h1, h2, h3, h4, h5⟩ := ih (f + 1) N (by omega) (by omega) (by omega) fun i hi hi2 => by
          by_cases e : i = f
          · rw [e]; exact h0
          · exact hz i hi (by omega)
        refine ⟨g, h1, h2, h3, h4, ?_⟩
        rw [whl_t (by show ((evE F (c_Ldeterminant_1 I) _).bind _) = _; rw [cond f (by omega), d2, decide_eq_true h0, Bool.true_and]) (body f)]
        exact h5
      · refine ⟨f, hjf, by omega, hz, fun _ => h0, ?_⟩
        exact whl_f (by show ((evE F (c_Ldeterminant_1 I) _).bind _) = _; rw [cond f (by omega), d2, decide_eq_false h0, Bool.true_and])
  have hW : 101 ≤ WF := by decide +kernel
  obtain ⟨g, h1, h2, h3, h4, h5⟩ := key (m - j) j WF (by omega) (Nat.le_refl j) (by omega) fun i h1 h2 => absurd h2 (by omega)
  exact ⟨g, h1, h2, h3, h4, h5⟩
end
end Sm
end

section
set_option linter.all false
set_option autoImplicit false
set_option maxRecDepth 100000
/-! D5: the law's determinant: the walk. -/
namespace Sm
open PySem DetQ
local macro_rules | `(tactic| simp! [$ls,*]) => `(tactic| simp only [evSs, evS, evE, evEs, as_nil, as_io, as_scr, as_bor, as_var, as_non, as_bl, as_int, as_str, as_tup, as_lst, as_bin, as_neg, as_not, as_cmp, as_and, as_or, as_ife, as_idx, as_slc, as_slcS, as_call, as_cal, as_isi, as_lc, hof_bor, hof_var, hof_non, hof_bl, hof_int, hof_str, hof_tup, hof_lst, hof_bin, hof_neg, hof_not, hof_cmp, hof_and, hof_or, hof_ife, hof_idx, hof_slc, hof_slcS, hof_call, hof_cal, hof_isi, hof_lc, evPof, evIt, Res.bind, rdB, rdE, rdO, rdS, Hd.look, opt, Sl.see, List.getElem?_cons_zero, List.getElem?_cons_succ, List.getD_cons_zero, List.getD_cons_succ, len_tup, len_lst, bi_int, bi_intb, bi_abs, bi_tupl, bi_tupt, bi_lstl, bi_lstt, bi_gcd, Cop.ev, Bop.ev, add_ii, add_tt, add_ll, sub_ii, neg_ii, D.ltI, isN_n, isN_i, isN_t, isN_l, isN_b, items_t, items_l, eqv_int, truthM, D.truth, nx, put_free, free_un, free_dat, free_own, free_bor, chg, List.set, asListO, It.locks, Ex.lock, Sl.lock, Sl.unlock, lockE, unlockE, wipeE, backE, fillA, callM, ioBack, iosOf, Option.map_some, if_true, List.length_cons, List.length_nil, List.replicate, List.cons_append, List.nil_append, List.append_nil, Nat.zero_add, List.any_cons, List.any_nil, ty_int_obj, ty_bool_obj, ty_str_obj, ty_list_obj, ty_tuple_obj, ty_cls_non, ty_cls_bl, ty_cls_int, ty_cls_str, ty_cls_tup, ty_cls_lst, ty_cls_obj, ty_int_non, ty_int_bl, ty_int_int, ty_int_str, ty_int_tup, ty_int_lst, ty_bool_non, ty_bool_bl, ty_bool_int, ty_bool_str, ty_bool_tup, ty_bool_lst, ty_str_non, ty_str_bl, ty_str_int, ty_str_str, ty_str_tup, ty_str_lst, ty_list_non, ty_list_bl, ty_list_int, ty_list_str, ty_list_tup, ty_list_lst, ty_tuple_non, ty_tuple_bl, ty_tuple_int, ty_tuple_str, ty_tuple_tup, ty_tuple_lst, Bool.or_false, Bool.false_or, Bool.not_true, Bool.not_false, Bool.true_or, Bool.or_true, ap_nil, ap1, ap2, ap3, ap4, ap_b, ap_bb, ap_bd, ap_db, ap_bdd, ap_dbd, ap_dbdd, ap_bbd, ap_ddbd, ap_dbb, ap_ddb, ap_bdb, ap_bddb, ap_bddbd, ap_s, ap_do, ap_dodd, ap_doddd, idx0l, idx0t, idx1l, idx1t, Nat.reduceAdd, Nat.reduceSub, Nat.reduceLeDiff, List.drop, Tg.put, intP, frzE, beq_self_eq_true, size1, size2, size0, $ls,*])
theorem getD_setQ {V : List (List Rat)} {j i : Nat} {r : List Rat} (hj : j < V.length) : (V.set j r).getD i [] = if i = j then r else V.getD i [] := by
  simp only [List.getD_eq_getElem?_getD, List.getElem?_set]
  by_cases h : j = i
  · subst h; simp [hj]
  · simp [h, Ne.symm h]
theorem own9 {ρ : En} {i : Nat} {s : Sl} (h : ρ[i]? = some s) (hs : s = .un ∨ ∃ d, s = .dat d) : ownFree ρ [i] = true := by
  unfold ownFree
  rw [List.all_cons, h]
  rcases hs with rfl | ⟨d, rfl⟩ <;> rfl
section
variable {T : List Fn} {I : Ix} {n : Nat}
theorem ldet_in (H : HLdet T I) {L : List (List Rat)} {m b j : Nat} {s0 s3 s5 s6 s7 s8 : Sl} (hl : L.length = m) (hw : ∀ v ∈ L, v.length = m) (hj : j < m) (hm : m ≤ 50) (hb : 1 ≤ b) (hb2 : 3 * b ≤ 4400) (hs : ∀ v ∈ L, ∀ q ∈ v, Sz b q) (h0 : qx L j j ≠ 0) (f7 : s7.free = true) (f8 : s8.free = true) :
    ∃ (V : List (List Rat)) (t7 t8 : Sl), evS (evF T (n + 5)) (s_Ldeterminant_2 I) [s0, .own (L.map ld), .un, s3, .dat (dn j), s5, s6, s7, s8, .un] = .ok .nx [s0, .own (V.map ld), .un, s3, .dat (dn j), s5, s6, t7, t8, .un] ∧ t7.free = true ∧ t8.free = true ∧ V.length = m ∧ ∀ i, i < m → V.getD i [] = if j < i then rsub (L.getD i []) (L.getD j []) j m else L.getD i [] := by
  have r2 := rng2_n (a := j + 1) (b := m) (le_size (by omega)) (le_size (by omega))
  have hit : evIt (evF T (n + 5)) (.rng2 (.bin .add (.var 4) (.int 1)) (.cal .len (.cons (.bor 1) .nil))) [s0, .own (L.map ld), .un, s3, .dat (dn j), s5, s6, s7, s8, .un] = .ok ((List.range (m - (j + 1))).map fun k => dn (j + 1 + k)) [s0, .own (L.map ld), .un, s3, .dat (dn j), s5, s6, s7, s8, .un] := by
    have e : (j : Int) + 1 = ((j + 1 : Nat) : Int) := rfl
    simp! [dn, List.length_map, hl, e, r2]
  have lm : ∀ i, i < m → L.getD i [] ∈ L := fun i hi => getD_mem (by omega)
  obtain ⟨ρ', e, V, t7, t8, rfl, f7', f8', hV, hV2⟩ := for_go (tg := .nm 7) (body := evSs (evF T (n + 5)) (b_Ldeterminant_2 I)) (fun k => dn (j + 1 + k)) (List.range (m - (j + 1))) (fun k ρ => ∃ (V : List (List Rat)) (t7 t8 : Sl), ρ = [s0, .own (V.map ld), .un, s3, .dat (dn j), s5, s6, t7, t8, .un] ∧ t7.free = true ∧ t8.free = true ∧ V.length = m ∧ ∀ i, i < m → V.getD i [] = if j < i ∧ i < j + 1 + k then rsub (L.getD i []) (L.getD j []) j m else L.getD i []) (ρ := [s0, .own (L.map ld), .un, s3, .dat (dn j), s5, s6, s7, s8, .un]) ⟨L, s7, s8, rfl, f7, f8, hl, fun i _ => by rw [if_neg (by omega)]⟩ (by
    rintro k a ρ ha ⟨V, t7, t8, rfl, g7, g8, hV, hV2⟩
    have hk : k < m - (j + 1) := by
      have := (List.getElem?_eq_some_iff.mp ha).1
      rwa [List.length_range] at this
    have ea : a = k := by
      rw [List.getElem?_range hk] at ha
      exact (Option.some.inj ha).symm
    subst ea
    generalize hi : j + 1 + a = i at *
    have him : i < m := by omega
    have eV : V.getD i [] = L.getD i [] := by rw [hV2 i him, if_neg (by omega)]
    have eJ : V.getD j [] = L.getD j [] := by rw [hV2 j hj, if_neg (by omega)]
    have i1 : D.idx (.lst (V.map ld)) (.int (i : Int)) = some (ld (L.getD i [])) := by rw [← eV]; exact idx_lds (by omega)
    have i2 : D.idx (.lst (V.map ld)) (.int (j : Int)) = some (ld (L.getD j [])) := by rw [← eJ]; exact idx_lds (by omega)
    have wi := hw _ (lm i him)
    have wj := hw _ (lm j hj)
    have i3 := idx_ld (v := L.getD i []) (c := j) (by omega)
    have i4 := idx_ld (v := L.getD j []) (c := j) (by omega)
    have si := hs _ (lm i him)
    have sj := hs _ (lm j hj)
    have cov := over_ok (n := n + 2) H.Lover H.Lfrac H.Lgcd (sz_getD (c := j) hb si) (sz_getD (c := j) hb sj) (by omega) h0 (a := .d (fr ((L.getD i []).getD j 0))) (b := .d (fr ((L.getD j []).getD j 0))) arD arD
    have szf : Sz (2 * b) ((L.getD i []).getD j 0 / (L.getD j []).getD j 0) := ((sz_getD (c := j) hb si).div (sz_getD (c := j) hb sj) h0).mono (by omega)
    have lc : evE (evF T (n + 5)) (e_Ldeterminant_1 I) [s0, .own (V.map ld), .un, s3, .dat (dn j), s5, s6, .dat (dn i), .dat (fr ((L.getD i []).getD j 0 / (L.getD j []).getD j 0)), .un] = .ok (ld (rsub (L.getD i []) (L.getD j []) j m)) [s0, .own (V.map ld), .un, s3, .dat (dn j), s5, s6, .dat (dn i), .dat (fr ((L.getD i []).getD j 0 / (L.getD j []).getD j 0)), .un] := by
      have e1 : ld (rsub (L.getD i []) (L.getD j []) j m) = .lst ((List.range m).map fun c => fr ((L.getD i []).getD c 0 - (L.getD i []).getD j 0 / (L.getD j []).getD j 0 * (L.getD j []).getD c 0)) := by rw [ld, rsub, List.map_map]; rfl
      rw [e1]
      refine lc_map (List.range m) dn _ (by simp! [List.length_map, hV, rng1_n (le_size (show m ≤ 100 by omega))]) rfl (le_size (by rw [List.length_range]; omega)) (fun c hc => ⟨_, rfl, rfl, ?_⟩) rfl
      have hc := List.mem_range.mp hc
      have j1 := idx_ld (v := L.getD i []) (c := c) (by omega)
      have j2 := idx_ld (v := L.getD j []) (c := c) (by omega)
      have c1 := by_ok (n := n + 2) H.Lby H.Lfrac H.Lgcd (szf.mono (show 2 * b ≤ 3 * b by omega)) ((sz_getD (c := c) hb sj).mono (show b ≤ 3 * b by omega)) hb2 (a := .d (fr ((L.getD i []).getD j 0 / (L.getD j []).getD j 0))) (b := .d (fr ((L.getD j []).getD c 0))) arD arD
      have c2 := minus_ok (n := n + 1) H.Lminus H.Lplus H.Lneg H.Lfrac H.Lgcd ((sz_getD (c := c) hb si).mono (show b ≤ 3 * b by omega)) ((szf.mul (sz_getD (c := c) hb sj)).mono (show 2 * b + b ≤ 3 * b by omega)) hb2 (a := .d (fr ((L.getD i []).getD c 0))) (b := .d (fr ((L.getD i []).getD j 0 / (L.getD j []).getD j 0 * (L.getD j []).getD c 0))) arD arD
      simp! [dn, i1, i2, j1, j2, c1, c2]
    have ix : L2.ixN V.length (i : Int) = some i := ixN_nat (by omega)
    have hst : (V.map ld).set i (ld (rsub (L.getD i []) (L.getD j []) j m)) = (V.set i (rsub (L.getD i []) (L.getD j []) j m)).map ld := by rw [List.map_set]
    refine ⟨.nx, _, ?_, .inl rfl, V.set i (rsub (L.getD i []) (L.getD j []) j m), .dat (dn i), .dat (fr ((L.getD i []).getD j 0 / (L.getD j []).getD j 0)), rfl, rfl, rfl, by rw [List.length_set]; exact hV, fun q hq => ?_⟩
    · simp only [dn] at lc
      simp! [b_Ldeterminant_2, dn, g7, g8, i1, i2, i3, i4, cov, lc, List.length_map, ix, stoD, hst]
    · rw [getD_setQ (by omega)]
      by_cases e : q = i
      · rw [if_pos e, if_pos ⟨by omega, by omega⟩, e]
      · rw [if_neg e, hV2 q hq]
        by_cases hi2 : j < q ∧ q < i
        · rw [if_pos hi2, if_pos ⟨by omega, by omega⟩]
        · rw [if_neg hi2, if_neg (fun h => hi2 ⟨by omega, by omega⟩)])
  rw [List.length_range] at hV2
  refine ⟨V, t7, t8, for_st3 hit rfl e rfl, f7', f8', hV, fun i hi => ?_⟩
  rw [hV2 i hi]
  by_cases e : j < i
  · rw [if_pos ⟨e, by omega⟩, if_pos e]
  · rw [if_neg (fun h => e h.1), if_neg e]
theorem swapQ_self {V : List (List Rat)} {k : Nat} (h : k < V.length) : swapQ V k k = V := by
  have e : V.getD k [] = V[k] := by rw [List.getD_eq_getElem?_getD, List.getElem?_eq_getElem h]; rfl
  unfold swapQ
  rw [List.set_set, e, List.set_getElem_self]
theorem ldet_out (H : HLdet T I) {L : List (List Rat)} {m b j : Nat} {A : Mx} {made : Rat} {s0 s4 s5 s6 s7 s8 : Sl} (R : LD m b A j L made) (hj : j < m) (hm : m ≤ 50) (hb : 1 ≤ b) (hC : Cb b m ≤ 5800) (f4 : s4.free = true) (f5 : s5.free = true) (f6 : s6.free = true) (f7 : s7.free = true) (f8 : s8.free = true) :
    (∃ ρ', ((Tg.put (.nm 4) (dn j) [s0, .own (L.map ld), .un, .dat (fr made), s4, s5, s6, s7, s8, .un]).bind fun _ ρ => evSs (evF T (n + 5)) (b_Ldeterminant_0 I) ρ) = .ok (.rt (fr 0)) ρ' ∧ DetQ.det m A = 0 ∧ iosOf [.b] ρ' = []) ∨
    ∃ ρ', ((Tg.put (.nm 4) (dn j) [s0, .own (L.map ld), .un, .dat (fr made), s4, s5, s6, s7, s8, .un]).bind fun _ ρ => evSs (evF T (n + 5)) (b_Ldeterminant_0 I) ρ) = .ok .nx ρ' ∧ ∃ (L' : List (List Rat)) (made' : Rat) (t4 t5 t6 t7 t8 : Sl), ρ' = [s0, .own (L'.map ld), .un, .dat (fr made'), t4, t5, t6, t7, t8, .un] ∧ LD m b A (j + 1) L' made' ∧ t4.free = true ∧ t5.free = true ∧ t6.free = true ∧ t7.free = true ∧ t8.free = true := by
  have hl := R.len
  have cp := Cb_pos (b := b) (j := j) hb
  have c4 : 4 * Cb b j + 3 ≤ Cb b m := by rw [← Cb_succ]; exact Cb_mono hj
  obtain ⟨f, h1, h2, h3, h4, ew⟩ := ldet_whl (F := evF T (n + 5)) (I := I) (L := L) (m := m) (j := j) (s0 := s0) (s3 := .dat (fr made)) (s6 := s6) (s7 := s7) (s8 := s8) (s9 := .un) hl R.wid hj (by omega)
  simp only [dn] at ew
  by_cases hf : f = m
  · left
    refine ⟨[s0, .own (L.map ld), .un, .dat (fr made), .dat (dn j), .dat (dn f), s6, s7, s8, .un], ?_, R.none hj fun i hi hi2 => h3 i hi (by omega), by cases s0 <;> rfl⟩
    have hb1 : ((f : Int) == (m : Int)) = true := by rw [hf]; exact beq_self_eq_true _
    have e0 : fr 0 = .tup [.int 0, .int 1] := rfl
    simp! [b_Ldeterminant_0, dn, f4, f5, ew, List.length_map, hl, hb1, e0]
  · right
    have hfm : f < m := by omega
    have hb1 : ((f : Int) == (m : Int)) = false := by rw [beq_eq_false_iff_ne]; omega
    have R1 := R.swap h1 hfm
    have hp : qx (swapQ L j f) j j = qx L f j := by
      unfold qx
      rw [swapQ_getD (by omega) (by omega)]
      have : tr j f j = f := if_pos rfl
      rw [this]
    have h0 : qx (swapQ L j f) j j ≠ 0 := by rw [hp]; exact h4 hfm
    have i1 : D.idx (.lst (L.map ld)) (.int (f : Int)) = some (ld (L.getD f [])) := idx_lds (by omega)
    have i2 : D.idx (.lst (L.map ld)) (.int (j : Int)) = some (ld (L.getD j [])) := idx_lds (by omega)
    have x1 : L2.ixN m (j : Int) = some j := ixN_nat (by omega)
    have x2 : L2.ixN m (f : Int) = some f := ixN_nat (by omega)
    have es : ((L.map ld).set f (ld (L.getD j []))).set j (ld (L.getD f [])) = (swapQ L j f).map ld := by
      unfold swapQ
      rw [List.map_set, List.map_set]
    have i3 : D.idx (.lst ((swapQ L j f).map ld)) (.int (j : Int)) = some (ld ((swapQ L j f).getD j [])) := idx_lds (by rw [R1.len]; omega)
    have i4 := idx_ld (v := (swapQ L j f).getD j []) (c := j) (by rw [R1.wid _ (getD_mem (by rw [R1.len]; omega))]; exact hj)
    have spv : Sz (Cb b j) ((swapQ L j f).getD j [] |>.getD j 0) := sz_getD cp (R1.sz _ (getD_mem (by rw [R1.len]; omega)))
    by_cases e : f = j
    · rw [if_pos e] at R1
      have hb2 : ((f : Int) == (j : Int)) = true := by rw [e]; exact beq_self_eq_true _
      have esw : swapQ L j f = L := by rw [e]; exact swapQ_self (by omega)
      rw [esw] at i3 i4 spv R1 h0
      have cb := by_ok (n := n + 2) H.Lby H.Lfrac H.Lgcd R.szm spv (by omega) (a := .d (fr made)) (b := .d (fr ((L.getD j []).getD j 0))) arD arD
      obtain ⟨V, t7, t8, ei, g7, g8, hV, hV2⟩ := ldet_in (n := n) H (s0 := s0) (s3 := .dat (fr (made * (L.getD j []).getD j 0))) (s5 := .dat (dn f)) (s6 := s6) (s7 := s7) (s8 := s8) hl R.wid hj hm cp (by omega) R.sz h0 f7 f8
      have R2 := R.step hb hj h0 hV hV2
      refine ⟨_, ?_, V, made * qx L j j, .dat (dn j), .dat (dn f), s6, t7, t8, rfl, R2, rfl, rfl, f6, g7, g8⟩
      simp only [dn] at ei
      have eq : qx L j j = (L.getD j []).getD j 0 := rfl
      simp! [b_Ldeterminant_0, dn, f4, f5, ew, List.length_map, hl, hb1, hb2, i2, i4, cb, ei, eq]
    · rw [if_neg e] at R1
      have hb2 : ((f : Int) == (j : Int)) = false := by rw [beq_eq_false_iff_ne]; omega
      have cn := neg_ok (n := n + 4) H.Lneg (p := made) (a := .d (fr made)) arD
      have cb := by_ok (n := n + 2) H.Lby H.Lfrac H.Lgcd R.szm.neg spv (by omega) (a := .d (fr (-made))) (b := .d (fr (((swapQ L j f).getD j []).getD j 0))) arD arD
      obtain ⟨V, t7, t8, ei, g7, g8, hV, hV2⟩ := ldet_in (n := n) H (s0 := s0) (s3 := .dat (fr (-made * ((swapQ L j f).getD j []).getD j 0))) (s5 := .dat (dn f)) (s6 := .dat (ld (L.getD f []))) (s7 := s7) (s8 := s8) R1.len R1.wid hj hm cp (by omega) R1.sz h0 f7 f8
      have R2 := R1.step hb hj h0 hV hV2
      refine ⟨_, ?_, V, -made * qx (swapQ L j f) j j, .dat (dn j), .dat (dn f), .dat (ld (L.getD f [])), t7, t8, rfl, R2, rfl, rfl, rfl, g7, g8⟩
      simp only [dn] at ei
      have eq : qx (swapQ L j f) j j = ((swapQ L j f).getD j []).getD j 0 := rfl
      have i5 : D.idx (.lst ((L.map ld).set f (ld (L.getD j [])))) (.int (j : Int)) = D.idx (.lst ((L.map ld).set f (ld (L.getD j [])))) (.int (j : Int)) := rfl
      simp! [b_Ldeterminant_0, dn, f4, f5, f6, ew, List.length_map, List.length_set, hl, hb1, hb2, i1, i2, x1, x2, stoD, es, i3, i4, cn, cb, ei, eq]
theorem Ldeterminant_ok (H : HLdet T I) {M : List (List Rat)} {b : Nat} (hm : M.length ≤ 50) (hw : ∀ v ∈ M, v.length = M.length) (hb : 1 ≤ b) (hs : ∀ v ∈ M, ∀ q ∈ v, Sz b q) (hC : Cb b M.length ≤ 5800) {a : Ar} (ha : ArB a (md M)) :
    evF T (n + 6) I.Ldeterminant [a] = .ok (fr (DetQ.det M.length (qx M))) [] := by
  have lc0 : evE (evF T (n + 5)) (e_Ldeterminant_0 I) [.bor (md M), .un, .un, .un, .un, .un, .un, .un, .un, .un] = .ok (.lst (M.map ld)) [.bor (md M), .un, .un, .un, .un, .un, .un, .un, .un, .un] := by
    refine lc_map M vd ld (by simp! [md]) rfl (le_size (by omega)) (fun v hv => ⟨_, rfl, rfl, ?_⟩) rfl
    have : Bi.ev .list [vd v] = some (ld v) := rfl
    simp! [this]
  rcases for_inv (tg := .nm 4) (body := evSs (evF T (n + 5)) (b_Ldeterminant_0 I)) dn (fun d ρ => d = fr 0 ∧ DetQ.det M.length (qx M) = 0 ∧ iosOf [.b] ρ = []) (List.range M.length) (fun j ρ => ∃ (L' : List (List Rat)) (made' : Rat) (t4 t5 t6 t7 t8 : Sl), ρ = [.bor (md M), .own (L'.map ld), .un, .dat (fr made'), t4, t5, t6, t7, t8, .un] ∧ LD M.length b (qx M) j L' made' ∧ t4.free = true ∧ t5.free = true ∧ t6.free = true ∧ t7.free = true ∧ t8.free = true) (ρ := [.bor (md M), .own (M.map ld), .un, .dat (fr 1), .un, .un, .un, .un, .un, .un]) ⟨M, 1, .un, .un, .un, .un, .un, rfl, LD.start rfl hw hb hs, rfl, rfl, rfl, rfl, rfl⟩ (by
    rintro j a ρ ha ⟨L, made, t4, t5, t6, t7, t8, rfl, R, f4, f5, f6, f7, f8⟩
    have hj : j < M.length := by
      have := (List.getElem?_eq_some_iff.mp ha).1
      rwa [List.length_range] at this
    have ea : a = j := by
      rw [List.getElem?_range hj] at ha
      exact (Option.some.inj ha).symm
    subst ea
    rcases ldet_out (n := n) H (s0 := .bor (md M)) R hj hm hb hC f4 f5 f6 f7 f8 with ⟨ρ', q1, q2, q3⟩ | ⟨ρ', q1, L', made', u4, u5, u6, u7, u8, rfl, q4, q5⟩
    · exact .inr ⟨_, ρ', q1, rfl, q2, q3⟩
    · exact .inl ⟨.nx, _, q1, .inl rfl, L', made', u4, u5, u6, u7, u8, rfl, q4, q5⟩) with ⟨ρ', el, L, made, t4, t5, t6, t7, t8, rfl, R, f4, f5, f6, f7, f8⟩ | ⟨d, ρ', el, rfl, hd, hio⟩
  · rw [List.length_range] at R
    have es : evS (evF T (n + 5)) (s_Ldeterminant_0 I) [.bor (md M), .own (M.map ld), .un, .dat (.tup [.int 1, .int 1]), .un, .un, .un, .un, .un, .un] = .ok .nx [.bor (md M), .own (L.map ld), .un, .dat (fr made), t4, t5, t6, t7, t8, .un] := for_st3 (by simp! [List.length_map, rng1_n (le_size (show M.length ≤ 100 by omega))]) rfl el rfl
    rw [← R.done]
    rw [run_eq H.Ldeterminant (entry_b1 ha)]
    simp! [F_Ldeterminant, lc0, es]
  · have es : evS (evF T (n + 5)) (s_Ldeterminant_0 I) [.bor (md M), .own (M.map ld), .un, .dat (.tup [.int 1, .int 1]), .un, .un, .un, .un, .un, .un] = .ok (.rt (fr 0)) ρ' := for_st3 (by simp! [List.length_map, rng1_n (le_size (show M.length ≤ 100 by omega))]) rfl el rfl
    rw [hd]
    have hio2 : iosOf (F_Ldeterminant I).mos ρ' = [] := hio
    have eb : evSs (evF T (n + 5)) (F_Ldeterminant I).body [.bor (md M), .un, .un, .un, .un, .un, .un, .un, .un, .un] = .ok (.rt (fr 0)) ρ' := by
      simp! [F_Ldeterminant, lc0, es]
    rw [run_eq H.Ldeterminant (entry_b1 ha)]
    show (match evSs (evF T (n + 5)) (F_Ldeterminant I).body [.bor (md M), .un, .un, .un, .un, .un, .un, .un, .un, .un] with
      | .ok (.rt d) ρ => FRes.ok d (iosOf (F_Ldeterminant I).mos ρ)
      | .ok .nx ρ => if (F_Ldeterminant I).own = true then .bad else .ok .non (iosOf (F_Ldeterminant I).mos ρ)
      | .exc c x _ => if (F_Ldeterminant I).mos.contains .o = true then .bad else .exc c x
      | _ => .bad) = _
    rw [eb]
    show FRes.ok _ (iosOf (F_Ldeterminant I).mos ρ') = _
    rw [hio2]
end
end Sm
end

section
set_option linter.all false
set_option autoImplicit false
set_option maxRecDepth 100000
/-! D6: the law's sums of rows; what is a fraction, a vector. -/
namespace Sm
open PySem DetQ
local macro_rules | `(tactic| simp! [$ls,*]) => `(tactic| simp only [evSs, evS, evE, evEs, as_nil, as_io, as_scr, as_bor, as_var, as_non, as_bl, as_int, as_str, as_tup, as_lst, as_bin, as_neg, as_not, as_cmp, as_and, as_or, as_ife, as_idx, as_slc, as_slcS, as_call, as_cal, as_isi, as_lc, hof_bor, hof_var, hof_non, hof_bl, hof_int, hof_str, hof_tup, hof_lst, hof_bin, hof_neg, hof_not, hof_cmp, hof_and, hof_or, hof_ife, hof_idx, hof_slc, hof_slcS, hof_call, hof_cal, hof_isi, hof_lc, evPof, evIt, Res.bind, rdB, rdE, rdO, rdS, Hd.look, opt, Sl.see, List.getElem?_cons_zero, List.getElem?_cons_succ, List.getD_cons_zero, List.getD_cons_succ, len_tup, len_lst, bi_int, bi_intb, bi_abs, bi_tupl, bi_tupt, bi_lstl, bi_lstt, bi_gcd, Cop.ev, Bop.ev, add_ii, add_tt, add_ll, sub_ii, neg_ii, D.ltI, isN_n, isN_i, isN_t, isN_l, isN_b, items_t, items_l, eqv_int, truthM, D.truth, nx, put_free, free_un, free_dat, free_own, free_bor, chg, List.set, asListO, It.locks, Ex.lock, Sl.lock, Sl.unlock, lockE, unlockE, wipeE, backE, fillA, callM, ioBack, iosOf, Option.map_some, if_true, List.length_cons, List.length_nil, List.replicate, List.cons_append, List.nil_append, List.append_nil, Nat.zero_add, List.any_cons, List.any_nil, ty_int_obj, ty_bool_obj, ty_str_obj, ty_list_obj, ty_tuple_obj, ty_cls_non, ty_cls_bl, ty_cls_int, ty_cls_str, ty_cls_tup, ty_cls_lst, ty_cls_obj, ty_int_non, ty_int_bl, ty_int_int, ty_int_str, ty_int_tup, ty_int_lst, ty_bool_non, ty_bool_bl, ty_bool_int, ty_bool_str, ty_bool_tup, ty_bool_lst, ty_str_non, ty_str_bl, ty_str_int, ty_str_str, ty_str_tup, ty_str_lst, ty_list_non, ty_list_bl, ty_list_int, ty_list_str, ty_list_tup, ty_list_lst, ty_tuple_non, ty_tuple_bl, ty_tuple_int, ty_tuple_str, ty_tuple_tup, ty_tuple_lst, Bool.or_false, Bool.false_or, Bool.not_true, Bool.not_false, Bool.true_or, Bool.or_true, ap_nil, ap1, ap2, ap3, ap4, ap_b, ap_bb, ap_bd, ap_db, ap_bdd, ap_dbd, ap_dbdd, ap_bbd, ap_ddbd, ap_dbb, ap_ddb, ap_bdb, ap_bddb, ap_bddbd, ap_s, ap_do, ap_dodd, ap_doddd, idx0l, idx0t, idx1l, idx1t, Nat.reduceAdd, Nat.reduceSub, Nat.reduceLeDiff, List.drop, Tg.put, intP, frzE, beq_self_eq_true, size1, size2, size0, $ls,*])
structure HComb (T : List Fn) (I : Ix) : Prop extends HFrac T I where
  Lscaled : T[I.Lscaled]? = some (F_Lscaled I)
  Ladded : T[I.Ladded]? = some (F_Ladded I)
  Lcombined : T[I.Lcombined]? = some (F_Lcombined I)
  Lis_frac : T[I.Lis_frac]? = some (F_Lis_frac I)
  Lis_vec : T[I.Lis_vec]? = some (F_Lis_vec I)
section
variable {T : List Fn} {I : Ix} {n : Nat}
theorem Lunit_ok (H : T[I.Lunit]? = some (F_Lunit I)) {m k : Nat} (hm : m ≤ 100) {b : Ar} (hb : ArB b (.int (k : Int))) : evF T (n + 1) I.Lunit [.d (.int (m : Int)), b] = .ok (vd (uv m k)) [] := by
  have he : entry (F_Lunit I).mos [.d (.int (m : Int)), b] = some [.dat (dn m), .bor (dn k)] := by
    show (entry [.b] [b]).map _ = _
    rw [entry_b1 hb]
    rfl
  have lc : evE (evF T n) (e_Lunit_0 I) [.dat (dn m), .bor (dn k), .un] = .ok (.lst ((List.range m).map fun j => fr (if j = k then 1 else 0))) [.dat (dn m), .bor (dn k), .un] := by
    refine lc_map (List.range m) dn _ (by simp! [dn, rng1_n (le_size hm)]) rfl (le_size (by rw [List.length_range]; exact hm)) (fun j hj => ⟨_, rfl, rfl, ?_⟩) rfl
    by_cases e : j = k
    · have h1 : ((j : Int) == (k : Int)) = true := by rw [e]; exact beq_self_eq_true _
      rw [if_pos e]
      simp! [dn, h1]
      rfl
    · have h1 : ((j : Int) == (k : Int)) = false := by rw [beq_eq_false_iff_ne]; omega
      rw [if_neg e]
      simp! [dn, h1]
      rfl
  have ev : D.tup ((List.range m).map fun j => fr (if j = k then 1 else 0)) = vd (uv m k) := by
    rw [vd, uv, List.map_map]
    rfl
  rw [run_eq H he]
  simp! [F_Lunit, lc, ev]
theorem Lis_frac_ok (H : HComb T I) {q : Rat} {k : Nat} (hq : q.den < 2 ^ k) (hk : k ≤ 9000) {a : Ar} (ha : ArB a (fr q)) : evF T (n + 2) I.Lis_frac [a] = .ok (.bl true) [] := by
  have e1 := numeric_int (n := n) H.toHFrac (a := .d (.int q.num)) (x := q.num) arD
  have e2 := numeric_int (n := n) H.toHFrac (a := .d (.int (q.den : Int))) (x := (q.den : Int)) arD
  have hW : 2 * 9000 + 1 ≤ WF := by decide +kernel
  have g := gcd_ok (n := n) (i := I.Lgcd) H.Lgcd q.num (q.den : Int) (k := k) (by rw [Int.natAbs_natCast]; exact hq) (by omega)
  have gone : ((Int.gcd q.num (q.den : Int) : Nat) : Int) = 1 := by
    have := q.reduced
    have e : Int.gcd q.num (q.den : Int) = 1 := this
    rw [e]; rfl
  rw [gone] at g
  have l2 : ((((2 : Nat) : Int)) == 2) = true := by decide
  have d0 : decide ((0 : Int) < (q.den : Int)) = true := decide_eq_true (by have := q.den_pos; omega)
  have ist : fr q = .tup [.int q.num, .int q.den] := rfl
  have i1 : D.idx (.tup [.int q.num, .int (q.den : Int)]) (.int 0) = some (.int q.num) := rfl
  have i2 : D.idx (.tup [.int q.num, .int (q.den : Int)]) (.int 1) = some (.int (q.den : Int)) := rfl
  rw [ist] at ha
  rw [run_eq H.Lis_frac (entry_b1 ha)]
  simp! [F_Lis_frac, l2, i1, i2, e1, e2, d0, g]
theorem Lis_vec_ok (H : HComb T I) {v : List Rat} {k : Nat} (hq : ∀ q ∈ v, q.den < 2 ^ k) (hk : k ≤ 9000) (hs : v.length ≤ sizeLine) {a b : Ar} (ha : ArB a (vd v)) (hb : ArB b (.int (v.length : Int))) : evF T (n + 3) I.Lis_vec [a, b] = .ok (.bl true) [] := by
  have lc : evE (evF T (n + 2)) (e_Lis_vec_0 I) [.bor (vd v), .bor (.int (v.length : Int)), .un] = .ok (.lst ((v.filter fun _ => false).map fr)) [.bor (vd v), .bor (.int (v.length : Int)), .un] := by
    refine lc_fil v fr fr (fun _ => false) (by simp! [vd]) rfl hs (fun q hq2 => ⟨_, rfl, ?_, rfl, fun h => (nomatch h)⟩) rfl
    have := Lis_frac_ok (n := n) H (hq q hq2) hk (a := .d (fr q)) arD
    simp! [this]
  have ef : v.filter (fun _ => false) = [] := by simp
  rw [ef, List.map_nil] at lc
  have lv : Bi.ev .len [vd v] = some (.int (v.length : Int)) := by rw [vd, len_tup, List.length_map]
  have ht : ([Ty.tuple].any fun t => t.has (vd v)) = true := rfl
  have hb1 : ((v.length : Int) == (v.length : Int)) = true := beq_self_eq_true _
  have z : (((0 : Nat) : Int) == 0) = true := rfl
  have htt : Ty.tuple.has (vd v) = true := rfl
  rw [run_eq H.Lis_vec (entry_bb ha hb)]
  simp only [F_Lis_vec]
  simp! [htt, lv, lc, z]
theorem Lare_vecs_ok (H : HComb T I) (hA : T[I.Lare_vecs]? = some (F_Lare_vecs I)) {B : List (List Rat)} {w k : Nat} (hw : ∀ v ∈ B, v.length = w) (hq : ∀ v ∈ B, ∀ q ∈ v, q.den < 2 ^ k) (hk : k ≤ 9000) (hw2 : w ≤ sizeLine) (hs : B.length ≤ sizeLine) {a b : Ar} (ha : ArB a (md B)) (hb : ArB b (.int (w : Int))) : evF T (n + 4) I.Lare_vecs [a, b] = .ok (.bl true) [] := by
  have lc : evE (evF T (n + 3)) (e_Lare_vecs_0 I) [.bor (md B), .bor (.int (w : Int)), .un] = .ok (.lst ((B.filter fun _ => false).map vd)) [.bor (md B), .bor (.int (w : Int)), .un] := by
    refine lc_fil B vd vd (fun _ => false) (by simp! [md]) rfl hs (fun v hv => ⟨_, rfl, ?_, rfl, fun h => (nomatch h)⟩) rfl
    have := Lis_vec_ok (n := n) H (hq v hv) hk (by rw [hw v hv]; exact hw2) (a := .d (vd v)) (b := .b 1 (.int (w : Int))) arD (by rw [hw v hv]; exact arB)
    simp! [this]
  have ef : B.filter (fun _ => false) = [] := by simp
  rw [ef, List.map_nil] at lc
  have htt : Ty.tuple.has (md B) = true := rfl
  have z : (((0 : Nat) : Int) == 0) = true := rfl
  rw [run_eq hA (entry_bb ha hb)]
  simp! [F_Lare_vecs, htt, lc, z]
def addv (u v : List Rat) : List Rat := (List.range u.length).map fun k => u.getD k 0 + v.getD k 0
theorem Ladded_ok (H : HComb T I) {u v : List Rat} {k : Nat} (hk1 : 1 ≤ k) (hk : k ≤ 4400) (hu : ∀ q ∈ u, Sz k q) (hv : ∀ q ∈ v, Sz k q) (hl : v.length = u.length) (hs : u.length ≤ 100) {a b : Ar} (ha : ArB a (vd u)) (hb : ArB b (vd v)) : evF T (n + 4) I.Ladded [a, b] = .ok (vd (addv u v)) [] := by
  have lc : evE (evF T (n + 3)) (e_Ladded_0 I) [.bor (vd u), .bor (vd v), .un] = .ok (.lst ((List.range u.length).map fun k => fr (u.getD k 0 + v.getD k 0))) [.bor (vd u), .bor (vd v), .un] := by
    refine lc_map (List.range u.length) dn _ (by simp! [vd, List.length_map, rng1_n (le_size hs)]) rfl (le_size (by rw [List.length_range]; exact hs)) (fun j hj => ⟨_, rfl, rfl, ?_⟩) rfl
    have hj := List.mem_range.mp hj
    have j1 := idx_vd hj
    have j2 := idx_vd (v := v) (c := j) (by omega)
    have c := plus_ok (n := n) H.Lplus H.Lfrac H.Lgcd (sz_getD (c := j) hk1 hu) (sz_getD (c := j) hk1 hv) hk (a := .d (fr (u.getD j 0))) (b := .d (fr (v.getD j 0))) arD arD
    simp! [dn, j1, j2, c]
  have ev : D.tup ((List.range u.length).map fun k => fr (u.getD k 0 + v.getD k 0)) = vd (addv u v) := by rw [vd, addv, List.map_map]; rfl
  rw [run_eq H.Ladded (entry_bb ha hb)]
  simp! [F_Ladded, lc, ev]
theorem Lscaled_ok (H : HComb T I) {p : Rat} {v : List Rat} {k : Nat} (hk : k ≤ 4400) (hp : Sz k p) (hv : ∀ q ∈ v, Sz k q) (hs : v.length ≤ sizeLine) {a b : Ar} (ha : ArB a (fr p)) (hb : ArB b (vd v)) : evF T (n + 4) I.Lscaled [a, b] = .ok (vd (v.map fun q => p * q)) [] := by
  have lc : evE (evF T (n + 3)) (e_Lscaled_0 I) [.bor (fr p), .bor (vd v), .un] = .ok (.lst (v.map fun q => fr (p * q))) [.bor (fr p), .bor (vd v), .un] := by
    refine lc_map v fr _ (by simp! [vd]) rfl hs (fun q hq => ⟨_, rfl, rfl, ?_⟩) rfl
    have c := by_ok (n := n) H.Lby H.Lfrac H.Lgcd hp (hv q hq) hk (a := .b 0 (fr p)) (b := .d (fr q)) arB arD
    simp! [c]
  have ev : D.tup (v.map fun q => fr (p * q)) = vd (v.map fun q => p * q) := by rw [vd, List.map_map]; rfl
  rw [run_eq H.Lscaled (entry_bb ha hb)]
  simp! [F_Lscaled, lc, ev]
def combV (u : List Rat) (B : List (List Rat)) (m k : Nat) : List Rat := (List.range m).map fun c => sumTo k fun i => u.getD i 0 * qx B i c
theorem combV_len {u : List Rat} {B : List (List Rat)} {m k : Nat} : (combV u B m k).length = m := by unfold combV; rw [List.length_map, List.length_range]
theorem combV_getD {u : List Rat} {B : List (List Rat)} {m k c : Nat} (h : c < m) : (combV u B m k).getD c 0 = sumTo k fun i => u.getD i 0 * qx B i c := by
  unfold combV
  rw [List.getD_eq_getElem?_getD, List.getElem?_map, List.getElem?_range h]
  rfl
theorem combV_sz {u : List Rat} {B : List (List Rat)} {m a c : Nat} (ha : 1 ≤ a) (hc : 1 ≤ c) (hu : ∀ q ∈ u, Sz a q) (hB : ∀ v ∈ B, ∀ q ∈ v, Sz c q) : ∀ k, k ≤ B.length → ∀ q ∈ combV u B m k, Sz (1 + k * (a + c + 1)) q := fun k hk q hq => by
  obtain ⟨x, _, rfl⟩ := List.mem_map.mp hq
  have key : ∀ k, k ≤ B.length → Sz (1 + k * (a + c + 1)) (sumTo k fun i => u.getD i 0 * qx B i x) := by
    intro k
    induction k with
    | zero => intro _; exact Sz.zero (by omega)
    | succ k ih =>
      intro hk
      have h1 := ih (by omega)
      have h2 : Sz (a + c) (u.getD k 0 * qx B k x) := (sz_getD ha hu).mul (sz_getD hc (hB _ (getD_mem (by omega))))
      have e : 1 + (k + 1) * (a + c + 1) = (1 + k * (a + c + 1)) + (a + c) + 1 := by rw [Nat.succ_mul]; omega
      rw [e]
      exact h1.add h2
  exact key k hk
theorem combV_succ {u : List Rat} {B : List (List Rat)} {m k : Nat} (hw : (B.getD k []).length = m) : addv (combV u B m k) ((B.getD k []).map fun q => u.getD k 0 * q) = combV u B m (k + 1) := by
  have al : (addv (combV u B m k) ((B.getD k []).map fun q => u.getD k 0 * q)).length = m := by unfold addv; rw [List.length_map, List.length_range, combV_len]
  refine list_ext (by rw [al, combV_len]) fun c h1 => ?_
  have hc : c < m := by rw [al] at h1; exact h1
  rw [combV_getD hc]
  unfold addv
  rw [List.getD_eq_getElem?_getD, List.getElem?_map, List.getElem?_range (by rw [combV_len]; exact hc)]
  show (combV u B m k).getD c 0 + ((B.getD k []).map fun q => u.getD k 0 * q).getD c 0 = (sumTo k fun i => u.getD i 0 * qx B i c) + u.getD k 0 * qx B k c
  rw [combV_getD hc, getD_map' (d := 0) (by omega)]
  rfl
theorem Lcombined_ok (H : HComb T I) {u : List Rat} {B : List (List Rat)} {m a c : Nat} (ha1 : 1 ≤ a) (hc1 : 1 ≤ c) (hu : ∀ q ∈ u, Sz a q) (hB : ∀ v ∈ B, ∀ q ∈ v, Sz c q) (hw : ∀ v ∈ B, v.length = m) (hm : m ≤ 100) (hBl : B.length ≤ 100) (hsz : 1 + B.length * (a + c + 1) ≤ 4400) (hac : 1 ≤ B.length) {x : D} (hx : ∀ k, k < B.length → D.idx x (.int (k : Int)) = some (fr (u.getD k 0))) {p q : Ar} (hp : ArB p x) (hq : ArB q (md B)) :
    evF T (n + 5) I.Lcombined [p, q, .d (.int (m : Int))] = .ok (vd (combV u B m B.length)) [] := by
  have he : entry (F_Lcombined I).mos [p, q, .d (.int (m : Int))] = some [.bor x, .bor (md B), .dat (dn m)] := by
    show entry [.b, .b, .d] _ = _
    rw [entry_b hp, entry_b hq]
    rfl
  have lc : evE (evF T (n + 4)) (e_Lcombined_0 I) [.bor x, .bor (md B), .dat (dn m), .un, .un] = .ok (.lst ((List.range m).map fun _ => fr 0)) [.bor x, .bor (md B), .dat (dn m), .un, .un] := by
    refine lc_map (List.range m) dn _ (by simp! [dn, rng1_n (le_size hm)]) rfl (le_size (by rw [List.length_range]; exact hm)) (fun k hk => ⟨_, rfl, rfl, ?_⟩) rfl
    simp! []
    rfl
  have e0 : D.tup ((List.range m).map fun _ => fr 0) = vd (combV u B m 0) := by rw [vd, combV, List.map_map]; rfl
  have csz := combV_sz (m := m) ha1 hc1 hu hB
  obtain ⟨ρ', el, t4, rfl, f4⟩ := for_go (tg := .nm 4) (body := evSs (evF T (n + 4)) (b_Lcombined_0 I)) dn (List.range B.length) (fun j ρ => ∃ t4 : Sl, ρ = [.bor x, .bor (md B), .dat (dn m), .dat (vd (combV u B m j)), t4] ∧ t4.free = true) (ρ := [.bor x, .bor (md B), .dat (dn m), .dat (vd (combV u B m 0)), .un]) ⟨.un, rfl, rfl⟩ (by
    rintro j k ρ hk ⟨t4, rfl, f4⟩
    have hj : j < B.length := by
      have := (List.getElem?_eq_some_iff.mp hk).1
      rwa [List.length_range] at this
    have ek : k = j := by
      rw [List.getElem?_range hj] at hk
      exact (Option.some.inj hk).symm
    subst ek
    have i1 := hx k hj
    have i2 := idx_md hj
    have bw : (B.getD k []).length = m := hw _ (getD_mem hj)
    have hj2 : (k + 1) * (a + c + 1) ≤ B.length * (a + c + 1) := Nat.mul_le_mul_right _ hj
    have hj3 : (k + 1) * (a + c + 1) = k * (a + c + 1) + (a + c + 1) := Nat.succ_mul _ _
    have s1 := Lscaled_ok (n := n) H (p := u.getD k 0) (v := B.getD k []) (k := a + c) (by omega) ((sz_getD (c := k) ha1 hu).mono (by omega)) (fun q hq => (hB _ (getD_mem hj) q hq).mono (by omega)) (le_size (by omega)) (a := .d (fr (u.getD k 0))) (b := .d (vd (B.getD k []))) arD arD
    have s2 := Ladded_ok (n := n) H (u := combV u B m k) (v := (B.getD k []).map fun q => u.getD k 0 * q) (k := 1 + (k + 1) * (a + c + 1)) (by omega) (by omega) (fun q hq => (csz k (by omega) q hq).mono (by omega)) (fun q hq => by
      obtain ⟨y, hy, rfl⟩ := List.mem_map.mp hq
      exact ((sz_getD (c := k) ha1 hu).mul (hB _ (getD_mem hj) y hy)).mono (by omega)) (by rw [List.length_map, combV_len, bw]) (by rw [combV_len]; exact hm) (a := .d (vd (combV u B m k))) (b := .d (vd ((B.getD k []).map fun q => u.getD k 0 * q))) arD arD
    rw [combV_succ bw] at s2
    refine ⟨.nx, _, ?_, .inl rfl, .dat (dn k), rfl, rfl⟩
    simp! [b_Lcombined_0, dn, f4, i1, i2, s1, s2])
  rw [List.length_range] at el
  have lB : Bi.ev .len [md B] = some (.int (B.length : Int)) := by rw [md, len_tup, List.length_map]
  have es : evS (evF T (n + 4)) (s_Lcombined_0 I) [.bor x, .bor (md B), .dat (dn m), .dat (vd (combV u B m 0)), .un] = .ok .nx [.bor x, .bor (md B), .dat (dn m), .dat (vd (combV u B m B.length)), t4] := for_st3 (by simp! [lB, rng1_n (le_size hBl)]) rfl el rfl
  simp only [dn] at lc es
  rw [run_eq H.Lcombined he]
  simp! [F_Lcombined, dn, lc, e0, es]
end
end Sm
end

section
set_option linter.all false
namespace T_k04
open PySem Sm
def f0 : Fn := { name := "is_whole", names := ["value"], mos := [.b], own := false, body :=
  (.cons (.ret (.and_ (.isi (.bor 0) [.int]) (.not_ (.isi (.bor 0) [.bool])))) .nil) }
def f1 : Fn := { name := "is_row", names := ["value"], mos := [.b], own := false, body :=
  (.cons (.ret (.isi (.bor 0) [.list, .tuple])) .nil) }
def f2 : Fn := { name := "is_number", names := ["value"], mos := [.b], own := false, body :=
  (.cons (.ite (.call 1 (.cons (.bor 0) .nil)) (.cons (.ret (.and_ (.cmp .eq (.cal .len (.cons (.bor 0) .nil)) (.int 2)) (.and_ (.call 0 (.cons (.idx (.bor 0) (.int 0)) .nil)) (.and_ (.call 0 (.cons (.idx (.bor 0) (.int 1)) .nil)) (.cmp .gt (.idx (.bor 0) (.int 1)) (.int 0)))))) .nil) .nil) (.cons (.ret (.call 0 (.cons (.bor 0) .nil))) .nil)) }
def f3 : Fn := { name := "fraction", names := ["top", "bottom", "common"], mos := [.d, .d], own := false, body :=
  (.cons (.ite (.cmp .eq (.var 1) (.int 1)) (.cons (.ret (.tup (.cons (.var 0) (.cons (.int 1) .nil)))) .nil) .nil) (.cons (.set 2 (.cal .gcd (.cons (.var 0) (.cons (.var 1) .nil)))) (.cons (.ite (.cmp .lt (.var 1) (.int 0)) (.cons (.set 2 (.neg (.var 2))) .nil) .nil) (.cons (.ret (.tup (.cons (.bin .fdiv (.var 0) (.var 2)) (.cons (.bin .fdiv (.var 1) (.var 2)) .nil)))) .nil)))) }
def f4 : Fn := { name := "number_read", names := ["value"], mos := [.d], own := false, body :=
  (.cons (.ite (.not_ (.call 2 (.cons (.var 0) .nil))) (.cons (.ret .non) .nil) .nil) (.cons (.ite (.call 1 (.cons (.var 0) .nil)) (.cons (.ret (.call 3 (.cons (.idx (.var 0) (.int 0)) (.cons (.idx (.var 0) (.int 1)) .nil)))) .nil) .nil) (.cons (.ret (.tup (.cons (.var 0) (.cons (.int 1) .nil)))) .nil))) }
def f5 : Fn := { name := "vector_read", names := ["value", "size", "members", "one", "member"], mos := [.b, .b], own := false, body :=
  (.cons (.ite (.or_ (.not_ (.call 1 (.cons (.bor 0) .nil))) (.cmp .ne (.cal .len (.cons (.bor 0) .nil)) (.bor 1))) (.cons (.ret .non) .nil) .nil) (.cons (.setO 2 (.lst .nil)) (.cons (.for_ (.nm 3) (.seq (.bor 0)) (.cons (.set 4 (.call 4 (.cons (.var 3) .nil))) (.cons (.ite (.cmp .is_ (.var 4) .non) (.cons (.ret .non) .nil) .nil) (.cons (.app 2 (.var 4)) .nil)))) (.cons (.ret (.cal .tuple (.cons (.bor 2) .nil))) .nil)))) }
def f6 : Fn := { name := "vector_needed", names := ["value", "size", "at", "read"], mos := [.b, .b, .d], own := false, body :=
  (.cons (.set 3 (.call 5 (.cons (.bor 0) (.cons (.bor 1) .nil)))) (.cons (.ite (.cmp .is_ (.var 3) .non) (.cons .never .nil) .nil) (.cons (.ret (.var 3)) .nil))) }
def f7 : Fn := { name := "vectors_needed", names := ["value", "least", "most", "size", "at", "one"], mos := [.b, .b, .b, .b, .d], own := false, body :=
  (.cons (.ite (.or_ (.not_ (.call 1 (.cons (.bor 0) .nil))) (.or_ (.cmp .lt (.cal .len (.cons (.bor 0) .nil)) (.bor 1)) (.cmp .gt (.cal .len (.cons (.bor 0) .nil)) (.bor 2)))) (.cons .never .nil) .nil) (.cons (.ret (.cal .tuple (.cons (.lc (.nm 5) [5] (.seq (.bor 0)) (.bl true) (.call 6 (.cons (.var 5) (.cons (.bor 3) (.cons (.var 4) .nil))))) .nil))) .nil)) }
def f8 : Fn := { name := "rows_needed", names := ["value", "at", "size"], mos := [.b, .d], own := false, body :=
  (.cons (.ite (.or_ (.not_ (.call 1 (.cons (.bor 0) .nil))) (.or_ (.cmp .lt (.cal .len (.cons (.bor 0) .nil)) (.int 1)) (.not_ (.call 1 (.cons (.idx (.bor 0) (.int 0)) .nil))))) (.cons .never .nil) .nil) (.cons (.set 2 (.cal .len (.cons (.idx (.bor 0) (.int 0)) .nil))) (.cons (.ite (.or_ (.cmp .lt (.var 2) (.int 1)) (.cmp .gt (.var 2) (.int 8))) (.cons .never .nil) .nil) (.cons (.ret (.call 7 (.cons (.bor 0) (.cons (.int 1) (.cons (.int 24) (.cons (.var 2) (.cons (.var 1) .nil))))))) .nil)))) }
def f9 : Fn := { name := "unit", names := ["size", "place", "at"], mos := [.d, .b], own := false, body :=
  (.cons (.ret (.cal .tuple (.cons (.lc (.nm 2) [2] (.rng1 (.var 0)) (.bl true) (.ife (.cmp .eq (.var 2) (.bor 1)) (.tup (.cons (.int 1) (.cons (.int 1) .nil))) (.tup (.cons (.int 0) (.cons (.int 1) .nil))))) .nil))) .nil) }
def f10 : Fn := { name := "shared", names := ["vector", "bottom", "member", "top", "low"], mos := [.b], own := false, body :=
  (.cons (.set 1 (.int 1)) (.cons (.for_ (.nm 2) (.seq (.bor 0)) (.cons (.ite (.cmp .ne (.idx (.var 2) (.int 1)) (.int 1)) (.cons (.set 1 (.cal .lcm (.cons (.var 1) (.cons (.idx (.var 2) (.int 1)) .nil)))) .nil) .nil) .nil)) (.cons (.ret (.tup (.cons (.cal .tuple (.cons (.lc (.tp (.nm 3) (.tp (.nm 4) .nl)) [3, 4] (.seq (.bor 0)) (.bl true) (.bin .mul (.var 3) (.bin .fdiv (.var 1) (.var 4)))) .nil)) (.cons (.var 1) .nil)))) .nil))) }
def f11 : Fn := { name := "eliminated", names := ["row", "chosen", "place", "bottom", "factor", "extent", "one", "other"], mos := [.d, .b, .d, .d], own := false, body :=
  (.cons (.par [(4, false), (5, false)] (.cons (.idx (.bor 1) (.var 2)) (.cons (.idx (.var 0) (.var 2)) .nil))) (.cons (.ite (.cmp .eq (.var 5) (.int 0)) (.cons (.ite (.cmp .eq (.var 4) (.var 3)) (.cons (.ret (.var 0)) .nil) .nil) (.cons (.ret (.lc (.nm 6) [6] (.seq (.var 0)) (.bl true) (.bin .fdiv (.bin .mul (.var 4) (.var 6)) (.var 3)))) .nil)) .nil) (.cons (.ret (.lc (.tp (.nm 6) (.tp (.nm 7) .nl)) [6, 7] (.zip (.var 0) (.bor 1)) (.bl true) (.bin .fdiv (.bin .sub (.bin .mul (.var 4) (.var 6)) (.bin .mul (.var 5) (.var 7))) (.var 3)))) .nil))) }
def f12 : Fn := { name := "first_filled", names := ["work", "start", "place", "at"], mos := [.b, .d, .d], own := false, body :=
  (.cons (.for_ (.nm 3) (.rng2 (.var 1) (.cal .len (.cons (.bor 0) .nil))) (.cons (.ite (.cmp .ne (.idx (.idx (.bor 0) (.var 3)) (.var 2)) (.int 0)) (.cons (.ret (.var 3)) .nil) .nil) .nil)) (.cons (.ret .non) .nil)) }
def f13 : Fn := { name := "reduced", names := ["rows", "width", "work", "row", "pivots", "bottom", "place", "height", "found", "chosen", "at", "one"], mos := [.b, .d], own := false, body :=
  (.cons (.setO 2 (.lc (.nm 3) [3] (.seq (.bor 0)) (.bl true) (.cal .list (.cons (.var 3) .nil)))) (.cons (.setO 4 (.lst .nil)) (.cons (.set 5 (.int 1)) (.cons (.for_ (.nm 6) (.rng1 (.var 1)) (.cons (.set 7 (.cal .len (.cons (.bor 4) .nil))) (.cons (.set 8 (.call 12 (.cons (.bor 2) (.cons (.var 7) (.cons (.var 6) .nil))))) (.cons (.ite (.cmp .is_ (.var 8) .non) (.cons .cnt .nil) .nil) (.cons (.asgs [.sub 2 (.var 7), .sub 2 (.var 8)] (.cons (.idx (.bor 2) (.var 8)) (.cons (.idx (.bor 2) (.var 7)) .nil))) (.cons (.set 9 (.idx (.bor 2) (.var 7))) (.cons (.for_ (.nm 10) (.rng1 (.cal .len (.cons (.bor 2) .nil))) (.cons (.ite (.cmp .ne (.var 10) (.var 7)) (.cons (.sto 2 (.var 10) (.call 11 (.cons (.idx (.bor 2) (.var 10)) (.cons (.var 9) (.cons (.var 6) (.cons (.var 5) .nil)))))) .nil) .nil) .nil)) (.cons (.set 5 (.idx (.var 9) (.var 6))) (.cons (.app 4 (.var 6)) .nil))))))))) (.cons (.ite (.cmp .lt (.var 5) (.int 0)) (.cons (.setO 2 (.lc (.nm 3) [3] (.seq (.bor 2)) (.bl true) (.lc (.nm 11) [11] (.seq (.var 3)) (.bl true) (.neg (.var 11))))) (.cons (.set 5 (.neg (.var 5))) .nil)) .nil) (.cons (.frz 4) (.cons (.ret (.tup (.cons (.slc (.bor 2) .non (.cal .len (.cons (.bor 4) .nil))) (.cons (.var 4) (.cons (.var 5) .nil))))) .nil))))))) }
def f14 : Fn := { name := "determinant_of", names := ["rows", "work", "row", "sign", "bottom", "place", "found", "chosen", "at"], mos := [.b], own := false, body :=
  (.cons (.setO 1 (.lc (.nm 2) [2] (.seq (.bor 0)) (.bl true) (.cal .list (.cons (.var 2) .nil)))) (.cons (.par [(3, false), (4, false)] (.cons (.int 1) (.cons (.int 1) .nil))) (.cons (.for_ (.nm 5) (.rng1 (.cal .len (.cons (.bor 1) .nil))) (.cons (.set 6 (.call 12 (.cons (.bor 1) (.cons (.var 5) (.cons (.var 5) .nil))))) (.cons (.ite (.cmp .is_ (.var 6) .non) (.cons (.ret (.int 0)) .nil) .nil) (.cons (.ite (.cmp .ne (.var 6) (.var 5)) (.cons (.asgs [.sub 1 (.var 5), .sub 1 (.var 6)] (.cons (.idx (.bor 1) (.var 6)) (.cons (.idx (.bor 1) (.var 5)) .nil))) (.cons (.set 3 (.neg (.var 3))) .nil)) .nil) (.cons (.set 7 (.idx (.bor 1) (.var 5))) (.cons (.for_ (.nm 8) (.rng2 (.bin .add (.var 5) (.int 1)) (.cal .len (.cons (.bor 1) .nil))) (.cons (.sto 1 (.var 8) (.call 11 (.cons (.idx (.bor 1) (.var 8)) (.cons (.var 7) (.cons (.var 5) (.cons (.var 4) .nil)))))) .nil)) (.cons (.set 4 (.idx (.var 7) (.var 5))) .nil))))))) (.cons (.ret (.bin .mul (.var 3) (.var 4))) .nil)))) }
def f15 : Fn := { name := "fractions_of", names := ["row", "bottom", "top"], mos := [.b, .d], own := false, body :=
  (.cons (.ret (.cal .tuple (.cons (.lc (.nm 2) [2] (.seq (.bor 0)) (.bl true) (.call 3 (.cons (.var 2) (.cons (.var 1) .nil)))) .nil))) .nil) }
def f16 : Fn := { name := "square_needed", names := ["value", "at", "told"], mos := [.b, .d], own := false, body :=
  (.cons (.set 2 (.call 8 (.cons (.bor 0) (.cons (.var 1) .nil)))) (.cons (.ite (.cmp .ne (.cal .len (.cons (.var 2) .nil)) (.cal .len (.cons (.idx (.var 2) (.int 0)) .nil))) (.cons .never .nil) .nil) (.cons (.ret (.var 2)) .nil))) }
def f17 : Fn := { name := "determinant", names := ["rows", "told", "bottom", "work", "row", "tops", "low"], mos := [.b], own := false, body :=
  (.cons (.set 1 (.call 16 (.cons (.bor 0) (.cons (.int 1) .nil)))) (.cons (.set 2 (.int 1)) (.cons (.setO 3 (.lst .nil)) (.cons (.for_ (.nm 4) (.seq (.var 1)) (.cons (.unp (.tp (.nm 5) (.tp (.nm 6) .nl)) (.call 10 (.cons (.var 4) .nil))) (.cons (.app 3 (.var 5)) (.cons (.set 2 (.bin .mul (.var 2) (.var 6))) .nil)))) (.cons (.ret (.call 3 (.cons (.call 14 (.cons (.bor 3) .nil)) (.cons (.var 2) .nil)))) .nil))))) }
def f18 : Fn := { name := "inverse", names := ["rows", "told", "size", "work", "at", "row", "stood", "pivots", "bottom"], mos := [.b], own := false, body :=
  (.cons (.set 1 (.call 16 (.cons (.bor 0) (.cons (.int 1) .nil)))) (.cons (.set 2 (.cal .len (.cons (.var 1) .nil))) (.cons (.set 3 (.lc (.tp (.nm 4) (.tp (.nm 5) .nl)) [4, 5] (.enum (.var 1)) (.bl true) (.idx (.call 10 (.cons (.bin .add (.var 5) (.call 9 (.cons (.var 2) (.cons (.var 4) .nil)))) .nil)) (.int 0)))) (.cons (.unp (.tp (.nm 6) (.tp (.nm 7) (.tp (.nm 8) .nl))) (.call 13 (.cons (.var 3) (.cons (.var 2) .nil)))) (.cons (.ite (.cmp .lt (.cal .len (.cons (.var 7) .nil)) (.var 2)) (.cons (.ret .non) .nil) .nil) (.cons (.ret (.cal .tuple (.cons (.lc (.nm 5) [5] (.seq (.var 6)) (.bl true) (.call 15 (.cons (.slc (.var 5) (.var 2) .non) (.cons (.var 8) .nil)))) .nil))) .nil)))))) }
def f19 : Fn := { name := "_law_so", names := ["found", "meant", "k"], mos := [.b, .b], own := false, body :=
  (.cons (.ite (.cmp .is_ (.bor 1) .non) (.cons (.ret (.cmp .is_ (.bor 0) .non)) .nil) .nil) (.cons (.ite (.isi (.bor 1) [.tuple]) (.cons (.ite (.or_ (.not_ (.isi (.bor 0) [.tuple])) (.cmp .ne (.cal .len (.cons (.bor 0) .nil)) (.cal .len (.cons (.bor 1) .nil)))) (.cons (.ret (.bl false)) .nil) .nil) (.cons (.for_ (.nm 2) (.rng1 (.cal .len (.cons (.bor 1) .nil))) (.cons (.ite (.not_ (.call 19 (.cons (.idx (.bor 0) (.var 2)) (.cons (.idx (.bor 1) (.var 2)) .nil)))) (.cons (.ret (.bl false)) .nil) .nil) .nil)) (.cons (.ret (.bl true)) .nil))) .nil) (.cons (.ite (.or_ (.isi (.bor 1) [.bool]) (.isi (.bor 0) [.bool])) (.cons (.ret (.and_ (.isi (.bor 1) [.bool]) (.and_ (.isi (.bor 0) [.bool]) (.cmp .eq (.bor 0) (.bor 1))))) .nil) .nil) (.cons (.ite (.isi (.bor 1) [.int]) (.cons (.ret (.and_ (.isi (.bor 0) [.int]) (.cmp .eq (.bor 0) (.bor 1)))) .nil) .nil) (.cons (.ret (.and_ (.isi (.bor 1) [.str]) (.and_ (.isi (.bor 0) [.str]) (.cmp .eq (.bor 0) (.bor 1))))) .nil))))) }
def f20 : Fn := { name := "_law_numbers", names := ["script", "row", "cell", "left", "k", "mixed"], mos := [.s], own := false, body :=
  (.cons (.setO 1 (.lst .nil)) (.cons (.for_ (.nm 2) (.seq (.slcS 0 .non (.int 63))) (.cons (.ite (.cmp .ge (.var 2) (.bin .pow (.int 10) (.int 18))) (.cons (.set 3 (.var 2)) (.cons (.for_ (.nm 4) (.rng1 (.int 60)) (.cons (.ite (.cmp .eq (.var 3) (.int 0)) (.cons .brk .nil) .nil) (.cons (.app 1 (.bin .mod (.cal .int_ (.cons (.var 3) .nil)) (.int 997))) (.cons (.set 3 (.bin .fdiv (.var 3) (.int 997))) .nil)))) .nil)) (.cons (.for_ (.nm 4) (.rng1 (.int 4)) (.cons (.set 5 (.bin .mod (.cal .int_ (.cons (.bin .add (.bin .add (.bin .mul (.var 2) (.int 48271)) (.bin .mul (.var 4) (.int 69621))) (.int 11)) .nil)) (.int 2147483647))) (.cons (.app 1 (.bin .mod (.cal .int_ (.cons (.bin .add (.bin .mul (.var 5) (.int 16807)) (.var 4)) .nil)) (.int 2147483629))) .nil))) .nil)) .nil)) (.cons (.ite (.cmp .eq (.cal .len (.cons (.bor 1) .nil)) (.int 0)) (.cons (.app 1 (.int 0)) .nil) .nil) (.cons (.frz 1) (.cons (.ret (.var 1)) .nil))))) }
def f21 : Fn := { name := "_law_draw", names := ["row", "at", "limit", "mixed"], mos := [.b, .d, .d], own := false, body :=
  (.cons (.ite (.cmp .lt (.var 1) (.cal .len (.cons (.bor 0) .nil))) (.cons (.ret (.bin .mod (.cal .int_ (.cons (.idx (.bor 0) (.var 1)) .nil)) (.var 2))) .nil) .nil) (.cons (.set 3 (.bin .mod (.cal .int_ (.cons (.bin .add (.bin .add (.bin .mul (.idx (.bor 0) (.bin .mod (.cal .int_ (.cons (.var 1) .nil)) (.cal .len (.cons (.bor 0) .nil)))) (.int 40692)) (.bin .mul (.var 1) (.int 7919))) (.int 3)) .nil)) (.int 2147483399))) (.cons (.ret (.bin .mod (.cal .int_ (.cons (.bin .mod (.cal .int_ (.cons (.bin .add (.bin .mul (.var 3) (.int 48271)) (.var 1)) .nil)) (.int 2147483647)) .nil)) (.var 2))) .nil))) }
def f22 : Fn := { name := "_law_take", names := ["row", "spot", "limit"], mos := [.b, .o, .d], own := false, body :=
  (.cons (.sto 1 (.int 0) (.bin .add (.idx (.bor 1) (.int 0)) (.int 1))) (.cons (.ret (.call 21 (.cons (.bor 0) (.cons (.bin .sub (.idx (.bor 1) (.int 0)) (.int 1)) (.cons (.var 2) .nil))))) .nil)) }
def f23 : Fn := { name := "_law_loose", names := ["value", "turn", "made", "one"], mos := [.d, .d], own := false, body :=
  (.cons (.ite (.isi (.var 0) [.tuple]) (.cons (.set 2 (.lc (.nm 3) [3] (.seq (.var 0)) (.bl true) (.call 23 (.cons (.var 3) (.cons (.bin .add (.var 1) (.int 1)) .nil))))) (.cons (.ret (.ife (.cmp .eq (.bin .mod (.cal .int_ (.cons (.var 1) .nil)) (.int 2)) (.int 0)) (.var 2) (.cal .tuple (.cons (.var 2) .nil)))) .nil)) .nil) (.cons (.ret (.var 0)) .nil)) }
def f24 : Fn := { name := "_law_numeric", names := ["value"], mos := [.b], own := false, body :=
  (.cons (.ret (.and_ (.isi (.bor 0) [.int]) (.not_ (.isi (.bor 0) [.bool])))) .nil) }
def f25 : Fn := { name := "_law_gcd", names := ["one", "two", "first", "second", "rest"], mos := [.d, .d], own := false, body :=
  (.cons (.set 2 (.cal .abs (.cons (.var 0) .nil))) (.cons (.set 3 (.cal .abs (.cons (.var 1) .nil))) (.cons (.whl (.cmp .ne (.var 3) (.int 0)) (.cons (.set 4 (.bin .mod (.cal .int_ (.cons (.var 2) .nil)) (.var 3))) (.cons (.set 2 (.var 3)) (.cons (.set 3 (.var 4)) .nil)))) (.cons (.ret (.var 2)) .nil)))) }
def f26 : Fn := { name := "_law_frac", names := ["top", "bottom", "common"], mos := [.d, .d], own := false, body :=
  (.cons (.set 2 (.call 25 (.cons (.var 0) (.cons (.var 1) .nil)))) (.cons (.ite (.cmp .lt (.var 1) (.int 0)) (.cons (.set 2 (.bin .sub (.int 0) (.var 2))) .nil) .nil) (.cons (.ret (.tup (.cons (.bin .fdiv (.var 0) (.var 2)) (.cons (.bin .fdiv (.var 1) (.var 2)) .nil)))) .nil))) }
def f27 : Fn := { name := "_law_num", names := ["value"], mos := [.d], own := false, body :=
  (.cons (.ret (.ife (.call 24 (.cons (.var 0) .nil)) (.tup (.cons (.var 0) (.cons (.int 1) .nil))) (.call 26 (.cons (.idx (.var 0) (.int 0)) (.cons (.idx (.var 0) (.int 1)) .nil))))) .nil) }
def f28 : Fn := { name := "_law_vec", names := ["values", "one"], mos := [.b], own := false, body :=
  (.cons (.ret (.cal .tuple (.cons (.lc (.nm 1) [1] (.seq (.bor 0)) (.bl true) (.call 27 (.cons (.var 1) .nil))) .nil))) .nil) }
def f29 : Fn := { name := "_law_plus", names := ["one", "two"], mos := [.b, .b], own := false, body :=
  (.cons (.ret (.call 26 (.cons (.bin .add (.bin .mul (.idx (.bor 0) (.int 0)) (.idx (.bor 1) (.int 1))) (.bin .mul (.idx (.bor 1) (.int 0)) (.idx (.bor 0) (.int 1)))) (.cons (.bin .mul (.idx (.bor 0) (.int 1)) (.idx (.bor 1) (.int 1))) .nil)))) .nil) }
def f30 : Fn := { name := "_law_neg", names := ["one"], mos := [.b], own := false, body :=
  (.cons (.ret (.tup (.cons (.bin .sub (.int 0) (.idx (.bor 0) (.int 0))) (.cons (.idx (.bor 0) (.int 1)) .nil)))) .nil) }
def f31 : Fn := { name := "_law_minus", names := ["one", "two"], mos := [.b, .b], own := false, body :=
  (.cons (.ret (.call 29 (.cons (.bor 0) (.cons (.call 30 (.cons (.bor 1) .nil)) .nil)))) .nil) }
def f32 : Fn := { name := "_law_by", names := ["one", "two"], mos := [.b, .b], own := false, body :=
  (.cons (.ret (.call 26 (.cons (.bin .mul (.idx (.bor 0) (.int 0)) (.idx (.bor 1) (.int 0))) (.cons (.bin .mul (.idx (.bor 0) (.int 1)) (.idx (.bor 1) (.int 1))) .nil)))) .nil) }
def f33 : Fn := { name := "_law_over", names := ["one", "two"], mos := [.b, .b], own := false, body :=
  (.cons (.ret (.call 26 (.cons (.bin .mul (.idx (.bor 0) (.int 0)) (.idx (.bor 1) (.int 1))) (.cons (.bin .mul (.idx (.bor 0) (.int 1)) (.idx (.bor 1) (.int 0))) .nil)))) .nil) }
def f34 : Fn := { name := "_law_scaled", names := ["factor", "vector", "one"], mos := [.b, .b], own := false, body :=
  (.cons (.ret (.cal .tuple (.cons (.lc (.nm 2) [2] (.seq (.bor 1)) (.bl true) (.call 32 (.cons (.bor 0) (.cons (.var 2) .nil)))) .nil))) .nil) }
def f35 : Fn := { name := "_law_added", names := ["left", "right", "k"], mos := [.b, .b], own := false, body :=
  (.cons (.ret (.cal .tuple (.cons (.lc (.nm 2) [2] (.rng1 (.cal .len (.cons (.bor 0) .nil))) (.bl true) (.call 29 (.cons (.idx (.bor 0) (.var 2)) (.cons (.idx (.bor 1) (.var 2)) .nil)))) .nil))) .nil) }
def f36 : Fn := { name := "_law_is_frac", names := ["value"], mos := [.b], own := false, body :=
  (.cons (.ite (.or_ (.not_ (.isi (.bor 0) [.tuple])) (.cmp .ne (.cal .len (.cons (.bor 0) .nil)) (.int 2))) (.cons (.ret (.bl false)) .nil) .nil) (.cons (.ite (.or_ (.not_ (.call 24 (.cons (.idx (.bor 0) (.int 0)) .nil))) (.not_ (.call 24 (.cons (.idx (.bor 0) (.int 1)) .nil)))) (.cons (.ret (.bl false)) .nil) .nil) (.cons (.ret (.and_ (.cmp .gt (.idx (.bor 0) (.int 1)) (.int 0)) (.cmp .eq (.call 25 (.cons (.idx (.bor 0) (.int 0)) (.cons (.idx (.bor 0) (.int 1)) .nil))) (.int 1)))) .nil))) }
def f37 : Fn := { name := "_law_is_vec", names := ["value", "many", "one"], mos := [.b, .b], own := false, body :=
  (.cons (.ite (.or_ (.not_ (.isi (.bor 0) [.tuple])) (.cmp .ne (.cal .len (.cons (.bor 0) .nil)) (.bor 1))) (.cons (.ret (.bl false)) .nil) .nil) (.cons (.ret (.cmp .eq (.cal .len (.cons (.lc (.nm 2) [2] (.seq (.bor 0)) (.not_ (.call 36 (.cons (.var 2) .nil))) (.var 2)) .nil)) (.int 0))) .nil)) }
def f38 : Fn := { name := "_law_are_vecs", names := ["value", "many", "one"], mos := [.b, .b], own := false, body :=
  (.cons (.ite (.not_ (.isi (.bor 0) [.tuple])) (.cons (.ret (.bl false)) .nil) .nil) (.cons (.ret (.cmp .eq (.cal .len (.cons (.lc (.nm 2) [2] (.seq (.bor 0)) (.not_ (.call 37 (.cons (.var 2) (.cons (.bor 1) .nil)))) (.var 2)) .nil)) (.int 0))) .nil)) }
def f39 : Fn := { name := "_law_determinant", names := ["rows", "left", "one", "made", "column", "at", "keep", "k", "factor", "j"], mos := [.b], own := false, body :=
  (.cons (.setO 1 (.lc (.nm 2) [2] (.seq (.bor 0)) (.bl true) (.cal .list (.cons (.var 2) .nil)))) (.cons (.set 3 (.tup (.cons (.int 1) (.cons (.int 1) .nil)))) (.cons (.for_ (.nm 4) (.rng1 (.cal .len (.cons (.bor 1) .nil))) (.cons (.set 5 (.var 4)) (.cons (.whl (.and_ (.cmp .lt (.var 5) (.cal .len (.cons (.bor 1) .nil))) (.cmp .eq (.idx (.idx (.idx (.bor 1) (.var 5)) (.var 4)) (.int 0)) (.int 0))) (.cons (.set 5 (.bin .add (.var 5) (.int 1))) .nil)) (.cons (.ite (.cmp .eq (.var 5) (.cal .len (.cons (.bor 1) .nil))) (.cons (.ret (.tup (.cons (.int 0) (.cons (.int 1) .nil)))) .nil) .nil) (.cons (.ite (.cmp .ne (.var 5) (.var 4)) (.cons (.set 6 (.idx (.bor 1) (.var 5))) (.cons (.sto 1 (.var 5) (.idx (.bor 1) (.var 4))) (.cons (.sto 1 (.var 4) (.var 6)) (.cons (.set 3 (.call 30 (.cons (.var 3) .nil))) .nil)))) .nil) (.cons (.set 3 (.call 32 (.cons (.var 3) (.cons (.idx (.idx (.bor 1) (.var 4)) (.var 4)) .nil)))) (.cons (.for_ (.nm 7) (.rng2 (.bin .add (.var 4) (.int 1)) (.cal .len (.cons (.bor 1) .nil))) (.cons (.set 8 (.call 33 (.cons (.idx (.idx (.bor 1) (.var 7)) (.var 4)) (.cons (.idx (.idx (.bor 1) (.var 4)) (.var 4)) .nil)))) (.cons (.sto 1 (.var 7) (.lc (.nm 9) [9] (.rng1 (.cal .len (.cons (.bor 1) .nil))) (.bl true) (.call 31 (.cons (.idx (.idx (.bor 1) (.var 7)) (.var 9)) (.cons (.call 32 (.cons (.var 8) (.cons (.idx (.idx (.bor 1) (.var 4)) (.var 9)) .nil))) .nil))))) .nil))) .nil))))))) (.cons (.ret (.var 3)) .nil)))) }
def f40 : Fn := { name := "_law_unit", names := ["many", "at", "k"], mos := [.d, .b], own := false, body :=
  (.cons (.ret (.cal .tuple (.cons (.lc (.nm 2) [2] (.rng1 (.var 0)) (.bl true) (.ife (.cmp .eq (.var 2) (.bor 1)) (.tup (.cons (.int 1) (.cons (.int 1) .nil))) (.tup (.cons (.int 0) (.cons (.int 1) .nil))))) .nil))) .nil) }
def f41 : Fn := { name := "_law_drawn_number", names := ["row", "spot", "span", "top", "style"], mos := [.b, .o, .d], own := false, body :=
  (.cons (.set 3 (.bin .sub (.call 22 (.cons (.bor 0) (.cons (.io 1) (.cons (.bin .add (.bin .mul (.int 2) (.var 2)) (.int 1)) .nil)))) (.var 2))) (.cons (.set 4 (.call 22 (.cons (.bor 0) (.cons (.io 1) (.cons (.int 6) .nil))))) (.cons (.ite (.cmp .eq (.var 4) (.int 0)) (.cons (.ret (.tup (.cons (.var 3) (.cons (.bin .add (.int 2) (.call 22 (.cons (.bor 0) (.cons (.io 1) (.cons (.int 3) .nil))))) .nil)))) .nil) .nil) (.cons (.ret (.var 3)) .nil)))) }
def f42 : Fn := { name := "_law_drawn_rows", names := ["row", "spot", "many", "wide", "span", "made", "k", "j"], mos := [.b, .o, .d, .d, .d], own := false, body :=
  (.cons (.setO 5 (.lst .nil)) (.cons (.for_ (.nm 6) (.rng1 (.var 2)) (.cons (.ite (.and_ (.cmp .gt (.var 6) (.int 1)) (.cmp .eq (.call 22 (.cons (.bor 0) (.cons (.io 1) (.cons (.int 5) .nil)))) (.int 0))) (.cons (.app 5 (.cal .tuple (.cons (.lc (.nm 7) [7] (.rng1 (.var 3)) (.bl true) (.ife (.and_ (.call 24 (.cons (.idx (.idx (.bor 5) (.int 0)) (.var 7)) .nil)) (.call 24 (.cons (.idx (.idx (.bor 5) (.int 1)) (.var 7)) .nil))) (.bin .add (.idx (.idx (.bor 5) (.int 0)) (.var 7)) (.idx (.idx (.bor 5) (.int 1)) (.var 7))) (.int 0))) .nil))) .nil) (.cons (.app 5 (.cal .tuple (.cons (.lc (.nm 7) [7] (.rng1 (.var 3)) (.bl true) (.call 41 (.cons (.bor 0) (.cons (.io 1) (.cons (.var 4) .nil))))) .nil))) .nil)) .nil)) (.cons (.ret (.cal .tuple (.cons (.bor 5) .nil))) .nil))) }
def f43 : Fn := { name := "_law_vecs", names := ["rows", "one"], mos := [.b], own := false, body :=
  (.cons (.ret (.cal .tuple (.cons (.lc (.nm 1) [1] (.seq (.bor 0)) (.bl true) (.call 28 (.cons (.var 1) .nil))) .nil))) .nil) }
def f44 : Fn := { name := "_law_combined", names := ["shares", "rows", "many", "total", "k"], mos := [.b, .b, .d], own := false, body :=
  (.cons (.set 3 (.cal .tuple (.cons (.lc (.nm 4) [4] (.rng1 (.var 2)) (.bl true) (.tup (.cons (.int 0) (.cons (.int 1) .nil)))) .nil))) (.cons (.for_ (.nm 4) (.rng1 (.cal .len (.cons (.bor 1) .nil))) (.cons (.set 3 (.call 35 (.cons (.var 3) (.cons (.call 34 (.cons (.idx (.bor 0) (.var 4)) (.cons (.idx (.bor 1) (.var 4)) .nil))) .nil)))) .nil)) (.cons (.ret (.var 3)) .nil))) }
def f45 : Fn := { name := "law", names := ["script", "row", "spot", "many", "rows", "plain", "due", "told", "k"], mos := [.s], own := false, body :=
  (.cons (.set 1 (.call 20 (.cons (.scr 0) .nil))) (.cons (.setO 2 (.lst (.cons (.int 0) .nil))) (.cons (.set 3 (.bin .add (.int 1) (.call 22 (.cons (.var 1) (.cons (.io 2) (.cons (.int 5) .nil)))))) (.cons (.set 4 (.call 42 (.cons (.var 1) (.cons (.io 2) (.cons (.var 3) (.cons (.var 3) (.cons (.int 3) .nil))))))) (.cons (.set 5 (.call 43 (.cons (.var 4) .nil))) (.cons (.set 6 (.call 39 (.cons (.var 5) .nil))) (.cons (.ite (.not_ (.call 19 (.cons (.call 17 (.cons (.call 23 (.cons (.var 4) (.cons (.call 22 (.cons (.var 1) (.cons (.io 2) (.cons (.int 2) .nil)))) .nil))) .nil)) (.cons (.var 6) .nil)))) (.cons (.ret (.bl false)) .nil) .nil) (.cons (.set 7 (.call 18 (.cons (.var 4) .nil))) (.cons (.ite (.cmp .eq (.idx (.var 6) (.int 0)) (.int 0)) (.cons (.ret (.cmp .is_ (.var 7) .non)) .nil) .nil) (.cons (.ite (.or_ (.not_ (.call 38 (.cons (.var 7) (.cons (.var 3) .nil)))) (.cmp .ne (.cal .len (.cons (.var 7) .nil)) (.var 3))) (.cons (.ret (.bl false)) .nil) .nil) (.cons (.for_ (.nm 8) (.rng1 (.var 3)) (.cons (.ite (.cmp .ne (.call 44 (.cons (.idx (.var 5) (.var 8)) (.cons (.var 7) (.cons (.var 3) .nil)))) (.call 40 (.cons (.var 3) (.cons (.var 8) .nil)))) (.cons (.ret (.bl false)) .nil) .nil) .nil)) (.cons (.ret (.bl true)) .nil)))))))))))) }
def tab : List Fn := [f0, f1, f2, f3, f4, f5, f6, f7, f8, f9, f10, f11, f12, f13, f14, f15, f16, f17, f18, f19, f20, f21, f22, f23, f24, f25, f26, f27, f28, f29, f30, f31, f32, f33, f34, f35, f36, f37, f38, f39, f40, f41, f42, f43, f44, f45]
end T_k04
end

section
set_option linter.all false
namespace Sm
open PySem
def b_law04_0 (I : Ix) : Sts := (.cons (.ite (.cmp .ne (.call I.Lcombined (.cons (.idx (.var 5) (.var 8)) (.cons (.var 7) (.cons (.var 3) .nil)))) (.call I.Lunit (.cons (.var 3) (.cons (.var 8) .nil)))) (.cons (.ret (.bl false)) .nil) .nil) .nil)
def s_law04_0 (I : Ix) : St := .for_ (.nm 8) (.rng1 (.var 3)) (b_law04_0 I)
def r_law04_11 (I : Ix) : Sts := .cons (.ret (.bl true)) .nil
def r_law04_10 (I : Ix) : Sts := .cons (s_law04_0 I) (r_law04_11 I)
def r_law04_9 (I : Ix) : Sts := .cons (.ite (.or_ (.not_ (.call I.Lare_vecs (.cons (.var 7) (.cons (.var 3) .nil)))) (.cmp .ne (.cal .len (.cons (.var 7) .nil)) (.var 3))) (.cons (.ret (.bl false)) .nil) .nil) (r_law04_10 I)
def r_law04_8 (I : Ix) : Sts := .cons (.ite (.cmp .eq (.idx (.var 6) (.int 0)) (.int 0)) (.cons (.ret (.cmp .is_ (.var 7) .non)) .nil) .nil) (r_law04_9 I)
def r_law04_7 (I : Ix) : Sts := .cons (.set 7 (.call I.inverse (.cons (.var 4) .nil))) (r_law04_8 I)
def r_law04_6 (I : Ix) : Sts := .cons (.ite (.not_ (.call I.Lso (.cons (.call I.determinant (.cons (.call I.Lloose (.cons (.var 4) (.cons (.call I.Ltake (.cons (.var 1) (.cons (.io 2) (.cons (.int 2) .nil)))) .nil))) .nil)) (.cons (.var 6) .nil)))) (.cons (.ret (.bl false)) .nil) .nil) (r_law04_7 I)
def r_law04_5 (I : Ix) : Sts := .cons (.set 6 (.call I.Ldeterminant (.cons (.var 5) .nil))) (r_law04_6 I)
def r_law04_4 (I : Ix) : Sts := .cons (.set 5 (.call I.Lvecs (.cons (.var 4) .nil))) (r_law04_5 I)
def r_law04_3 (I : Ix) : Sts := .cons (.set 4 (.call I.Ldrawn_rows (.cons (.var 1) (.cons (.io 2) (.cons (.var 3) (.cons (.var 3) (.cons (.int 3) .nil))))))) (r_law04_4 I)
def r_law04_2 (I : Ix) : Sts := .cons (.set 3 (.bin .add (.int 1) (.call I.Ltake (.cons (.var 1) (.cons (.io 2) (.cons (.int 5) .nil)))))) (r_law04_3 I)
def r_law04_1 (I : Ix) : Sts := .cons (.setO 2 (.lst (.cons (.int 0) .nil))) (r_law04_2 I)
def r_law04_0 (I : Ix) : Sts := .cons (.set 1 (.call I.Lnumbers (.cons (.scr 0) .nil))) (r_law04_1 I)
def F_law04 (I : Ix) : Fn := { name := "law", names := ["script", "row", "spot", "many", "rows", "plain", "due", "told", "k"], mos := [.s], own := false, body := r_law04_0 I }
abbrev T04 : List Fn := T_k04.tab
def I04 : Ix := { is_whole := 0, is_row := 1, is_number := 2, fraction := 3, number_read := 4, vector_read := 5, vector_needed := 6, vectors_needed := 7, rows_needed := 8, unit := 9, shared := 10, eliminated := 11, first_filled := 12, reduced := 13, determinant_of := 14, fractions_of := 15, square_needed := 16, determinant := 17, inverse := 18, Lso := 19, Lnumbers := 20, Ldraw := 21, Ltake := 22, Lloose := 23, Lnumeric := 24, Lgcd := 25, Lfrac := 26, Lnum := 27, Lvec := 28, Lplus := 29, Lneg := 30, Lminus := 31, Lby := 32, Lover := 33, Lscaled := 34, Ladded := 35, Lis_frac := 36, Lis_vec := 37, Lare_vecs := 38, Ldeterminant := 39, Lunit := 40, Ldrawn_number := 41, Ldrawn_rows := 42, Lvecs := 43, Lcombined := 44 }
theorem law04_at : T04[45]? = some (F_law04 I04) := rfl
end Sm
end

section
set_option linter.all false
set_option autoImplicit false
set_option maxRecDepth 100000
/-! P4: law k04, the plain part. -/
namespace Sm
open PySem DetQ
local macro_rules | `(tactic| simp! [$ls,*]) => `(tactic| simp only [evSs, evS, evE, evEs, as_nil, as_io, as_scr, as_bor, as_var, as_non, as_bl, as_int, as_str, as_tup, as_lst, as_bin, as_neg, as_not, as_cmp, as_and, as_or, as_ife, as_idx, as_slc, as_slcS, as_call, as_cal, as_isi, as_lc, hof_bor, hof_var, hof_non, hof_bl, hof_int, hof_str, hof_tup, hof_lst, hof_bin, hof_neg, hof_not, hof_cmp, hof_and, hof_or, hof_ife, hof_idx, hof_slc, hof_slcS, hof_call, hof_cal, hof_isi, hof_lc, evPof, evIt, Res.bind, rdB, rdE, rdO, rdS, Hd.look, opt, Sl.see, List.getElem?_cons_zero, List.getElem?_cons_succ, List.getD_cons_zero, List.getD_cons_succ, len_tup, len_lst, bi_int, bi_intb, bi_abs, bi_tupl, bi_tupt, bi_lstl, bi_lstt, bi_gcd, Cop.ev, Bop.ev, add_ii, add_tt, add_ll, sub_ii, neg_ii, D.ltI, isN_n, isN_i, isN_t, isN_l, isN_b, items_t, items_l, eqv_int, truthM, D.truth, nx, put_free, free_un, free_dat, free_own, free_bor, chg, List.set, asListO, It.locks, Ex.lock, Sl.lock, Sl.unlock, lockE, unlockE, wipeE, backE, fillA, callM, ioBack, iosOf, Option.map_some, if_true, List.length_cons, List.length_nil, List.replicate, List.cons_append, List.nil_append, List.append_nil, Nat.zero_add, List.any_cons, List.any_nil, ty_int_obj, ty_bool_obj, ty_str_obj, ty_list_obj, ty_tuple_obj, ty_cls_non, ty_cls_bl, ty_cls_int, ty_cls_str, ty_cls_tup, ty_cls_lst, ty_cls_obj, ty_int_non, ty_int_bl, ty_int_int, ty_int_str, ty_int_tup, ty_int_lst, ty_bool_non, ty_bool_bl, ty_bool_int, ty_bool_str, ty_bool_tup, ty_bool_lst, ty_str_non, ty_str_bl, ty_str_int, ty_str_str, ty_str_tup, ty_str_lst, ty_list_non, ty_list_bl, ty_list_int, ty_list_str, ty_list_tup, ty_list_lst, ty_tuple_non, ty_tuple_bl, ty_tuple_int, ty_tuple_str, ty_tuple_tup, ty_tuple_lst, Bool.or_false, Bool.false_or, Bool.not_true, Bool.not_false, Bool.true_or, Bool.or_true, ap_nil, ap1, ap2, ap3, ap4, ap_b, ap_bb, ap_bd, ap_db, ap_bdd, ap_dbd, ap_dbdd, ap_bbd, ap_ddbd, ap_dbb, ap_ddb, ap_bdb, ap_bddb, ap_bddbd, ap_s, ap_do, ap_dodd, ap_doddd, idx0l, idx0t, idx1l, idx1t, Nat.reduceAdd, Nat.reduceSub, Nat.reduceLeDiff, List.drop, Tg.put, intP, frzE, beq_self_eq_true, size1, size2, size0, $ls,*])
theorem h04_draw : HDraw T04 I04 := ⟨rfl, rfl, rfl⟩
theorem h04_f : HFrac T04 I04 := ⟨rfl, rfl, rfl, rfl, rfl, rfl, rfl, rfl, rfl⟩
theorem h04_ld : HLdet T04 I04 := ⟨h04_f, rfl, rfl⟩
theorem h04_c : HComb T04 I04 := ⟨h04_f, rfl, rfl, rfl, rfl, rfl⟩
theorem h04_p : HInv T04 I04 := ⟨⟨⟨⟨⟨rfl, rfl, rfl, rfl, rfl, rfl⟩, rfl, rfl, rfl⟩, rfl, rfl, rfl, rfl⟩, rfl, rfl, rfl⟩, rfl, rfl, rfl⟩
theorem eqbL_self : ∀ (l : List D), (∀ d ∈ l, D.eqb d d = true) → D.eqbL l l = true
  | [], _ => rfl
  | d :: l, h => by
    show (D.eqb d d && D.eqbL l l) = true
    rw [h d List.mem_cons_self, eqbL_self l fun x hx => h x (List.mem_cons_of_mem _ hx)]
    rfl
theorem shpL_all {n : Nat} : ∀ (l : List D), (∀ d ∈ l, D.shp n d = true) → D.shpL n l = true
  | [], _ => by cases n <;> rfl
  | d :: l, h => by
    show (D.shp n d && D.shpL n l) = true
    rw [h d List.mem_cons_self, shpL_all l fun x hx => h x (List.mem_cons_of_mem _ hx)]
    rfl
theorem eqv_vd (v : List Rat) : D.eqv (vd v) (vd v) = some true := by
  have h1 : D.shp 60 (vd v) = true := by
    show D.shpL 59 (v.map fr) = true
    refine shpL_all _ fun d hd => ?_
    obtain ⟨q, _, rfl⟩ := List.mem_map.mp hd
    rfl
  have h2 : D.eqb (vd v) (vd v) = true := by
    show D.eqbL (v.map fr) (v.map fr) = true
    refine eqbL_self _ fun d hd => ?_
    obtain ⟨q, _, rfl⟩ := List.mem_map.mp hd
    show (((q.num == q.num) && (((q.den : Int) == (q.den : Int)) && true)) : Bool) = true
    rw [beq_self_eq_true, beq_self_eq_true]
    rfl
  unfold D.eqv
  rw [if_pos ⟨h1, h1⟩, h2]
theorem getD_drop {r : List Int} {m c : Nat} : (r.drop m).getD c 0 = r.getD (m + c) 0 := by
  simp only [List.getD_eq_getElem?_getD, List.getElem?_drop]
/-- the inverse's rows, as rationals -/
def invR (R : List (List Int)) (m : Nat) (bot : Int) : List (List Rat) := R.map fun r => (r.drop m).map fun x => Rat.divInt x bot
theorem qx_inv {R : List (List Int)} {m i c : Nat} {bot : Int} : qx (invR R m bot) i c = ((ent R i (m + c) : Int) : Rat) / (bot : Rat) := by
  have e : invR R m bot = bR (R.map fun r => r.drop m) bot := by unfold invR bR; rw [List.map_map]; rfl
  have e2 : ent (R.map fun r => r.drop m) i c = ent R i (m + c) := by
    unfold ent
    have : (R.map fun r => r.drop m).getD i [] = (R.getD i []).drop m := by
      simp only [List.getD_eq_getElem?_getD, List.getElem?_map]
      cases R[i]? with
      | none => show ([] : List Int) = ([] : List Int).drop m; rw [List.drop_nil]
      | some r => rfl
    rw [this, getD_drop]
  rw [e, qx_bR, e2]
theorem mono_id {m : Nat} {p : Nat → Nat} (h1 : ∀ i j, i < j → j < m → p i < p j) (h2 : ∀ j, j < m → p j < m) : ∀ i, i < m → p i = i := by
  have lo : ∀ i, i < m → i ≤ p i := by
    intro i
    induction i with
    | zero => intro _; exact Nat.zero_le _
    | succ i ih =>
      intro hi
      have := ih (by omega)
      have := h1 i (i + 1) (by omega) hi
      omega
  have hi : ∀ t i, i + t + 1 = m → p i ≤ i := by
    intro t
    induction t with
    | zero => intro i h; have := h2 i (by omega); omega
    | succ t ih =>
      intro i h
      have := ih (i + 1) (by omega)
      have := h1 i (i + 1) (by omega) (by omega)
      omega
  intro i hi2
  have := lo i hi2
  have := hi (m - i - 1) i (by omega)
  omega
theorem qx_augI {M : List (List Rat)} {i c : Nat} (hi : i < M.length) (hw : ∀ v ∈ M, v.length = M.length) : qx (augI M M.length) i c = if c < M.length then qx M i c else (uv M.length i).getD (c - M.length) 0 := by
  unfold qx
  rw [augI_getD hi]
  have l := hw _ (getD_mem (d := []) hi)
  by_cases h : c < M.length
  · rw [if_pos h, getD_app1 (by omega)]
  · rw [if_neg h, getD_app2 (by omega), l]
/-- what the program hands back is the inverse -/
theorem RO.inv {M : List (List Rat)} {K k : Nat} {s p : Nat → Nat} {W : Mx} {d : Rat} {R : List (List Int)} {bot : Int} (O : RO M.length (M.length + M.length) M.length K k (mx ((augI M M.length).map wh)) s p W d R bot) (hw : ∀ v ∈ M, v.length = M.length) (hk : k = M.length) :
    ∀ a, a < M.length → combV (M.getD a []) (invR R M.length bot) M.length M.length = uv M.length a := fun a ha => by
  subst hk
  have pid := mono_id O.gj.mono O.gj.plt
  obtain ⟨q, hq, rfl⟩ := O.on a ha
  have low := O.gj.low q hq
  refine list_ext (by rw [combV_len, uv_len]) fun c hc => ?_
  rw [combV_len] at hc
  rw [combV_getD hc, uv_getD hc]
  have L0 := lcm_ne ((augI M M.length).getD (s q) [])
  have z := low (M.length + c) (by omega)
  rw [mx_wh, qx_augI ha hw, if_neg (by omega), Nat.add_sub_cancel_left, uv_getD hc] at z
  have e1 : (sumTo M.length fun i => (M.getD (s q) []).getD i 0 * qx (invR R M.length bot) i c) * (lcmR ((augI M M.length).getD (s q) []) : Rat) = sumTo M.length fun j => mx ((augI M M.length).map wh) (s q) (p j) * (W j (M.length + c) / d) := by
    rw [Rat.mul_comm, ← sum_mul]
    refine sum_congr fun j hj => ?_
    rw [pid j hj, mx_wh, qx_augI ha hw, if_pos hj, qx_inv, O.val j (M.length + c) hj (by omega)]
    show _ * (qx M (s q) j * _) = _
    grind
  rw [← e1] at z
  grind
theorem plain04 (ns : List Int) : evF T04 40 45 [.s (ns.map D.int)] = .ok (.bl true) [] := by
  obtain ⟨row, hne, _, en⟩ := numbers_ok (T := T04) (n := 38) (i := I04.Lnumbers) h04_draw.Lnumbers ns
  have tk : ∀ (s lim : Int), 0 ≤ s → 0 < lim → ∃ d, 0 ≤ d ∧ d < lim ∧ evF T04 39 I04.Ltake [.d (rowD row), .o 2 [.int s], .d (.int lim)] = .ok (.int d) [[.int (s + 1)]] := fun s lim h0 hl => Ltake_ok (n := 37) h04_draw hne s lim h0 hl arD 2
  obtain ⟨m0, m0a, m0b, em⟩ := tk 0 5 (by omega) (by omega)
  obtain ⟨m, hm⟩ : ∃ m : Nat, 1 + m0 = (m : Int) := ⟨(1 + m0).toNat, by omega⟩
  have m1 : 1 ≤ m := by omega
  have m5 : m ≤ 5 := by omega
  clear m0a m0b
  obtain ⟨R, s1, hR, hI, hs1, er⟩ := drawn_rows_ok (T := T04) (I := I04) (n := 35) h04_draw rfl rfl rfl hne (0 + 1) m m 3 (by omega) (by omega) (by omega) (by omega) (a := .d (rowD row)) arD 2
  have er : evF T04 39 I04.Ldrawn_rows [.d (rowD row), .o 2 [.int (0 + 1)], .d (.int (m : Int)), .d (.int (m : Int)), .d (.int 3)] = .ok (rt R) [[.int s1]] := er
  obtain ⟨t0, t0a, t0b, et⟩ := tk s1 2 hs1 (by omega)
  obtain ⟨t, ht⟩ : ∃ t : Nat, t0 = (t : Int) := ⟨t0.toNat, by omega⟩
  subst ht
  generalize hM : (R.map fun r => r.map Nm.q) = M at *
  have Mlen : M.length = m := by rw [← hM, List.length_map, hR]
  have Mwid : ∀ v ∈ M, v.length = M.length := fun v hv => by
    rw [Mlen]
    rw [← hM] at hv
    obtain ⟨r, hr, rfl⟩ := List.mem_map.mp hv
    rw [List.length_map, hI.wid r hr]
  have Mq : ∀ v ∈ M, ∀ q ∈ v, q.den ∣ 12 ∧ q.den ≤ 4 ∧ q.num.natAbs ≤ 6 := fun v hv q hq => by
    rw [← hM] at hv
    obtain ⟨r, hr, rfl⟩ := List.mem_map.mp hv
    obtain ⟨u, hu, rfl⟩ := List.mem_map.mp hq
    exact nm_den (hI.ok2 r hr u hu)
  have Msz : ∀ v ∈ M, ∀ q ∈ v, Sz 4 q := fun v hv q hq => by
    obtain ⟨_, h2, h3⟩ := Mq v hv q hq
    exact ⟨by show _ < 16; omega, by show _ < 16; omega⟩
  have hrr : RdR 3 (rt R) M := by rw [← hM]; exact rt_rd hI.ok2
  have hrl : RdR 3 (lors t R) M := by rw [← hM]; exact lors_rd hI.ok2
  have eL : evF T04 39 I04.Lvecs [.d (rt R)] = .ok (md M) [] := Lvecs_ok (n := 34) h04_f rfl (k := 3) hrr (by omega) (fun v hv => le_size (by rw [Mwid v hv]; omega)) (le_size (by omega)) arD
  have eD := Ldeterminant_ok (T := T04) (I := I04) (n := 33) h04_ld (M := M) (b := 4) (by omega) Mwid (by omega) Msz (by
    rw [Mlen]
    have : Cb 4 m ≤ Cb 4 5 := Cb_mono m5
    have : Cb 4 5 = 5119 := by decide
    omega) (a := .d (md M)) arD
  have hd12 : ∀ v ∈ augI M M.length, ∀ q ∈ v, q.den ∣ 12 ∧ q.num.natAbs ≤ 6 := fun v hv q hq => by
    obtain ⟨u, hu, k, rfl⟩ := augI_mem hv
    rcases List.mem_append.mp hq with h | h
    · exact ⟨(Mq u hu q h).1, (Mq u hu q h).2.2⟩
    · rcases uv_mem h with e | e <;> rw [e]
      · exact ⟨⟨12, rfl⟩, by decide⟩
      · exact ⟨⟨12, rfl⟩, by decide⟩
  have bk : Bk 7 m ≤ 255 := by
    have : Bk 7 m ≤ Bk 7 5 := Bk_mono m5
    have : Bk 7 5 = 255 := by decide
    omega
  have O : Okr M M.length 7 12 := by
    refine ⟨by omega, by omega, by omega, by omega, Mwid, by decide, by decide, fun v hv q hq => (Mq v hv q hq).1, by decide, fun v hv x hx => ?_, by rw [Mlen]; omega⟩
    have := wh_bound (N := 12) (B := 6) (by decide) (fun q hq => (Mq v hv q hq).1) (fun q hq => (Mq v hv q hq).2.2) x hx
    show _ < 128
    omega
  have O' : Okr (augI M M.length) (M.length + M.length) 7 12 := by
    refine ⟨by rw [augI_len]; omega, by rw [augI_len]; omega, by omega, by omega, fun v hv => ?_, by decide, by decide, fun v hv q hq => (hd12 v hv q hq).1, by decide, fun v hv x hx => ?_, by rw [augI_len, Mlen]; omega⟩
    · obtain ⟨u, hu, k, rfl⟩ := augI_mem hv
      rw [List.length_append, Mwid u hu, uv_len]
    · have := wh_bound (N := 12) (B := 6) (by decide) (fun q hq => (hd12 v hv q hq).1) (fun q hq => (hd12 v hv q hq).2) x hx
      show _ < 128
      omega
  have hlo : evF T04 39 I04.Lloose [.d (rt R), .d (.int (t : Int))] = .ok (lors t R) [] := loose_rows (n := 35) rfl R t (le_size (by omega)) fun r hr => le_size (by rw [hI.wid r hr]; omega)
  have N12 : 12 ^ M.length < 2 ^ 9000 := by
    have h1 : 12 ^ M.length ≤ 12 ^ 5 := Nat.pow_le_pow_right (by decide) (by omega)
    have h2 : 12 ^ 5 < 2 ^ 18 := by decide
    have h3 : 2 ^ 18 ≤ 2 ^ 9000 := Nat.pow_le_pow_right (by decide) (by decide)
    exact Nat.lt_of_le_of_lt h1 (Nat.lt_of_lt_of_le h2 h3)
  have eP := determinant_ok (T := T04) (I := I04) (n := 30) h04_p.toHDet O hrl (by decide) (by omega) N12 (a := .d (lors t R)) arD
  have s1' : evF T04 39 I04.Lso [.d (fr (det M.length (qx M))), .d (fr (det M.length (qx M)))] = .ok (.bl true) [] := so_ok (T := T04) (j := I04.Lso) rfl 1 (fr (det M.length (qx M))) ⟨le_size (by simp), fun d hd => by
    rcases List.mem_cons.mp hd with rfl | hd
    · trivial
    · rw [List.mem_singleton.mp hd]; trivial⟩ 38 (by omega) arD arD
  obtain ⟨R2, bot, k, s, p, W, d, eI, O2⟩ := inverse_ok (T := T04) (I := I04) (n := 30) h04_p hrr (by decide) (by omega) (by omega) Mwid O' (a := .d (rt R)) arD
  have km := O2.gj.km
  -- too few pivots, no determinant
  have scal : det M.length (mx ((augI M M.length).map wh)) = prodTo M.length (fun i => (lcmR ((augI M M.length).getD i []) : Rat)) * det M.length (qx M) := by
    rw [← det_scale]
    refine det_ext fun i c hi hc => ?_
    rw [mx_wh, qx_augI hi Mwid, if_pos hc, Rat.mul_comm]
  have pne : ∀ n, prodTo n (fun i => (lcmR ((augI M M.length).getD i []) : Rat)) ≠ 0 := by
    intro n
    induction n with
    | zero => show (1 : Rat) ≠ 0; decide
    | succ n ih =>
      show prodTo n _ * _ ≠ 0
      have := lcm_ne ((augI M M.length).getD n [])
      grind
  have hiff : k < M.length ↔ det M.length (qx M) = 0 := by
    constructor
    · intro hk
      have := (O2.gj.cut (Nat.le_refl _) (by omega)).sing hk O2.sm O2.inj
      rw [scal] at this
      have := pne M.length
      grind
    · intro h0
      refine Classical.byContradiction fun hk => ?_
      have hk : k = M.length := by omega
      subst hk
      have pid := mono_id O2.gj.mono O2.gj.plt
      have hdt := O2.gj.dt
      have z : det M.length (mx ((augI M M.length).map wh)) = 0 := by rw [scal, h0, Rat.mul_zero]
      have d0 := O2.gj.d0
      have d1 : det M.length (fun a b => mx ((augI M M.length).map wh) (s a) b) = d := by
        rw [← hdt]
        exact det_ext fun a b _ hb => by rw [pid b hb]
      obtain ⟨e, _, e2⟩ := O2.sgd
      rw [z, Rat.mul_zero, d1] at e2
      exact d0 e2
  rw [run_eq law04_at (show entry (F_law04 I04).mos _ = some [.scr (ns.map D.int)] from rfl)]
  by_cases h0 : det M.length (qx M) = 0
  · rw [if_pos (hiff.mpr h0)] at eI
    have hz : ((det M.length (qx M)).num == 0) = true := by rw [num_beq]; exact decide_eq_true h0
    simp! [F_law04, r_law04_0, r_law04_1, r_law04_2, r_law04_3, r_law04_4, r_law04_5, r_law04_6, r_law04_7, r_law04_8, ap_s, en, em, hm, er, eL, eD, et, hlo, eP, s1', eI, fr0, hz]
  · have hk : ¬ k < M.length := fun h => h0 (hiff.mp h)
    rw [if_neg hk] at eI
    have hkm : k = M.length := by omega
    have hz : ((det M.length (qx M)).num == 0) = false := by rw [num_beq]; exact decide_eq_false h0
    have einv : (R2.map fun r => (r.drop M.length).map fun x => Rat.divInt x bot) = invR R2 M.length bot := rfl
    rw [einv] at eI
    have il : (invR R2 M.length bot).length = M.length := by
      unfold invR
      rw [List.length_map, O2.len, hkm]
    have iw : ∀ v ∈ invR R2 M.length bot, v.length = M.length := fun v hv => by
      obtain ⟨r, hr, rfl⟩ := List.mem_map.mp hv
      rw [List.length_map, List.length_drop, O2.wid r hr]
      omega
    have bne : bot ≠ 0 := by have := O2.pos; omega
    have pw : 2 ^ Bk 7 M.length ≤ 2 ^ 255 := Nat.pow_le_pow_right (by decide) (by rw [Mlen]; exact bk)
    have isz : ∀ v ∈ invR R2 M.length bot, ∀ q ∈ v, Sz 255 q := fun v hv q hq => by
      obtain ⟨r, hr, rfl⟩ := List.mem_map.mp hv
      obtain ⟨x, hx, rfl⟩ := List.mem_map.mp hq
      obtain ⟨h1, h2⟩ := divInt_le (a := x) bne
      have h3 := O2.bd r hr x (List.mem_of_mem_drop hx)
      have h4 := O2.bb
      exact ⟨Nat.lt_of_le_of_lt h1 (Nat.lt_of_lt_of_le h3 pw), Nat.lt_of_le_of_lt h2 (Nat.lt_of_lt_of_le h4 pw)⟩
    have eA := Lare_vecs_ok (T := T04) (I := I04) (n := 35) h04_c rfl (B := invR R2 M.length bot) (w := m) (k := 255) (fun v hv => by rw [iw v hv, Mlen]) (fun v hv q hq => (isz v hv q hq).2) (by decide) (le_size (by omega)) (le_size (by omega)) (a := .d (md (invR R2 M.length bot))) (b := .d (.int (m : Int))) arD arD
    have lt : Bi.ev .len [md (invR R2 M.length bot)] = some (.int (m : Int)) := by rw [md, len_tup, List.length_map, il, Mlen]
    have comb := O2.inv Mwid hkm
    obtain ⟨ρ', el, t8, rfl, _⟩ := for_go (tg := .nm 8) (body := evSs (evF T04 39) (b_law04_0 I04)) dn (List.range m) (fun j ρ => ∃ t8 : Sl, ρ = [.scr (ns.map D.int), .dat (rowD row), .own [.int (s1 + 1)], .dat (.int (m : Int)), .dat (rt R), .dat (md M), .dat (fr (det M.length (qx M))), .dat (md (invR R2 M.length bot)), t8] ∧ t8.free = true) (ρ := [.scr (ns.map D.int), .dat (rowD row), .own [.int (s1 + 1)], .dat (.int (m : Int)), .dat (rt R), .dat (md M), .dat (fr (det M.length (qx M))), .dat (md (invR R2 M.length bot)), .un]) ⟨.un, rfl, rfl⟩ (by
      rintro j a ρ ha ⟨t8, rfl, f8⟩
      have hj : j < m := by
        have := (List.getElem?_eq_some_iff.mp ha).1
        rwa [List.length_range] at this
      have ea : a = j := by
        rw [List.getElem?_range hj] at ha
        exact (Option.some.inj ha).symm
      subst ea
      have i1 := idx_md (L := M) (i := a) (by omega)
      have uw := Mwid _ (getD_mem (L := M) (d := []) (i := a) (by omega))
      have c1 := Lcombined_ok (T := T04) (I := I04) (n := 34) h04_c (u := M.getD a []) (B := invR R2 M.length bot) (m := m) (a := 4) (c := 255) (by omega) (by omega) (Msz _ (getD_mem (by omega))) isz (fun v hv => by rw [iw v hv, Mlen]) (by omega) (by omega) (by
        have : (invR R2 M.length bot).length ≤ 5 := by omega
        have := Nat.mul_le_mul_right (4 + 255 + 1) this
        omega) (by omega) (x := vd (M.getD a [])) (fun k hk => idx_vd (by omega)) (p := .d (vd (M.getD a []))) (q := .d (md (invR R2 M.length bot))) arD arD
      have c2 := Lunit_ok (T := T04) (I := I04) (n := 38) rfl (m := m) (k := a) (by omega) (b := .d (.int (a : Int))) arD
      have c3 := comb a (by omega)
      rw [Mlen] at c3
      rw [il, Mlen, c3] at c1
      refine ⟨.nx, _, ?_, .inl rfl, .dat (dn a), rfl, rfl⟩
      rw [Mlen] at *
      simp! [b_law04_0, dn, f8, i1, c1, c2, eqv_vd])
    have es : evS (evF T04 39) (s_law04_0 I04) [.scr (ns.map D.int), .dat (rowD row), .own [.int (s1 + 1)], .dat (.int (m : Int)), .dat (rt R), .dat (md M), .dat (fr (det M.length (qx M))), .dat (md (invR R2 M.length bot)), .un] = .ok .nx [.scr (ns.map D.int), .dat (rowD row), .own [.int (s1 + 1)], .dat (.int (m : Int)), .dat (rt R), .dat (md M), .dat (fr (det M.length (qx M))), .dat (md (invR R2 M.length bot)), t8] := for_st3 (by simp! [rng1_n (le_size (show m ≤ 100 by omega))]) rfl el rfl
    simp! [F_law04, r_law04_0, r_law04_1, r_law04_2, r_law04_3, r_law04_4, r_law04_5, r_law04_6, r_law04_7, r_law04_8, r_law04_9, r_law04_10, r_law04_11, ap_s, en, em, hm, er, eL, eD, et, hlo, eP, s1', eI, fr0, hz, eA, lt, es]
end Sm
end

set_option Elab.async false
set_option linter.all false
set_option maxRecDepth 100000
set_option maxHeartbeats 0
namespace P04
open PySem PySem.Spec PyProof.Rows L2 Sm
abbrev prg := PySem.Challenge.pw_highrooms_k04_determinants_and_inverses
abbrev R : PySem.W.OpenRow := PySem.W.OpenLaw.row PySem.Challenge.rw_highrooms_k04_determinants_and_inverses
def dl : List He.DefD := mkFn prg.main.body
def gs : List Str := mkGs prg.main.body
def Bn : List Str := ["len", "isinstance", "range", "tuple", "list", "int", "abs", "bool", "str", "zip", "enumerate"]
def fa : List He.Fa := gs.map .glo ++ Bn.map .free
def iLaw : Nat := prg.main.body.length - 1
def loose : List Str := mkLoose prg.main.body
abbrev hk : PySem.W.Hook := hookX 4 fa dl [true, true]
def ob (s : PySem.W.SharedT) : AlX := obsX 4 fa dl (HandSHeadRun.getT s)
theorem ob_eq (s : PySem.W.SharedT) : ob s = hk.obs s.abs := obsX_eq (HandSHeadRun.getT_eq s)
theorem run (w : World) : HandSHeadRun.RunEqI R (PySem.W.view R.prog [0, iLaw]) hk ob 8000 loose w := by
  unfold HandSHeadRun.RunEqI
  kernel_rfl
theorem tb : tabB T_k04.tab Bn true true dl gs = true := by kernel_rfl
theorem plain (ns : List Int) (h : ns.length ≤ 63) : ∃ ios, evF T_k04.tab 40 45 [.s (ns.map D.int)] = .ok (.bl true) ios := by
  exact ⟨[], Sm.plain04 ns⟩
end P04
open PySem PySem.W PySem.Calls PyProof.Rows
theorem PySem.Challenge.cw_highrooms_k04_determinants_and_inverses_holds : PySem.Challenge.rw_highrooms_k04_determinants_and_inverses.Holds := by
  w_on; o_law
  refine HandSHeadRun.head_imp (r := OpenLaw.row PySem.Challenge.rw_highrooms_k04_determinants_and_inverses) (q := view (OpenLaw.row PySem.Challenge.rw_highrooms_k04_determinants_and_inverses).prog [0, P04.iLaw]) (H := P04.hk) (ob := P04.ob) (M := 8000) (loose := P04.loose) (d := HandSHeadRun.topDef (OpenLaw.row PySem.Challenge.rw_highrooms_k04_determinants_and_inverses).prog P04.iLaw) (kwd := []) P04.ob_eq
    P04.run (by kernel_rfl) (by kernel_rfl) (by kernel_rfl) (by rfl) (by first | assumption | decide +kernel) (by decide +kernel) ⟨rfl, rfl, rfl, rfl, rfl, by decide +kernel⟩ ?hw ?hc
  case hw => w_witness2
  case hc =>
    refine L2.walk_ofE (l := PySem.Challenge.rw_highrooms_k04_determinants_and_inverses) (n := 63) (k := 40) (x := "script") (CX := L2.CX0) rfl (by decide) (by kernel_rfl) ⟨rfl, by decide, by decide⟩ ?F (fun _ _ _ _ z => z)
    intro w mg fa h Y G hmg0
    obtain ⟨K, KX, c, cg⟩ := Y
    have hmg : mg ("law" : PySem.Str) = some (.ref fa) := by
      have e : (HandSHeadRun.topDef (OpenLaw.row PySem.Challenge.rw_highrooms_k04_determinants_and_inverses).prog P04.iLaw).name = ("law" : PySem.Str) := by kernel_rfl
      rw [← e]
      exact hmg0
    obtain ⟨fd, hb, hF⟩ := Sm.law_facts (P := (PySem.Challenge.rw_highrooms_k04_determinants_and_inverses).prog) (w := w) (n := 39) (i := 45) P04.tb KX G c cg rfl rfl rfl rfl hmg
    exact ⟨K, fd, fun vs H Q _ => Sm.spF K mg 1 (Sm.evF T_k04.tab 40 45) false vs H Q fun _ _ _ => False, KX, hb, fun H a ns hl hO hS => Sm.law_sp (mg := mg) P04.plain (by decide) H a ns hl hO hS, hF⟩
