import PyProof.Rows.All
import HandS.ForMost
import HandS.Exc
import HandS.Wide
import HandS.Gcd
import HandS.IsInst
import HandS.Style
import HandS.Zip
import HandS.TupAny
import HandS.Conv
import HandS.SortInts
import HandS.SortRule
import HandS.Defaults
import HandS.Property
import HandS.WordsExc
import HandS.ExcOwn
import HandS.WideBits
import HandS.HeadHook1
import HandS.Rev
import HandS.HeadHook2
import HandS.ForExc
import HandS.Head0
import HandS.Head1
import HandS.Head2
import HandS.HeadEnd
import HandS.Head3
import KE.KStateDown
import PySem.Challenge.RW_onewarmth_k01_powers_and_roots
set_option linter.all false
set_option Elab.async false
section
set_option Elab.async false
set_option linter.all false
set_option maxRecDepth 100000
/-! R1: plain data, the compact form of a def, its plain meaning. -/
namespace R
open PySem

/-! ### data -/
inductive D where
  | non | bl (b : Bool) | int (i : Int) | str (s : Str) | tup (xs : List D) | lst (xs : List D) | obj (c : Nat) (xs : List D)
  /-- a list that nobody changes (the script) -/
  | fz (xs : List D)

/-- no list within (nor an object with one) -/
def D.noL : D → Bool
  | .non => true | .bl _ => true | .int _ => true | .str _ => true
  | .tup xs => noLs xs
  | .lst _ => false
  | .obj _ xs => noLs xs
  | .fz _ => false
where noLs : List D → Bool
  | [] => true
  | d :: ds => d.noL && noLs ds

/-- a value with its own lists told apart -/
inductive T where
  | sh (d : D) | ow (ts : List T)
def T.d : T → D
  | .sh d => d
  | .ow ts => .lst (ds ts)
where ds : List T → List D
  | [] => []
  | t :: ts => t.d :: ds ts
def T.noL : T → Bool
  | .sh d => d.noL
  | .ow ts => noLs ts
where noLs : List T → Bool
  | [] => true
  | t :: ts => t.noL && noLs ts

inductive Res (α : Type) where
  | ok (a : α) | ex (c : Nat) (fs : List D) | bad
def Res.bind {α β : Type} (r : Res α) (f : α → Res β) : Res β := match r with
  | .ok a => f a
  | .ex c fs => .ex c fs
  | .bad => .bad
@[simp] theorem Res.bind_ok {α β : Type} (a : α) (f : α → Res β) : (Res.ok a).bind f = f a := rfl
@[simp] theorem Res.bind_ex {α β : Type} (c : Nat) (fs : List D) (f : α → Res β) : (Res.ex c fs : Res α).bind f = .ex c fs := rfl
@[simp] theorem Res.bind_bad {α β : Type} (f : α → Res β) : (Res.bad : Res α).bind f = .bad := rfl

/-- the greatest length of a list -/
@[irreducible] def LINE : Nat := sizeLine
theorem LINE_eq : LINE = sizeLine := by unfold LINE; rfl

/-! ### operators -/
inductive O2 where
  | add | sub | mul | fdiv | mod | pow | eq | ne | lt | le | gt | ge | isin | notin | shl
inductive O1 where
  | neg | isN | notN | isB (b : Bool) | notB (b : Bool)
inductive Ty where
  | int | bool | str | list | tuple | cls (c : Nat)
inductive Bi where
  | len | abs | int | min1 | max1 | min2 | max2 | sum | tuple | list | listR1 | listR2 | sorted | isinst (t : Ty) | gcd | all

def mulOk (i j : Int) : Bool := decide (i.natAbs.log2 + j.natAbs.log2 < 1000000)
def divOk (j : Int) : Bool := decide (0 < j) && decide (j.natAbs.log2 < 9000)
def shlOk (i j : Int) : Bool := decide (0 ≤ j) && decide (i.natAbs.log2 + j.toNat < 1000000)
/-- the bits of an int's size -/
def bitsI (i : Int) : Nat := if i = 0 then 0 else i.natAbs.log2 + 1
def powOk (i j : Int) : Bool := decide (0 ≤ j) && (decide (j ≤ 1000000) && decide (i.natAbs < 2 ^ 64))

/-- Python's == of data without objects -/
def D.eqv : D → D → Bool
  | .non, .non => true
  | .bl a, .bl b => a == b
  | .bl a, .int j => (if a then 1 else 0) == j
  | .int i, .bl b => i == (if b then 1 else 0)
  | .int i, .int j => i == j
  | .str x, .str y => x == y
  | .tup xs, .tup ys => eqvs xs ys
  | .lst xs, .lst ys => eqvs xs ys
  | _, _ => false
where eqvs : List D → List D → Bool
  | [], [] => true
  | x :: xs, y :: ys => x.eqv y && eqvs xs ys
  | _, _ => false
/-- comparable: no object within, not nested deeper -/
def D.plain : Nat → D → Bool
  | _, .non => true | _, .bl _ => true | _, .int _ => true | _, .str s => PyData.strOk s
  | 0, .tup _ => false | 0, .lst _ => false
  | n + 1, .tup xs => xs.all (D.plain n)
  | n + 1, .lst xs => xs.all (D.plain n)
  | _, .obj _ _ => false
  | _, .fz _ => false
def D.flat : D → Bool
  | .non => true | .bl _ => true | .int _ => true | .str _ => true
  | _ => false

def eqR (a b : D) (neg : Bool) : Res D := if a.plain 20 && b.plain 20 then .ok (.bl (neg ^^ a.eqv b)) else .bad
def inR (a b : D) (neg : Bool) : Res D := match b with
  | .lst xs => if a.flat && xs.all D.flat then .ok (.bl (neg ^^ xs.any fun x => x.eqv a)) else .bad
  | .tup xs => if a.flat && xs.all D.flat then .ok (.bl (neg ^^ xs.any fun x => x.eqv a)) else .bad
  | _ => .bad
def cmpI (p : Int → Int → Bool) (a b : D) : Res D := match a, b with
  | .int i, .int j => .ok (.bl (p i j))
  | _, _ => .bad

def op2 : O2 → D → D → Res D
  | .add, a, b => match a, b with
    | .int i, .int j => .ok (.int (i + j))
    | .lst xs, .lst ys => if xs.length + ys.length ≤ LINE then .ok (.lst (xs ++ ys)) else .bad
    | .tup xs, .tup ys => if xs.length + ys.length ≤ LINE then .ok (.tup (xs ++ ys)) else .bad
    | _, _ => .bad
  | .sub, a, b => match a, b with
    | .int i, .int j => .ok (.int (i - j))
    | _, _ => .bad
  | .mul, a, b => match a, b with
    | .int i, .int j => if mulOk i j then .ok (.int (i * j)) else .bad
    | .lst xs, .int k => if decide (-(2 ^ 63) ≤ k) && (decide (k < 2 ^ 63) && decide (xs.length * k.toNat ≤ LINE)) then .ok (.lst (List.replicate k.toNat xs).flatten) else .bad
    | _, _ => .bad
  | .fdiv, a, b => match a, b with
    | .int i, .int j => if divOk j then .ok (.int (i / j)) else .bad
    | _, _ => .bad
  | .mod, a, b => match a, b with
    | .int i, .int j => if decide (0 < j) then .ok (.int (i % j)) else .bad
    | _, _ => .bad
  | .pow, a, b => match a, b with
    | .int i, .int j => if powOk i j then .ok (.int (i ^ j.toNat)) else .bad
    | _, _ => .bad
  | .eq, a, b => eqR a b false
  | .ne, a, b => eqR a b true
  | .lt, a, b => cmpI (fun i j => decide (i < j)) a b
  | .le, a, b => cmpI (fun i j => decide (i ≤ j)) a b
  | .gt, a, b => cmpI (fun i j => decide (j < i)) a b
  | .ge, a, b => cmpI (fun i j => decide (j ≤ i)) a b
  | .isin, a, b => inR a b false
  | .notin, a, b => inR a b true
  | .shl, a, b => match a, b with
    | .int i, .int j => if shlOk i j then .ok (.int (i * 2 ^ j.toNat)) else .bad
    | _, _ => .bad

def D.isNon : D → Bool
  | .non => true
  | _ => false
def D.isBl (b : Bool) : D → Bool
  | .bl c => b == c
  | _ => false
def op1 : O1 → D → Res D
  | .neg, a => match a with
    | .int i => .ok (.int (-i))
    | _ => .bad
  | .isN, a => .ok (.bl a.isNon)
  | .notN, a => .ok (.bl (!a.isNon))
  | .isB b, a => .ok (.bl (a.isBl b))
  | .notB b, a => .ok (.bl (!a.isBl b))

def D.ints : List D → Option (List Int)
  | [] => some []
  | .int i :: ds => (D.ints ds).map (i :: ·)
  | _ :: _ => none
def D.bools : List D → Option (List Bool)
  | [] => some []
  | .bl i :: ds => (D.bools ds).map (i :: ·)
  | _ :: _ => none
def D.seq : D → Option (List D)
  | .tup xs => some xs
  | .lst xs => some xs
  | .fz xs => some xs
  | _ => none
def intsOf (d : D) : Option (List Int) := d.seq.bind D.ints
def maxL : List Int → Int
  | [] => 0
  | [x] => x
  | x :: xs => max x (maxL xs)
def minL : List Int → Int
  | [] => 0
  | [x] => x
  | x :: xs => min x (minL xs)
def insI (x : Int) : List Int → List Int
  | [] => [x]
  | y :: ys => if x ≤ y then x :: y :: ys else y :: insI x ys
def sortI : List Int → List Int
  | [] => []
  | x :: xs => insI x (sortI xs)
def hasTy : Ty → D → Bool
  | .int, .int _ => true
  | .int, .bl _ => true
  | .bool, .bl _ => true
  | .str, .str _ => true
  | .list, .lst _ => true
  | .list, .fz _ => true
  | .tuple, .tup _ => true
  | .cls c, .obj c' _ => c == c'
  | _, _ => false
def rng (a b : Int) : List D := (List.range (b - a).toNat).map fun i => D.int (a + (i : Nat))
def rngOk (a b : Int) : Bool := decide (-(2 ^ 62) ≤ a) && (decide (a < 2 ^ 62) && (decide (-(2 ^ 62) ≤ b) && (decide (b < 2 ^ 62) && decide ((b - a).toNat ≤ LINE))))

def bi : Bi → List D → Res D
  | .len, ds => match ds with
    | [.tup xs] => .ok (.int xs.length)
    | [.lst xs] => .ok (.int xs.length)
    | [.fz xs] => .ok (.int xs.length)
    | _ => .bad
  | .abs, ds => match ds with
    | [.int i] => .ok (.int (if i < 0 then -i else i))
    | _ => .bad
  | .int, ds => match ds with
    | [.int i] => .ok (.int i)
    | [.bl b] => .ok (.int (if b then 1 else 0))
    | _ => .bad
  | .min2, ds => match ds with
    | [.int i, .int j] => .ok (.int (min i j))
    | _ => .bad
  | .max2, ds => match ds with
    | [.int i, .int j] => .ok (.int (max i j))
    | _ => .bad
  | .min1, ds => match ds with
    | [d] => match intsOf d with
      | some (x :: xs) => .ok (.int (minL (x :: xs)))
      | _ => .bad
    | _ => .bad
  | .max1, ds => match ds with
    | [d] => match intsOf d with
      | some (x :: xs) => .ok (.int (maxL (x :: xs)))
      | _ => .bad
    | _ => .bad
  | .sum, ds => match ds with
    | [d] => match intsOf d with
      | some xs => .ok (.int xs.sum)
      | _ => .bad
    | _ => .bad
  | .all, ds => match ds with
    | [.lst xs] => match D.bools xs with
      | some bs => .ok (.bl (bs.all id))
      | _ => .bad
    | _ => .bad
  | .tuple, ds => match ds with
    | [.lst xs] => .ok (.tup xs)
    | [.tup xs] => .ok (.tup xs)
    | _ => .bad
  | .list, ds => match ds with
    | [.lst xs] => .ok (.lst xs)
    | [.tup xs] => .ok (.lst xs)
    | _ => .bad
  | .listR1, ds => match ds with
    | [.int n] => if rngOk 0 n then .ok (.lst (rng 0 n)) else .bad
    | _ => .bad
  | .listR2, ds => match ds with
    | [.int a, .int b] => if rngOk a b then .ok (.lst (rng a b)) else .bad
    | _ => .bad
  | .sorted, ds => match ds with
    | [.lst ds] => match D.ints ds with
      | some xs => .ok (.lst ((sortI xs).map .int))
      | _ => .bad
    | _ => .bad
  | .isinst t, ds => match ds with
    | [d] => .ok (.bl (hasTy t d))
    | _ => .bad
  | .gcd, ds => match ds with
    | [.int i, .int j] => .ok (.int ((Nat.gcd i.natAbs j.natAbs : Nat) : Int))
    | _ => .bad

/-! ### subscripts -/
def ixR (a i : D) : Res D := match i with
  | .int k => match a.seq with
    | some xs => match L2.atI xs k with
      | some d => .ok d
      | none => .bad
    | none => .bad
  | _ => .bad
def cutD (xs : List D) (lo hi : Option Int) : List D := (xs.drop (HT.sIx xs.length 0 lo)).take (HT.sIx xs.length xs.length hi - HT.sIx xs.length 0 lo)
def slR (a : D) (lo hi : Option Int) : Res D := match a with
  | .tup xs => .ok (.tup (cutD xs lo hi))
  | .lst xs => .ok (.lst (cutD xs lo hi))
  | _ => .bad

/-! ### the compact form -/
inductive Sk where
  | seq | r1 | r2 | zip
inductive E where
  | var (i : Nat) | non | bl (b : Bool) | int (z : Int) | str (s : Str)
  | tup (es : List E) | lst (es : List E)
  | op (o : O2) (a b : E) | un (o : O1) (a : E)
  | not (a : E) | and (a b : E) | or (a b : E) | ite (c a b : E)
  | idx (a i : E) | slc (a lo hi : E) | slo (a lo : E) | shi (a hi : E)
  | bi (b : Bi) (es : List E)
  | call (f : Nat) (es : List E) | mk (c f : Nat) (es : List E) (df : List D) | fld (a : E) (c p : Nat) | meth (a : E) (c f : Nat) (es : List E) | prop (a : E) (c f : Nat) | bits (a : E)
  | comp (sk : Sk) (tg : List Nat) (srcs conds : List E) (elt : E)
  | comp2 (sk : Sk) (tg : List Nat) (srcs conds : List E) (sk2 : Sk) (tg2 : List Nat) (srcs2 conds2 : List E) (elt : E)

def mapR {α : Type} (f : D → Res (Option α)) : List D → Res (List α)
  | [] => .ok []
  | x :: xs => (f x).bind fun o => (mapR f xs).bind fun ys => .ok (match o with | some y => y :: ys | none => ys)
def noEx {α : Type} : Res α → Res α
  | .ok a => .ok a
  | _ => .bad
def srcR (sk : Sk) (ds : List D) : Res (List D) := match sk with
  | .seq => match ds with
    | [d] => match d.seq with
      | some xs => .ok xs
      | none => .bad
    | _ => .bad
  | .r1 => match ds with
    | [.int n] => if rngOk 0 n then .ok (rng 0 n) else .bad
    | _ => .bad
  | .r2 => match ds with
    | [.int a, .int b] => if rngOk a b then .ok (rng a b) else .bad
    | _ => .bad
  | .zip => match ds with
    | [.lst xs, .lst ys] => .ok (List.zipWith (fun x y => D.tup [x, y]) xs ys)
    | [.tup xs, .tup ys] => .ok (List.zipWith (fun x y => D.tup [x, y]) xs ys)
    | _ => .bad
def wipe (Δ : List (Option D)) : List Nat → List (Option D)
  | [] => Δ
  | v :: vs => (wipe Δ vs).set v none
def bindT (tg : List Nat) (x : D) (Δ : List (Option D)) : Option (List (Option D)) := match tg with
  | [i] => some (Δ.set i (some x))
  | [i, j] => match x with
    | .tup [a, b] => some ((Δ.set i (some a)).set j (some b))
    | _ => none
  | _ => none

/-- what the called defs yield -/
abbrev Or := Nat → List D → Res T

/-- as a test -/
def tob (r : Res D) : Res Bool := r.bind fun d => match d with
  | .bl b => .ok b
  | _ => .bad
mutual
def ev (Φ : Or) : E → List (Option D) → Res D
  | .var i, Δ => match Δ[i]? with
    | some (some d) => .ok d
    | _ => .bad
  | .non, _ => .ok .non
  | .bl b, _ => .ok (.bl b)
  | .int z, _ => .ok (.int z)
  | .str s, _ => .ok (.str s)
  | .tup es, Δ => (evs Φ es Δ).bind fun ds => if ds.length ≤ LINE then .ok (.tup ds) else .bad
  | .lst es, Δ => (evs Φ es Δ).bind fun ds => if ds.length ≤ LINE then .ok (.lst ds) else .bad
  | .op o a b, Δ => (ev Φ a Δ).bind fun x => (ev Φ b Δ).bind fun y => op2 o x y
  | .un o a, Δ => (ev Φ a Δ).bind fun x => op1 o x
  | .not a, Δ => (tob (ev Φ a Δ)).bind fun b => .ok (.bl !b)
  | .and a b, Δ => (tob (ev Φ a Δ)).bind fun x => if x then (tob (ev Φ b Δ)).bind fun y => .ok (.bl y) else .ok (.bl false)
  | .or a b, Δ => (tob (ev Φ a Δ)).bind fun x => if x then .ok (.bl true) else (tob (ev Φ b Δ)).bind fun y => .ok (.bl y)
  | .ite c a b, Δ => (tob (ev Φ c Δ)).bind fun x => if x then ev Φ a Δ else ev Φ b Δ
  | .idx a i, Δ => (ev Φ a Δ).bind fun x => (ev Φ i Δ).bind fun y => ixR x y
  | .slc a l h, Δ => (ev Φ a Δ).bind fun x => (ev Φ l Δ).bind fun y => match y with
    | .int i => (ev Φ h Δ).bind fun z => (match z with
      | .int j => slR x (some i) (some j)
      | _ => .bad)
    | _ => .bad
  | .slo a l, Δ => (ev Φ a Δ).bind fun x => (ev Φ l Δ).bind fun y => match y with
    | .int i => slR x (some i) none
    | _ => .bad
  | .shi a h, Δ => (ev Φ a Δ).bind fun x => (ev Φ h Δ).bind fun y => match y with
    | .int i => slR x none (some i)
    | _ => .bad
  | .bi b es, Δ => (evs Φ es Δ).bind fun ds => bi b ds
  | .call f es, Δ => (evs Φ es Δ).bind fun ds => (Φ f ds).bind fun t => .ok t.d
  | .mk _ f es df, Δ => (evs Φ es Δ).bind fun ds => (Φ f (ds ++ df)).bind fun t => match t with
    | .sh d => .ok d
    | .ow _ => .bad
  | .fld a c p, Δ => (ev Φ a Δ).bind fun x => match x with
    | .obj c' xs => if c' = c then (match xs[p]? with | some d => .ok d | none => .bad) else .bad
    | _ => .bad
  | .meth a c f es, Δ => (ev Φ a Δ).bind fun x => match x with
    | .obj c' xs => if c' = c then (evs Φ es Δ).bind fun ds => (Φ f (.obj c' xs :: ds)).bind fun t => .ok t.d else .bad
    | _ => .bad
  | .prop a c f, Δ => (ev Φ a Δ).bind fun x => match x with
    | .obj c' xs => if c' = c then (Φ f [.obj c' xs]).bind fun t => .ok t.d else .bad
    | _ => .bad
  | .bits a, Δ => (ev Φ a Δ).bind fun x => match x with
    | .int i => .ok (.int (bitsI i))
    | _ => .bad
  | .comp sk tg srcs conds elt, Δ => (evs Φ srcs Δ).bind fun ds => (srcR sk ds).bind fun items =>
    (noEx (mapR (fun x => match bindT tg x (wipe Δ tg) with
      | none => .bad
      | some Δ' => (evc Φ conds Δ').bind fun b => if b then (ev Φ elt Δ').bind fun d => .ok (some d) else .ok none) items)).bind fun ys => if ys.length ≤ LINE then .ok (.lst ys) else .bad
  | .comp2 sk tg srcs conds sk2 tg2 srcs2 conds2 elt, Δ => (evs Φ srcs Δ).bind fun ds => (srcR sk ds).bind fun items =>
    (noEx (mapR (fun x => match bindT tg x (wipe Δ (tg ++ tg2)) with
      | none => .bad
      | some Δ' => (evc Φ conds Δ').bind fun b => if b then ((evs Φ srcs2 Δ').bind fun ds2 => (srcR sk2 ds2).bind fun items2 =>
          (mapR (fun x2 => match bindT tg2 x2 (wipe Δ' tg2) with
            | none => .bad
            | some Δ2 => (evc Φ conds2 Δ2).bind fun b => if b then (ev Φ elt Δ2).bind fun d => .ok (some d) else .ok none) items2).bind fun ys => .ok (some ys)) else .ok none) items)).bind fun yss => if yss.flatten.length ≤ LINE then .ok (.lst yss.flatten) else .bad
def evs (Φ : Or) : List E → List (Option D) → Res (List D)
  | [], _ => .ok []
  | e :: es, Δ => (ev Φ e Δ).bind fun d => (evs Φ es Δ).bind fun ds => .ok (d :: ds)
/-- a clause's tests -/
def evc (Φ : Or) : List E → List (Option D) → Res Bool
  | [], _ => .ok true
  | e :: es, Δ => (tob (ev Φ e Δ)).bind fun b => if b then evc Φ es Δ else .ok false
end
end R
end

section
set_option autoImplicit true
set_option linter.all false
/-! R1eq: printed by eqs.py -/
namespace R
open PySem
theorem ev_var : ev Φ (.var i) Δ = match Δ[i]? with
      | some (some d) => .ok d
      | _ => .bad := rfl
theorem ev_non : ev Φ .non u1 = .ok .non := rfl
theorem ev_bl : ev Φ (.bl b) u1 = .ok (.bl b) := rfl
theorem ev_int : ev Φ (.int z) u1 = .ok (.int z) := rfl
theorem ev_str : ev Φ (.str s) u1 = .ok (.str s) := rfl
theorem ev_tup : ev Φ (.tup es) Δ = (evs Φ es Δ).bind fun ds => if ds.length ≤ LINE then .ok (.tup ds) else .bad := rfl
theorem ev_lst : ev Φ (.lst es) Δ = (evs Φ es Δ).bind fun ds => if ds.length ≤ LINE then .ok (.lst ds) else .bad := rfl
theorem ev_op : ev Φ (.op o a b) Δ = (ev Φ a Δ).bind fun x => (ev Φ b Δ).bind fun y => op2 o x y := rfl
theorem ev_un : ev Φ (.un o a) Δ = (ev Φ a Δ).bind fun x => op1 o x := rfl
theorem ev_not : ev Φ (.not a) Δ = (tob (ev Φ a Δ)).bind fun b => .ok (.bl !b) := rfl
theorem ev_and : ev Φ (.and a b) Δ = (tob (ev Φ a Δ)).bind fun x => if x then (tob (ev Φ b Δ)).bind fun y => .ok (.bl y) else .ok (.bl false) := rfl
theorem ev_or : ev Φ (.or a b) Δ = (tob (ev Φ a Δ)).bind fun x => if x then .ok (.bl true) else (tob (ev Φ b Δ)).bind fun y => .ok (.bl y) := rfl
theorem ev_ite : ev Φ (.ite c a b) Δ = (tob (ev Φ c Δ)).bind fun x => if x then ev Φ a Δ else ev Φ b Δ := rfl
theorem ev_idx : ev Φ (.idx a i) Δ = (ev Φ a Δ).bind fun x => (ev Φ i Δ).bind fun y => ixR x y := rfl
theorem ev_slc : ev Φ (.slc a l h) Δ = (ev Φ a Δ).bind fun x => (ev Φ l Δ).bind fun y => match y with
      | .int i => (ev Φ h Δ).bind fun z => (match z with
        | .int j => slR x (some i) (some j)
        | _ => .bad)
      | _ => .bad := rfl
theorem ev_slo : ev Φ (.slo a l) Δ = (ev Φ a Δ).bind fun x => (ev Φ l Δ).bind fun y => match y with
      | .int i => slR x (some i) none
      | _ => .bad := rfl
theorem ev_shi : ev Φ (.shi a h) Δ = (ev Φ a Δ).bind fun x => (ev Φ h Δ).bind fun y => match y with
      | .int i => slR x none (some i)
      | _ => .bad := rfl
theorem ev_bi : ev Φ (.bi b es) Δ = (evs Φ es Δ).bind fun ds => bi b ds := rfl
theorem ev_call : ev Φ (.call f es) Δ = (evs Φ es Δ).bind fun ds => (Φ f ds).bind fun t => .ok t.d := rfl
theorem ev_mk : ev Φ (.mk u1 f es df) Δ = (evs Φ es Δ).bind fun ds => (Φ f (ds ++ df)).bind fun t => match t with
      | .sh d => .ok d
      | .ow _ => .bad := rfl
theorem ev_fld : ev Φ (.fld a c p) Δ = (ev Φ a Δ).bind fun x => match x with
      | .obj c' xs => if c' = c then (match xs[p]? with | some d => .ok d | none => .bad) else .bad
      | _ => .bad := rfl
theorem ev_meth : ev Φ (.meth a c f es) Δ = (ev Φ a Δ).bind fun x => match x with
      | .obj c' xs => if c' = c then (evs Φ es Δ).bind fun ds => (Φ f (.obj c' xs :: ds)).bind fun t => .ok t.d else .bad
      | _ => .bad := rfl
theorem ev_prop : ev Φ (.prop a c f) Δ = (ev Φ a Δ).bind fun x => match x with
      | .obj c' xs => if c' = c then (Φ f [.obj c' xs]).bind fun t => .ok t.d else .bad
      | _ => .bad := rfl
theorem ev_bits : ev Φ (.bits a) Δ = (ev Φ a Δ).bind fun x => match x with
      | .int i => .ok (.int (bitsI i))
      | _ => .bad := rfl
theorem ev_comp : ev Φ (.comp sk tg srcs conds elt) Δ = (evs Φ srcs Δ).bind fun ds => (srcR sk ds).bind fun items =>
      (noEx (mapR (fun x => match bindT tg x (wipe Δ tg) with
        | none => .bad
        | some Δ' => (evc Φ conds Δ').bind fun b => if b then (ev Φ elt Δ').bind fun d => .ok (some d) else .ok none) items)).bind fun ys => if ys.length ≤ LINE then .ok (.lst ys) else .bad := rfl
theorem ev_comp2 : ev Φ (.comp2 sk tg srcs conds sk2 tg2 srcs2 conds2 elt) Δ = (evs Φ srcs Δ).bind fun ds => (srcR sk ds).bind fun items =>
      (noEx (mapR (fun x => match bindT tg x (wipe Δ (tg ++ tg2)) with
        | none => .bad
        | some Δ' => (evc Φ conds Δ').bind fun b => if b then ((evs Φ srcs2 Δ').bind fun ds2 => (srcR sk2 ds2).bind fun items2 =>
            (mapR (fun x2 => match bindT tg2 x2 (wipe Δ' tg2) with
              | none => .bad
              | some Δ2 => (evc Φ conds2 Δ2).bind fun b => if b then (ev Φ elt Δ2).bind fun d => .ok (some d) else .ok none) items2).bind fun ys => .ok (some ys)) else .ok none) items)).bind fun yss => if yss.flatten.length ≤ LINE then .ok (.lst yss.flatten) else .bad := rfl
theorem evs_l0 : evs Φ [] u1 = .ok [] := rfl
theorem evs_cons1 : evs Φ (e :: es) Δ = (ev Φ e Δ).bind fun d => (evs Φ es Δ).bind fun ds => .ok (d :: ds) := rfl
theorem evc_l0 : evc Φ [] u1 = .ok true := rfl
theorem evc_cons1 : evc Φ (e :: es) Δ = (tob (ev Φ e Δ)).bind fun b => if b then evc Φ es Δ else .ok false := rfl
end R
end

section
set_option Elab.async false
set_option linter.all false
set_option maxRecDepth 100000
/-! R2: how plain data stands in the heap. -/
namespace R
open PySem PySem.Spec PyProof.Rows L2

/-- what the text has written: the classes' addresses, their fields (in the order in which they are stored) -/
structure Wo where
  K : PySem.W.Frag
  nC : Nat
  cA : Nat → Addr
  fl : Nat → List PySem.Str
  /-- the own errors' addresses, their fields -/
  xA : Nat → Addr
  xf : Nat → List PySem.Str

mutual
def Rep (W : Wo) (Z : Hp) : D → V → Prop
  | .non, v => v = .non
  | .bl b, v => v = .bl b
  | .int i, v => v = .int i
  | .str s, v => v = .str s
  | .tup ds, v => ∃ a vs, v = .ref a ∧ SqT W.K Z a vs ∧ RepL W Z ds vs
  | .lst ds, v => ∃ a vs, v = .ref a ∧ Z a = some (.lst vs) ∧ RepL W Z ds vs
  | .fz ds, v => ∃ a vs, v = .ref a ∧ SqL W.K Z a vs ∧ RepL W Z ds vs
  | .obj c ds, v => ∃ a dx vs, v = .ref a ∧ c < W.nC ∧ Z a = some (.ins (W.cA c) dx ((W.fl c).zip vs)) ∧ vs.length ≤ (W.fl c).length ∧ RepL W Z ds vs
def RepL (W : Wo) (Z : Hp) : List D → List V → Prop
  | [], vs => vs = []
  | d :: ds, vs => ∃ v us, vs = v :: us ∧ Rep W Z d v ∧ RepL W Z ds us
end

theorem sqT_mono {K : PySem.W.Frag} {Z Z' : Hp} {a : Addr} {xs : List V} (e : Same Z Z') (h : SqT K Z a xs) : SqT K Z' a xs := by
  rcases h with (h | ⟨o, h⟩) | h
  · exact .inl (.inl (e _ _ h))
  · exact .inl (.inr ⟨o, e _ _ h⟩)
  · exact .inr h
mutual
theorem Rep.mono {W : Wo} {Z Z' : Hp} (e : Same Z Z') : ∀ {d : D} {v : V}, Rep W Z d v → Rep W Z' d v
  | .non, _, h => by simpa only [Rep] using h
  | .bl _, _, h => by simpa only [Rep] using h
  | .int _, _, h => by simpa only [Rep] using h
  | .str _, _, h => by simpa only [Rep] using h
  | .tup ds, _, h => by
    simp only [Rep] at h ⊢
    obtain ⟨a, vs, h1, h2, h3⟩ := h
    exact ⟨a, vs, h1, sqT_mono e h2, RepL.mono e h3⟩
  | .lst ds, _, h => by
    simp only [Rep] at h ⊢
    obtain ⟨a, vs, h1, h2, h3⟩ := h
    exact ⟨a, vs, h1, e _ _ h2, RepL.mono e h3⟩
  | .fz ds, _, h => by
    simp only [Rep] at h ⊢
    obtain ⟨a, vs, h1, h2, h3⟩ := h
    exact ⟨a, vs, h1, e.seq h2, RepL.mono e h3⟩
  | .obj c ds, _, h => by
    simp only [Rep] at h ⊢
    obtain ⟨a, dx, vs, h1, h0, h2, h3, h4⟩ := h
    exact ⟨a, dx, vs, h1, h0, e _ _ h2, h3, RepL.mono e h4⟩
theorem RepL.mono {W : Wo} {Z Z' : Hp} (e : Same Z Z') : ∀ {ds : List D} {vs : List V}, RepL W Z ds vs → RepL W Z' ds vs
  | [], _, h => by simpa only [RepL] using h
  | d :: ds, _, h => by
    simp only [RepL] at h ⊢
    obtain ⟨v, us, h1, h2, h3⟩ := h
    exact ⟨v, us, h1, Rep.mono e h2, RepL.mono e h3⟩
end
section
variable {W : Wo} {Z Z' H H' H2 Z2 : Hp}
theorem RepL.length : ∀ {ds : List D} {vs : List V}, RepL W Z ds vs → vs.length = ds.length
  | [], _, h => by simp only [RepL] at h; rw [h]; rfl
  | d :: ds, _, h => by
    simp only [RepL] at h
    obtain ⟨v, us, rfl, _, h3⟩ := h
    rw [List.length_cons, List.length_cons, RepL.length h3]
theorem RepL.nil : RepL W Z [] [] := by simp only [RepL]
theorem RepL.cons {d : D} {v : V} {ds : List D} {vs : List V} (h : Rep W Z d v) (t : RepL W Z ds vs) : RepL W Z (d :: ds) (v :: vs) := by
  simp only [RepL]; exact ⟨v, vs, rfl, h, t⟩
theorem RepL.uncons {d : D} {ds : List D} {vs : List V} (h : RepL W Z (d :: ds) vs) : ∃ v us, vs = v :: us ∧ Rep W Z d v ∧ RepL W Z ds us := by
  simpa only [RepL] using h
theorem RepL.unnil {vs : List V} (h : RepL W Z [] vs) : vs = [] := by simpa only [RepL] using h
theorem RepL.get : ∀ {ds : List D} {vs : List V} {i : Nat} {d : D}, RepL W Z ds vs → ds[i]? = some d → ∃ v, vs[i]? = some v ∧ Rep W Z d v
  | [], _, _, _, _, e => by simp at e
  | d :: ds, _, i, x, h, e => by
    obtain ⟨v, us, rfl, h1, h2⟩ := h.uncons
    cases i with
    | zero => simp at e; subst e; exact ⟨v, by simp, h1⟩
    | succ i =>
      obtain ⟨w, e1, e2⟩ := RepL.get (i := i) (d := x) h2 (by simpa using e)
      exact ⟨w, by simpa using e1, e2⟩
theorem RepL.getV : ∀ {ds : List D} {vs : List V} {i : Nat} {v : V}, RepL W Z ds vs → vs[i]? = some v → ∃ d, ds[i]? = some d ∧ Rep W Z d v
  | [], _, _, _, h, e => by rw [h.unnil] at e; simp at e
  | d :: ds, _, i, x, h, e => by
    obtain ⟨v, us, rfl, h1, h2⟩ := h.uncons
    cases i with
    | zero => simp at e; subst e; exact ⟨d, by simp, h1⟩
    | succ i =>
      obtain ⟨w, e1, e2⟩ := RepL.getV (i := i) (v := x) h2 (by simpa using e)
      exact ⟨w, by simpa using e1, e2⟩
theorem RepL.append : ∀ {ds : List D} {vs : List V} {es : List D} {us : List V}, RepL W Z ds vs → RepL W Z es us → RepL W Z (ds ++ es) (vs ++ us)
  | [], _, _, _, h, t => by rw [h.unnil]; exact t
  | d :: ds, _, es, us, h, t => by
    obtain ⟨v, vs, rfl, h1, h2⟩ := h.uncons
    exact .cons h1 (RepL.append h2 t)
theorem RepL.take : ∀ {ds : List D} {vs : List V} (n : Nat), RepL W Z ds vs → RepL W Z (ds.take n) (vs.take n)
  | [], _, n, h => by rw [h.unnil]; simp [RepL]
  | d :: ds, _, 0, h => by simp [RepL]
  | d :: ds, _, n + 1, h => by
    obtain ⟨v, vs, rfl, h1, h2⟩ := h.uncons
    exact .cons h1 (RepL.take n h2)
theorem RepL.drop : ∀ {ds : List D} {vs : List V} (n : Nat), RepL W Z ds vs → RepL W Z (ds.drop n) (vs.drop n)
  | [], _, n, h => by rw [h.unnil]; simp [RepL]
  | d :: ds, _, 0, h => h
  | d :: ds, _, n + 1, h => by
    obtain ⟨v, vs, rfl, h1, h2⟩ := h.uncons
    exact RepL.drop n h2
theorem RepL.set {d : D} {v : V} (r : Rep W Z d v) : ∀ {ds : List D} {vs : List V} (n : Nat), RepL W Z ds vs → RepL W Z (ds.set n d) (vs.set n v)
  | [], _, n, h => by rw [h.unnil]; simp [RepL]
  | x :: ds, _, 0, h => by
    obtain ⟨w, vs, rfl, h1, h2⟩ := h.uncons
    exact .cons r h2
  | x :: ds, _, n + 1, h => by
    obtain ⟨w, vs, rfl, h1, h2⟩ := h.uncons
    exact .cons h1 (RepL.set r n h2)
theorem RepL.rep {ds : List D} {vs : List V} (h : RepL W Z ds vs) : ∀ n : Nat, RepL W Z (List.replicate n ds).flatten (List.replicate n vs).flatten
  | 0 => by simp [RepL]
  | n + 1 => by
    rw [List.replicate_succ, List.replicate_succ, List.flatten_cons, List.flatten_cons]
    exact h.append (RepL.rep h n)
/-- what is read as a list of ints -/
theorem RepL.ints : ∀ {ds : List D} {vs : List V} {ns : List Int}, RepL W Z ds vs → D.ints ds = some ns → vs = ns.map V.int
  | [], _, _, h, e => by
    rw [h.unnil]; simp [D.ints] at e; rw [e]; rfl
  | d :: ds, _, ns, h, e => by
    obtain ⟨v, vs, rfl, h1, h2⟩ := h.uncons
    cases d with
    | int i =>
      simp only [D.ints, Option.map_eq_some_iff] at e
      obtain ⟨ms, e1, rfl⟩ := e
      simp only [Rep] at h1
      rw [h1, RepL.ints h2 e1]; rfl
    | _ => simp [D.ints] at e
theorem RepL.bools : ∀ {ds : List D} {vs : List V} {ns : List Bool}, RepL W Z ds vs → D.bools ds = some ns → vs = ns.map V.bl
  | [], _, _, h, e => by
    rw [h.unnil]; simp [D.bools] at e; rw [e]; rfl
  | d :: ds, _, ns, h, e => by
    obtain ⟨v, vs, rfl, h1, h2⟩ := h.uncons
    cases d with
    | bl i =>
      simp only [D.bools, Option.map_eq_some_iff] at e
      obtain ⟨ms, e1, rfl⟩ := e
      simp only [Rep] at h1
      rw [h1, RepL.bools h2 e1]; rfl
    | _ => simp [D.bools] at e
theorem RepL.ofInts : ∀ (ns : List Int), RepL W Z (ns.map D.int) (ns.map V.int)
  | [] => .nil
  | n :: ns => .cons (by simp only [Rep]) (RepL.ofInts ns)
theorem RepL.cutV {ds : List D} {vs : List V} (h : RepL W Z ds vs) (lo hi : Option Int) : RepL W Z (cutD ds lo hi) (L2.cutV vs lo hi) := by
  unfold cutD L2.cutV
  rw [h.length]
  exact (h.drop _).take _

/-! ### what grows -/
/-- the heap goes on from H to H', its read part from Z to Z': only new objects come in -/
structure Ext (Z H Z' H' : Hp) : Prop where
  hh : Same H H'
  zz : Same Z Z'
  zh : Same Z' H'
  new : ∀ a o, Z' a = some o → Z a = some o ∨ H a = none
theorem Ext.refl (h : Same Z H) : Ext Z H Z H := ⟨Same.refl _, Same.refl _, h, fun _ _ e => .inl e⟩
theorem Ext.trans (a : Ext Z H Z' H') (b : Ext Z' H' Z2 H2) : Ext Z H Z2 H2 :=
  ⟨a.hh.trans b.hh, a.zz.trans b.zz, b.zh, fun x o e => (b.new x o e).elim (a.new x o) fun n => .inr (a.hh.free n)⟩
theorem same_upd {H : Hp} {p : Addr} {o : HO} (h : H p = none) : Same H (upd H p o) := fun b x e => by
  rw [upd_ne (ne_of_none e h)]; exact e
theorem Ext.none (a : Ext Z H Z' H') {p : Addr} (h : H' p = .none) : Z' p = .none := by
  cases e : Z' p with
  | none => rfl
  | some o => have := a.zh _ _ e; rw [h] at this; cases this
/-- a new object that is read from then on -/
theorem Ext.laid (a : Ext Z H Z' H') {p : Addr} {o : HO} (h : H' p = .none) : Ext Z H (upd Z' p o) (upd H' p o) := by
  have hz := a.none h
  refine ⟨a.hh.trans (same_upd h), a.zz.trans (same_upd hz), fun b x e => ?_, fun b x e => ?_⟩
  · by_cases hb : b = p
    · subst hb; rw [upd_same] at e ⊢; exact e
    · rw [upd_ne hb] at e ⊢; exact a.zh _ _ e
  · by_cases hb : b = p
    · subst hb; exact .inr (a.hh.free h)
    · rw [upd_ne hb] at e; exact a.new _ _ e

/-! ### a value with lists of its own -/
mutual
def RepT (W : Wo) (Z H : Hp) : T → V → List Addr → Prop
  | .sh d, v, as => Rep W Z d v ∧ as = []
  | .ow ts, v, as => ∃ a vs bs, v = .ref a ∧ H a = some (.lst vs) ∧ as = a :: bs ∧ RepTs W Z H ts vs bs
def RepTs (W : Wo) (Z H : Hp) : List T → List V → List Addr → Prop
  | [], vs, as => vs = [] ∧ as = []
  | t :: ts, vs, as => ∃ v us bs cs, vs = v :: us ∧ as = bs ++ cs ∧ RepT W Z H t v bs ∧ RepTs W Z H ts us cs
end
/-- the lists at as are read from then on -/
def addZ (Z H : Hp) (as : List Addr) : Hp := fun b => if b ∈ as then H b else Z b
theorem addZ_in {as : List Addr} {b : Addr} (h : b ∈ as) : addZ Z H as b = H b := if_pos h
theorem addZ_out {as : List Addr} {b : Addr} (h : b ∉ as) : addZ Z H as b = Z b := if_neg h
theorem addZ_same (zh : Same Z H) (as : List Addr) : Same Z (addZ Z H as) := fun b o e => by
  by_cases hb : b ∈ as
  · rw [addZ_in hb]; exact zh _ _ e
  · rw [addZ_out hb]; exact e
theorem addZ_H (zh : Same Z H) (as : List Addr) : Same (addZ Z H as) H := fun b o e => by
  by_cases hb : b ∈ as
  · rw [addZ_in hb] at e; exact e
  · rw [addZ_out hb] at e; exact zh _ _ e
theorem addZ_sub (zh : Same Z H) {as bs : List Addr} (h : ∀ a ∈ as, a ∈ bs) : Same (addZ Z H as) (addZ Z H bs) := fun b o e => by
  by_cases hb : b ∈ as
  · rw [addZ_in hb] at e; rw [addZ_in (h b hb)]; exact e
  · rw [addZ_out hb] at e; exact addZ_same zh bs _ _ e
mutual
theorem RepT.close (zh : Same Z H) : ∀ {t : T} {v : V} {as : List Addr}, RepT W Z H t v as → Rep W (addZ Z H as) t.d v
  | .sh d, v, as, h => by
    simp only [RepT] at h
    simp only [T.d]
    exact h.1.mono (addZ_same zh _)
  | .ow ts, v, as, h => by
    simp only [RepT] at h
    obtain ⟨a, vs, bs, rfl, h1, rfl, h2⟩ := h
    simp only [T.d, Rep]
    refine ⟨a, vs, rfl, ?_, (RepTs.close zh h2).mono (addZ_sub zh fun x hx => List.mem_cons_of_mem _ hx)⟩
    rw [addZ_in List.mem_cons_self]; exact h1
theorem RepTs.close (zh : Same Z H) : ∀ {ts : List T} {vs : List V} {as : List Addr}, RepTs W Z H ts vs as → RepL W (addZ Z H as) (T.d.ds ts) vs
  | [], vs, as, h => by
    simp only [RepTs] at h
    simp only [T.d.ds, RepL]
    exact h.1
  | t :: ts, vs, as, h => by
    simp only [RepTs] at h
    obtain ⟨v, us, bs, cs, rfl, rfl, h1, h2⟩ := h
    simp only [T.d.ds]
    exact .cons ((RepT.close zh h1).mono (addZ_sub zh fun x hx => List.mem_append_left _ hx)) ((RepTs.close zh h2).mono (addZ_sub zh fun x hx => List.mem_append_right _ hx))
end
theorem Ext.add (a : Ext Z H Z' H') {as : List Addr} (h : ∀ b ∈ as, H b = .none) : Ext Z H (addZ Z' H' as) H' :=
  ⟨a.hh, a.zz.trans (addZ_same a.zh as), addZ_H a.zh as, fun b o e => by
    by_cases hb : b ∈ as
    · exact .inr (h b hb)
    · rw [addZ_out hb] at e; exact a.new _ _ e⟩
/-- lists aside, what is read stands in the larger heap -/
theorem Rep.data {d : D} {v : V} (h : Rep W Z d v) (x : D) (e : d = x) : Rep W Z x v := e ▸ h
end

/-! ### slots -/
/-- the slots hold these data -/
def EnvOk (W : Wo) (Z : Hp) (σ : L2.St) (Δ : List (Option D)) : Prop := Δ.length ≤ σ.length ∧ ∀ (i : Nat) (d : D), Δ[i]? = some (some d) → ∃ v, σ[i]? = some (some v) ∧ Rep W Z d v
theorem EnvOk.mono {W : Wo} {Z Z' : Hp} {σ : L2.St} {Δ : List (Option D)} (e : Same Z Z') (h : EnvOk W Z σ Δ) : EnvOk W Z' σ Δ := ⟨h.1, fun i d q => by
  obtain ⟨v, h1, h2⟩ := h.2 i d q
  exact ⟨v, h1, h2.mono e⟩⟩
theorem EnvOk.set {W : Wo} {Z : Hp} {σ : L2.St} {Δ : List (Option D)} (h : EnvOk W Z σ Δ) (i : Nat) {d : D} {v : V} (r : Rep W Z d v) : EnvOk W Z (σ.set i (some v)) (Δ.set i (some d)) := by
  refine ⟨by rw [List.length_set, List.length_set]; exact h.1, fun j e q => ?_⟩
  rw [List.getElem?_set] at q
  rw [List.getElem?_set]
  split at q
  · rename_i hj
    subst hj
    split at q
    · rename_i hl
      injection q with q
      injection q with q
      subst q
      rw [if_pos rfl, if_pos (Nat.lt_of_lt_of_le hl h.1)]
      exact ⟨v, rfl, r⟩
    · cases q
  · rename_i hj
    rw [if_neg hj]
    exact h.2 j e q
theorem EnvOk.drop {W : Wo} {Z : Hp} {σ : L2.St} {Δ : List (Option D)} (h : EnvOk W Z σ Δ) (i : Nat) (x : Option V) : EnvOk W Z (σ.set i x) (Δ.set i none) := by
  refine ⟨by rw [List.length_set, List.length_set]; exact h.1, fun j e q => ?_⟩
  rw [List.getElem?_set] at q
  rw [List.getElem?_set]
  split at q
  · split at q
    · cases q
    · cases q
  · rename_i hj
    rw [if_neg hj]
    exact h.2 j e q
theorem EnvOk.wipe {W : Wo} {Z : Hp} {σ : L2.St} {Δ : List (Option D)} (h : EnvOk W Z σ Δ) : ∀ vs : List Nat, EnvOk W Z (L2.wipe σ vs) (R.wipe Δ vs)
  | [] => h
  | v :: vs => (EnvOk.wipe h vs).drop v none
theorem wipe_get {σ : L2.St} {j : Nat} : ∀ vs : List Nat, (L2.wipe σ vs)[j]? = if j ∈ vs then (σ[j]?).map fun _ => none else σ[j]?
  | [] => by simp [L2.wipe]
  | v :: vs => by
    show ((L2.wipe σ vs).set v none)[j]? = _
    rw [List.getElem?_set, L2.wipe_length, wipe_get vs]
    by_cases hv : v = j
    · subst hv
      rw [if_pos rfl, if_pos List.mem_cons_self]
      split
      · rename_i hl
        rw [List.getElem?_eq_getElem hl]
        rfl
      · rename_i hl
        rw [List.getElem?_eq_none (Nat.le_of_not_lt hl)]
        rfl
    · rw [if_neg hv]
      by_cases hj : j ∈ vs
      · rw [if_pos hj, if_pos (List.mem_cons_of_mem _ hj)]
      · rw [if_neg hj, if_neg (by simp only [List.mem_cons, not_or]; exact ⟨fun e => hv e.symm, hj⟩)]
theorem wipe_set {σ : L2.St} {i : Nat} {x : Option V} {vs : List Nat} (h : i ∈ vs) : L2.wipe (σ.set i x) vs = L2.wipe σ vs := by
  apply List.ext_getElem?
  intro j
  rw [wipe_get, wipe_get, List.getElem?_set]
  by_cases hi : i = j
  · subst hi
    rw [if_pos h, if_pos h, if_pos rfl]
    split
    · rename_i hl
      rw [List.getElem?_eq_getElem hl]
      rfl
    · rename_i hl
      rw [List.getElem?_eq_none (Nat.le_of_not_lt hl)]
  · rw [if_neg hi]
theorem wipe_wipe {σ : L2.St} {vs : List Nat} : ∀ {us : List Nat}, (∀ u ∈ us, u ∈ vs) → L2.wipe (L2.wipe σ us) vs = L2.wipe σ vs
  | [], _ => rfl
  | u :: us, h => by
    show L2.wipe ((L2.wipe σ us).set u none) vs = _
    rw [wipe_set (h u List.mem_cons_self)]
    exact wipe_wipe fun x hx => h x (List.mem_cons_of_mem _ hx)
end R
end

section
set_option Elab.async false
set_option linter.all false
set_option maxRecDepth 100000
set_option maxHeartbeats 2000000
/-! R3: rules beside the layer's own: sums of tuples, x is True of any x, what a loop walks. -/
namespace R3
open PySem PySem.Spec PyProof.Rows L2

section
variable {prog : Program} {w : World} {A : Around} {E : Value → Shared → Prop} {s : Shared} {l : Addr} {xs : Array (Int × Tok)} {its : List Value} {ns : List Int} {Q : Value → Shared → Prop}
theorem iter_tup (hl : s.heap.IsTuple l (intItems xs))
    (h : ∀ s₂ : Shared, s₂ = { s with heap := s.heap.push { cls := .type "tuple_iterator", data := .fields #[.ref l, .int 0 0] } } →
      (s₂.heap.IsTupleIter s.heap.objs.size l 0 ∧ s₂.heap.IsTuple l (intItems xs)) → (∀ b ∈ [s.heap.objs.size, l], b < s₂.heap.objs.size) → l ≠ s.heap.objs.size → Q (.ref s.heap.objs.size) s₂) :
    wpAny (model prog w) A (pyIter (.ref l)) Q E s := by
  have hlt : l < s.heap.objs.size := by obtain ⟨_, e, _⟩ := hl; exact Heap.lt_size e
  have hl2 : (s.heap.push { cls := .type "tuple_iterator", data := .fields #[.ref l, .int 0 0] }).IsTuple l (intItems xs) := by
    obtain ⟨o, e, r⟩ := hl
    exact ⟨o, Heap.get?_push_of_some _ e, r⟩
  refine wpAny_pyIter_tuple hl (h _ rfl ⟨⟨_, Heap.get?_push_size _ rfl, rfl, rfl⟩, hl2⟩ (fun b hb => ?_) (Nat.ne_of_lt hlt))
  show b < (s.heap.push _).objs.size
  rw [Heap.size_push]
  rcases List.mem_cons.mp hb with rfl | hb
  · exact Nat.lt_succ_self _
  · rcases List.mem_cons.mp hb with rfl | hb
    · exact Nat.lt_succ_of_lt hlt
    · cases hb
theorem old_kept {h' : Heap} (hk : ∀ b o, b ∉ [s.heap.objs.size] → (s.heap.push { cls := .type "tuple_iterator", data := .fields #[.ref l, .int 0 0] }).get? b = some o → h'.get? b = some o) :
    ∀ b o, s.heap.get? b = some o → h'.get? b = some o := fun b o e => by
  refine hk b o (fun hm => ?_) (Heap.get?_push_of_some _ e)
  rcases List.mem_cons.mp hm with e1 | hm
  · exact absurd (e1 ▸ Heap.lt_size e) (Nat.lt_irrefl _)
  · cases hm
theorem sum_tup (hh : A.handled = none) (hl : s.heap.IsTuple l (intItems xs))
    (h : ∀ h' tk t', (∀ b o, s.heap.get? b = some o → h'.get? b = some o) → Q (.int (preSum (numAt xs) xs.size) t') { s with heap := h', toks := tk }) :
    wpAny (model prog w) A (call (.builtin "sum") [.ref l]) Q E s := by
  refine call_sum_walkG (iter_tup hl fun s₂ e st hfp hlI => ?_)
  subst e
  refine ⟨_, _, _, _, _, _, numAt xs, rfl, Walks.tuple (A := A.in1) hh _ l hlI (intItems xs), st, hfp, (fun _ _ => intItems_at), fun h' tk t' hk => ?_⟩
  have := h h' tk t' (old_kept hk)
  simpa [intItems] using this
theorem max_tup (hh : A.handled = none) (hl : s.heap.IsTuple l (intItems xs)) (hne : 0 < xs.size)
    (h : ∀ v h' tk, (intItems xs)[argBest (fun i j => decide (numAt xs i > numAt xs j)) (xs.size - 1)]? = some v → (∀ b o, s.heap.get? b = some o → h'.get? b = some o) → Q v { s with heap := h', toks := tk }) :
    wpAny (model prog w) A (call (.builtin "max") [.ref l]) Q E s := by
  refine call_max_walk (iter_tup hl fun s₂ e st hfp hlI => ?_)
  subst e
  refine ⟨_, _, _, _, _, _, _, rfl, Walks.tuple (A := A.in1) hh _ l hlI (intItems xs), st, hfp, by simpa [intItems] using hne, CmpOf.ints_gt (numAt xs) (fun _ _ => intItems_at), fun v h' tk hP hk => ?_⟩
  exact h v h' tk (by simpa [intItems] using hP) (old_kept hk)
theorem min_tup (hh : A.handled = none) (hl : s.heap.IsTuple l (intItems xs)) (hne : 0 < xs.size)
    (h : ∀ v h' tk, (intItems xs)[argBest (fun i j => decide (numAt xs i < numAt xs j)) (xs.size - 1)]? = some v → (∀ b o, s.heap.get? b = some o → h'.get? b = some o) → Q v { s with heap := h', toks := tk }) :
    wpAny (model prog w) A (call (.builtin "min") [.ref l]) Q E s := by
  refine call_min_walk (iter_tup hl fun s₂ e st hfp hlI => ?_)
  subst e
  refine ⟨_, _, _, _, _, _, _, rfl, Walks.tuple (A := A.in1) hh _ l hlI (intItems xs), st, hfp, by simpa [intItems] using hne, CmpOf.ints_lt (numAt xs) (fun _ _ => intItems_at), fun v h' tk hP hk => ?_⟩
  exact h v h' tk (by simpa [intItems] using hP) (old_kept hk)
theorem sumT_raw (hh : A.handled = none) (hl : s.heap.IsTuple l its.toArray) (hi : IntsAre its ns)
    (h : ∀ h' tk t', (∀ b o, s.heap.get? b = some o → h'.get? b = some o) → Q (.int ns.sum t') { s with heap := h', toks := tk }) : wpAny (model prog w) A (call (.builtin "sum") [.ref l]) Q E s := by
  obtain ⟨xs, e⟩ := hi.allInts.items
  have hn : numsOf (intItems xs).toList = ns := by rw [← e]; exact hi.numsOf
  rw [nums_intItems] at hn
  rw [e] at hl
  refine sum_tup hh hl fun h' tk t' hk => ?_
  have := h h' tk t' hk
  rw [preSum_eq, List.take_of_length_le (by simp), hn]; exact this
theorem maxT_raw (hh : A.handled = none) (hl : s.heap.IsTuple l its.toArray) (hi : IntsAre its ns) (hne : 0 < ns.length)
    (h : ∀ h' tk M t', (∀ b o, s.heap.get? b = some o → h'.get? b = some o) → M ∈ ns → (∀ a, a ∈ ns → a ≤ M) → Q (.int M t') { s with heap := h', toks := tk }) : wpAny (model prog w) A (call (.builtin "max") [.ref l]) Q E s := by
  obtain ⟨xs, e⟩ := hi.allInts.items
  have hn : numsOf (intItems xs).toList = ns := by rw [← e]; exact hi.numsOf
  rw [nums_intItems] at hn
  subst hn
  rw [e] at hl
  have hsz : 0 < xs.size := by simpa using hne
  refine max_tup hh hl hsz fun v h' tk hv hk => ?_
  obtain ⟨t, rfl⟩ := intItems_at hv
  obtain ⟨h1, h2⟩ := argBest_gt (numAt xs) (xs.size - 1)
  refine h h' tk _ t hk ?_ fun a ha => ?_
  · rw [numAt_eq]; exact PySem.getD_mem (by rw [List.length_map, Array.length_toList]; omega)
  · obtain ⟨j, hj, rfl⟩ := mem_getD ha
    rw [List.length_map, Array.length_toList] at hj
    rw [← numAt_eq]; exact h2 j (by omega)
theorem minT_raw (hh : A.handled = none) (hl : s.heap.IsTuple l its.toArray) (hi : IntsAre its ns) (hne : 0 < ns.length)
    (h : ∀ h' tk M t', (∀ b o, s.heap.get? b = some o → h'.get? b = some o) → M ∈ ns → (∀ a, a ∈ ns → M ≤ a) → Q (.int M t') { s with heap := h', toks := tk }) : wpAny (model prog w) A (call (.builtin "min") [.ref l]) Q E s := by
  obtain ⟨xs, e⟩ := hi.allInts.items
  have hn : numsOf (intItems xs).toList = ns := by rw [← e]; exact hi.numsOf
  rw [nums_intItems] at hn
  subst hn
  rw [e] at hl
  have hsz : 0 < xs.size := by simpa using hne
  refine min_tup hh hl hsz fun v h' tk hv hk => ?_
  obtain ⟨t, rfl⟩ := intItems_at hv
  obtain ⟨h1, h2⟩ := argBest_lt (numAt xs) (xs.size - 1)
  refine h h' tk _ t hk ?_ fun a ha => ?_
  · rw [numAt_eq]; exact PySem.getD_mem (by rw [List.length_map, Array.length_toList]; omega)
  · obtain ⟨j, hj, rfl⟩ := mem_getD ha
    rw [List.length_map, Array.length_toList] at hj
    rw [← numAt_eq]; exact h2 j (by omega)
end

section
variable {X : Cx}
/-- a list or a tuple of ints -/
def SqI (K : PySem.W.Frag) (H : Hp) (a : Addr) (ns : List Int) : Prop := SqL K H a (ns.map V.int) ∨ SqT K H a (ns.map V.int)
def rSumA (K : PySem.W.Frag) : List V → Hp → VK → Prop := fun vs H Q => ∃ (a : Addr) (ns : List Int), vs = [V.ref a] ∧ SqI K H a ns ∧ Q (.int ns.sum) H
def rMaxA (K : PySem.W.Frag) : List V → Hp → VK → Prop := fun vs H Q => ∃ (a : Addr) (ns : List Int), vs = [V.ref a] ∧ SqI K H a ns ∧ 0 < ns.length ∧ ∀ m, m ∈ ns → (∀ y, y ∈ ns → y ≤ m) → Q (.int m) H
def rMinA (K : PySem.W.Frag) : List V → Hp → VK → Prop := fun vs H Q => ∃ (a : Addr) (ns : List Int), vs = [V.ref a] ∧ SqI K H a ns ∧ 0 < ns.length ∧ ∀ m, m ∈ ns → (∀ y, y ∈ ns → m ≤ y) → Q (.int m) H
theorem cr_sumA (hc : X.calm = true) : CallR X (.builtin "sum") (rSumA X.K) := by
  intro pins s σ H vs us Q I r h
  obtain ⟨a, ns, rfl, hs, q⟩ := h
  rw [Vals.ref1 r]
  rcases hs with hs | hs
  · obtain ⟨its, rv, hl, _⟩ := I.list hs
    exact sum_raw (I.ok.hd hc) hl.isList rv.ints fun h' tk t' hk => ⟨.int _, H, I.kept hk, ⟨_, rfl⟩, q⟩
  · obtain ⟨its, rv, hl, _⟩ := I.tuple hs
    exact sumT_raw (I.ok.hd hc) (show s.heap.IsTuple a its.toArray from hl) rv.ints fun h' tk t' hk => ⟨.int _, H, I.kept hk, ⟨_, rfl⟩, q⟩
theorem cr_maxA (hc : X.calm = true) : CallR X (.builtin "max") (rMaxA X.K) := by
  intro pins s σ H vs us Q I r h
  obtain ⟨a, ns, rfl, hs, hne, q⟩ := h
  rw [Vals.ref1 r]
  rcases hs with hs | hs
  · obtain ⟨its, rv, hl, _⟩ := I.list hs
    exact max_raw (I.ok.hd hc) hl.isList rv.ints hne fun h' tk m t' hk h1 h2 => ⟨.int _, H, I.kept hk, ⟨_, rfl⟩, q m h1 h2⟩
  · obtain ⟨its, rv, hl, _⟩ := I.tuple hs
    exact maxT_raw (I.ok.hd hc) (show s.heap.IsTuple a its.toArray from hl) rv.ints hne fun h' tk m t' hk h1 h2 => ⟨.int _, H, I.kept hk, ⟨_, rfl⟩, q m h1 h2⟩
theorem cr_minA (hc : X.calm = true) : CallR X (.builtin "min") (rMinA X.K) := by
  intro pins s σ H vs us Q I r h
  obtain ⟨a, ns, rfl, hs, hne, q⟩ := h
  rw [Vals.ref1 r]
  rcases hs with hs | hs
  · obtain ⟨its, rv, hl, _⟩ := I.list hs
    exact min_raw (I.ok.hd hc) hl.isList rv.ints hne fun h' tk m t' hk h1 h2 => ⟨.int _, H, I.kept hk, ⟨_, rfl⟩, q m h1 h2⟩
  · obtain ⟨its, rv, hl, _⟩ := I.tuple hs
    exact minT_raw (I.ok.hd hc) (show s.heap.IsTuple a its.toArray from hl) rv.ints hne fun h' tk m t' hk h1 h2 => ⟨.int _, H, I.kept hk, ⟨_, rfl⟩, q m h1 h2⟩

/-! ### x is True, x is False, of any x -/
theorem op_isBg : OpR X (compareOp .Is) (fun x y H Q => ∃ b, y = .bl b ∧ Q (.bl (decide (x = .bl b))) H) := by
  intro pins s σ H x y v u Q I rx ry h
  obtain ⟨b, rfl, q⟩ := h
  cases (show u = Value.bool b from ry)
  cases x with
  | bl a =>
    cases (show v = Value.bool a from rx)
    by_cases e : a = b
    · subst e
      exact wpAny_is_self rfl ⟨.bl true, H, I, rfl, by simpa using q⟩
    · exact wpAny_is_other rfl (fun z => e (Value.bool.inj z)) ⟨.bl false, H, I, rfl, by simpa [e] using q⟩
  | non => cases rx; exact wpAny_is_other rfl (fun z => nomatch z) ⟨.bl false, H, I, rfl, by simpa using q⟩
  | int i => obtain ⟨t, rfl⟩ := rx; exact wpAny_is_other rfl (fun z => nomatch z) ⟨.bl false, H, I, rfl, by simpa using q⟩
  | str i => obtain ⟨t, rfl⟩ := rx; exact wpAny_is_other rfl (fun z => nomatch z) ⟨.bl false, H, I, rfl, by simpa using q⟩
  | byt i => obtain ⟨t, rfl⟩ := rx; exact wpAny_is_other rfl (fun z => nomatch z) ⟨.bl false, H, I, rfl, by simpa using q⟩
  | flt i => obtain ⟨t, rfl⟩ := rx; exact wpAny_is_other rfl (fun z => nomatch z) ⟨.bl false, H, I, rfl, by simpa using q⟩
  | ref a => cases rx; exact wpAny_is_other rfl (fun z => nomatch z) ⟨.bl false, H, I, rfl, by simpa using q⟩
  | ty n => cases rx; exact wpAny_is_other rfl (fun z => nomatch z) ⟨.bl false, H, I, rfl, by simpa using q⟩
theorem op_notBg : OpR X (compareOp .IsNot) (fun x y H Q => ∃ b, y = .bl b ∧ Q (.bl (!decide (x = .bl b))) H) := by
  intro pins s σ H x y v u Q I rx ry h
  obtain ⟨b, rfl, q⟩ := h
  cases (show u = Value.bool b from ry)
  cases x with
  | bl a =>
    cases (show v = Value.bool a from rx)
    by_cases e : a = b
    · subst e
      exact wpAny_isNot_self rfl ⟨.bl false, H, I, rfl, by simpa using q⟩
    · exact wpAny_isNot_other rfl (fun z => e (Value.bool.inj z)) ⟨.bl true, H, I, rfl, by simpa [e] using q⟩
  | non => cases rx; exact wpAny_isNot_other rfl (fun z => nomatch z) ⟨.bl true, H, I, rfl, by simpa using q⟩
  | int i => obtain ⟨t, rfl⟩ := rx; exact wpAny_isNot_other rfl (fun z => nomatch z) ⟨.bl true, H, I, rfl, by simpa using q⟩
  | str i => obtain ⟨t, rfl⟩ := rx; exact wpAny_isNot_other rfl (fun z => nomatch z) ⟨.bl true, H, I, rfl, by simpa using q⟩
  | byt i => obtain ⟨t, rfl⟩ := rx; exact wpAny_isNot_other rfl (fun z => nomatch z) ⟨.bl true, H, I, rfl, by simpa using q⟩
  | flt i => obtain ⟨t, rfl⟩ := rx; exact wpAny_isNot_other rfl (fun z => nomatch z) ⟨.bl true, H, I, rfl, by simpa using q⟩
  | ref a => cases rx; exact wpAny_isNot_other rfl (fun z => nomatch z) ⟨.bl true, H, I, rfl, by simpa using q⟩
  | ty n => cases rx; exact wpAny_isNot_other rfl (fun z => nomatch z) ⟨.bl true, H, I, rfl, by simpa using q⟩

/-! ### what is walked: a list or a tuple -/
def iSeq (K : PySem.W.Frag) (tl : TE) : TI := fun σ H R => tl σ H fun x H1 => ∃ a xs, x = .ref a ∧ ((SqL K H1 a xs ∧ R (Itl K a) H1) ∨ (SqT K H1 a xs ∧ R (Itt K a) H1))
theorem pi_seq {tg l : Expr} {tl : TE} (hl : PE X l tl) : PI X tg l (iSeq X.K tl) := by
  refine ⟨fun pins s σ H R I h => ?_⟩
  refine thn (hl.run pins s σ H _ I h) fun v s1 ⟨x, H1, I1, r1, q1⟩ => ?_
  obtain ⟨a, xs, e, q1⟩ := q1
  subst e
  cases r1
  rcases q1 with ⟨hq, q⟩ | ⟨hq, q⟩
  · obtain ⟨its, rv, p, hz⟩ := I1.list hq
    refine wpAny_pyIter_list p.isList ?_
    refine ⟨s1.heap.objs.size, [s1.heap.objs.size], _, _, H1, rfl, I1.kept (t' := s1.toks) fun b o e => Heap.get?_push_of_some _ e, turn_list a _, ⟨_, Heap.get?_push_size _ rfl, rfl, rfl⟩, fun b hb => ?_, q⟩
    have e : b = s1.heap.objs.size := by simpa using hb
    subst e
    exact I1.fpOk (Nat.le_refl _) (I1.hok.fresh (Nat.le_refl _))
  · obtain ⟨its, rv, p, hz⟩ := I1.tuple hq
    refine wpAny_pyIter_tuple (show s1.heap.IsTuple a its.toArray from p) ?_
    refine ⟨s1.heap.objs.size, [s1.heap.objs.size], _, _, H1, rfl, I1.kept (t' := s1.toks) fun b o e => Heap.get?_push_of_some _ e, turn_tuple a _, ⟨_, Heap.get?_push_size _ rfl, rfl, rfl⟩, fun b hb => ?_, q⟩
    have e : b = s1.heap.objs.size := by simpa using hb
    subst e
    exact I1.fpOk (Nat.le_refl _) (I1.hok.fresh (Nat.le_refl _))
end
end R3
end

section
set_option Elab.async false
set_option linter.all false
set_option maxRecDepth 100000
set_option maxHeartbeats 4000000
/-! R4: the compact form against the text; what an expression yields stands in the heap. -/
namespace R
open PySem PySem.Spec PyProof.Rows L2

/-! ### what is known of a text -/
inductive FnN where
  | glob (x : PySem.Str) (n : Nat) | init (c n : Nat) | meth (c : Nat) (m : PySem.Str) (n : Nat) | prop (c : Nat) (m : PySem.Str)
structure ClsI where
  name : PySem.Str
  flds : List PySem.Str
  dfl : List D := []
structure ExcI where
  name : PySem.Str
  flds : List PySem.Str
structure Th where
  fns : List FnN
  cls : List ClsI
  exs : List ExcI
  gcd : Bool := false

/-! ### what is wanted behind a result -/
def ExcR (W : Wo) (Z H : Hp) (c : Nat) (fs : List D) (dx : Option Addr) : Prop :=
  (W.xf c = [] ∧ fs = [] ∧ dx = none) ∨ ∃ a vs, dx = some a ∧ H a = some (.xd ((W.xf c).zip vs)) ∧ vs.length = (W.xf c).length ∧ RepL W Z fs vs
def PostE {α β : Type} (W : Wo) (Rp : Hp → α → β → Prop) (Z H : Hp) (r : Res α) (Q : β → Hp → Prop) (E : XK) : Prop := match r with
  | .ok d => ∀ v Z' H', Ext Z H Z' H' → Rp Z' d v → Q v H'
  | .ex c fs => ∀ dx Z' H', Ext Z H Z' H' → ExcR W Z' H' c fs dx → E (.ref (W.xA c)) dx H'
  | .bad => False
theorem PostE_bad {α β : Type} {W : Wo} {Rp : Hp → α → β → Prop} {Z H : Hp} {Q : β → Hp → Prop} {E : XK} : PostE W Rp Z H .bad Q E = False := rfl
def PostT (W : Wo) (Z H : Hp) (r : Res T) (Q : VK) (E : XK) : Prop := match r with
  | .ok t => ∀ v Z' H' as, Ext Z H Z' H' → RepT W Z' H' t v as → (∀ b ∈ as, H b = none ∧ Z' b = none) → as.Nodup → Q v H'
  | .ex c fs => ∀ dx Z' H', Ext Z H Z' H' → ExcR W Z' H' c fs dx → E (.ref (W.xA c)) dx H'
  | .bad => False
/-- a def's promise -/
def spF (W : Wo) (Φ : Or) (f n : Nat) : Sp := fun vs H Q E => vs.length = n ∧ ∃ ds Z, Same Z H ∧ RepL W Z ds vs ∧ PostT W Z H (Φ f ds) Q E
/-- an __init__'s promise: x is the new object, Hb the heap without it -/
def spI (W : Wo) (Φ : Or) (f c n : Nat) : Sp := fun vs H Q E => vs.length = n ∧ ∃ x dx Hb us ds Z, vs = .ref x :: us ∧ H = upd (upd Hb dx (.own x)) x (.ins (W.cA c) dx []) ∧ Hb x = none ∧ Hb dx = none ∧ dx ≠ x ∧
  Same Z Hb ∧ RepL W Z ds us ∧ match Φ f ds with
    | .ok t => match t with
      | .sh d => ∀ Z' H', Ext Z Hb Z' H' → Rep W Z' d (.ref x) → Q .non H'
      | _ => False
    | .ex c fs => ∀ dy Z' H', Ext Z Hb Z' H' → ExcR W Z' H' c fs dy → E (.ref (W.xA c)) dy H'
    | .bad => False

def tyOfD (W : Wo) : D → Value
  | .non => .type "NoneType"
  | .bl _ => .type "bool"
  | .int _ => .type "int"
  | .str _ => .type "str"
  | .tup _ => .type "tuple"
  | .lst _ => .type "list"
  | .fz _ => .type "list"
  | .obj c _ => .ref (W.cA c)
def tyVal (W : Wo) : Ty → Value
  | .int => .type "int"
  | .bool => .type "bool"
  | .str => .type "str"
  | .list => .type "list"
  | .tuple => .type "tuple"
  | .cls c => .ref (W.cA c)
def bNames : List PySem.Str := ["len", "abs", "int", "min", "max", "sum", "tuple", "list", "sorted", "range", "isinstance", "zip", "all", "bool", "str"]
structure ClsFacts (W : Wo) (T : Th) (c : Nat) (ci : ClsI) : Prop where
  cl : Cls W.K (W.cA c)
  fl : W.fl c = ci.flds
  nd : ci.flds.Nodup
  na : ∀ f ∈ ci.flds, NoAttr W.K (W.cA c) f
  ha : PySem.W.findIn W.K (.ref (W.cA c)) "__class__" = some (some (.builtin "object.__class__"))
  hm : PySem.W.mroIn W.K (W.cA c) (.type "object") = some true
  isO : ∀ t, (∀ c', t = .cls c' → c' < T.cls.length) → PySem.W.kitOne W.K (.ref (W.cA c)) (tyVal W t) = some (hasTy t (.obj c []))
  isB : ∀ n ∈ ["int", "bool", "str", "list", "tuple", "NoneType"], PySem.W.kitOne W.K (.type n) (.ref (W.cA c)) = some false
/-- a context in which the compact form means what it says -/
structure Good (T : Th) (W : Wo) (Φ : Or) (k : Nat) (N : List PySem.Str) (sc : Scope) (X : Cx) : Prop where
  hN : X.N = N
  nd : List.Nodup N
  hsc : X.env.scope = sc
  calm : X.calm = true
  room : Room k X.A
  hK : X.K = W.K
  blt : ∀ x ∈ bNames, X.mg x = none
  gcd : T.gcd = true → X.mg "gcd" = some (.builtin "math.gcd")
  fn : ∀ f x n, T.fns[f]? = some (.glob x n) → ∃ a fd ps, ps.length = n ∧ X.mg x = some (.ref a) ∧ PySem.W.keepIn W.K (.ref a) = true ∧
    FnOk X.prog X.w W.K X.mg X.base (L2.CX X.prog X.w) k a fd ps (spF W Φ f ps.length) ∧ Binds W.K fd ps []
  nC : W.nC = T.cls.length
  cls : ∀ c ci, T.cls[c]? = some ci → ClsFacts W T c ci
  clsg : ∀ c ci, T.cls[c]? = some ci → X.mg ci.name = some (.ref (W.cA c))
  dc : PySem.W.specialIn W.K (.builtin "object.__class__") "__get__" = some (some (.builtin "getset_descriptor.__get__")) ∧ PySem.W.takesIn W.K (.builtin "object.__class__") = some true
  mkc : ∀ f c n ci, T.fns[f]? = some (.init c n) → T.cls[c]? = some ci → ∃ fI fd ps j, j + 1 ≤ k ∧ ps.length = n ∧ X.mg ci.name = some (.ref (W.cA c)) ∧ Mk W.K (W.cA c) fI ∧
    FnOk X.prog X.w W.K X.mg X.base (L2.CX X.prog X.w) j fI fd ps (spI W Φ f c ps.length) ∧
    (Binds W.K fd ps []) ∧ ∃ ds dvs, Binds W.K fd ps ds ∧ Vals dvs ds ∧ ∀ Z, RepL W Z ci.dfl dvs

section
variable {T : Th} {W : Wo} {Φ : Or} {k : Nat} {N : List PySem.Str} {sc : Scope} {X : Cx}
/-- the block of a comprehension -/
theorem Good.blk (G : Good T W Φ k N sc X) (s : Shared) (H : Hp) (scope : Scope) (C : Addr) (cl : List (PySem.Str × Addr)) (fp : List Addr) :
    Good T W Φ k N (relS scope sc) (X.blk s H scope (compEnvC scope cl C X.env) fp) :=
  ⟨G.hN, G.nd, by rw [← G.hsc]; rfl, G.calm, G.room, G.hK, G.blt, G.gcd, G.fn, G.nC, G.cls, G.clsg, G.dc, G.mkc⟩
theorem _root_.L2.PE.imp {X : Cx} {e : Expr} {t t' : TE} (h : PE X e t) (i : ∀ σ H Q, t' σ H Q → t σ H Q) : PE X e t' := ⟨fun pins s σ H Q I q => h.run pins s σ H Q I (i σ H Q q)⟩
theorem _root_.L2.PT.imp {X : Cx} {e : Expr} {t t' : TT} (h : PT X e t) (i : ∀ σ H Q, t' σ H Q → t σ H Q) : PT X e t' := ⟨fun pins s σ H Q I q => h.run pins s σ H Q I (i σ H Q q)⟩
theorem _root_.L2.PA.imp {X : Cx} {e : List Expr} {t t' : TA} (h : PA X e t) (i : ∀ σ H Q, t' σ H Q → t σ H Q) : PA X e t' := ⟨fun pos pins s σ H Q I q => h.run pos pins s σ H Q I (i σ H Q q)⟩
end

/-! ### readings -/
section
variable (W : Wo) (Φ : Or)
def tE (e : E) (Wx : WX) : TE := fun σ H Q => ∃ Δ Z, EnvOk W Z σ Δ ∧ Same Z H ∧ PostE W (Rep W) Z H (ev Φ e Δ) Q fun c d H' => Wx c d σ H'
def tEs (es : List E) (Wx : WX) : TA := fun σ H Q => ∃ Δ Z, EnvOk W Z σ Δ ∧ Same Z H ∧ PostE W (RepL W) Z H (evs Φ es Δ) Q fun c d H' => Wx c d σ H'
def RepB (_ : Hp) (b : Bool) (c : Bool) : Prop := c = b
def tT (e : E) (Wx : WX) : TT := fun σ H Q => ∃ Δ Z, EnvOk W Z σ Δ ∧ Same Z H ∧ PostE W RepB Z H (tob (ev Φ e Δ)) Q fun c d H' => Wx c d σ H'
def tTs (es : List E) (Wx : WX) : TT := fun σ H Q => ∃ Δ Z, EnvOk W Z σ Δ ∧ Same Z H ∧ PostE W RepB Z H (evc Φ es Δ) Q fun c d H' => Wx c d σ H'
end
section
variable {W : Wo} {Φ : Or} {Wx : WX} {α β γ δ : Type} {Rp : Hp → α → β → Prop} {Rq : Hp → γ → δ → Prop} {Z H Z1 H1 : Hp} {σ : L2.St} {Δ : List (Option D)} {Ek : XK}
theorem PostE.ext {r : Res α} {Q : β → Hp → Prop} (h : PostE W Rp Z H r Q Ek) (x : Ext Z H Z1 H1) : PostE W Rp Z1 H1 r Q Ek := by
  cases r with
  | ok d => exact fun v Z' H' y q => h v Z' H' (x.trans y) q
  | ex c fs => exact fun dx Z' H' y q => h dx Z' H' (x.trans y) q
  | bad => exact h
theorem PostE.imp {r : Res α} {Q Q' : β → Hp → Prop} (h : PostE W Rp Z H r Q Ek) (i : ∀ v H', Q v H' → Q' v H') : PostE W Rp Z H r Q' Ek := by
  cases r with
  | ok d => exact fun v Z' H' y q => i _ _ (h v Z' H' y q)
  | ex c fs => exact h
  | bad => exact h
theorem PostE.bind {r : Res α} {f : α → Res γ} {Q : δ → Hp → Prop} (h : PostE W Rq Z H (r.bind f) Q Ek) : PostE W Rp Z H r (fun v H1 => ∃ d Z1, r = .ok d ∧ Ext Z H Z1 H1 ∧ Rp Z1 d v ∧ PostE W Rq Z1 H1 (f d) Q Ek) Ek := by
  cases r with
  | ok d => exact fun v Z' H' x q => ⟨d, Z', rfl, x, q, h.ext x⟩
  | ex c fs => exact h
  | bad => exact h
theorem PostE.ret {d : α} {v : β} {Q : β → Hp → Prop} (h : PostE W Rp Z H (.ok d) Q Ek) (z : Same Z H) (r : Rp Z d v) : Q v H := h v Z H (Ext.refl z) r
/-- one part first -/
theorem tE_bind {a : E} {f : D → Res γ} {Q : δ → Hp → Prop} (hE : EnvOk W Z σ Δ) (hz : Same Z H) (h : PostE W Rq Z H ((ev Φ a Δ).bind f) Q fun c d H' => Wx c d σ H') :
    tE W Φ a Wx σ H fun v H1 => ∃ d Z1, Ext Z H Z1 H1 ∧ Rep W Z1 d v ∧ PostE W Rq Z1 H1 (f d) Q fun c d H' => Wx c d σ H' :=
  ⟨Δ, Z, hE, hz, (PostE.bind (Rp := Rep W) h).imp fun v H1 ⟨d, Z1, _, x, r, q⟩ => ⟨d, Z1, x, r, q⟩⟩
theorem tEs_bind {a : List E} {f : List D → Res γ} {Q : δ → Hp → Prop} (hE : EnvOk W Z σ Δ) (hz : Same Z H) (h : PostE W Rq Z H ((evs Φ a Δ).bind f) Q fun c d H' => Wx c d σ H') :
    tEs W Φ a Wx σ H fun v H1 => ∃ d Z1, Ext Z H Z1 H1 ∧ RepL W Z1 d v ∧ PostE W Rq Z1 H1 (f d) Q fun c d H' => Wx c d σ H' :=
  ⟨Δ, Z, hE, hz, (PostE.bind (Rp := RepL W) h).imp fun v H1 ⟨d, Z1, _, x, r, q⟩ => ⟨d, Z1, x, r, q⟩⟩
theorem tT_bind {a : E} {f : Bool → Res γ} {Q : δ → Hp → Prop} (hE : EnvOk W Z σ Δ) (hz : Same Z H) (h : PostE W Rq Z H ((tob (ev Φ a Δ)).bind f) Q fun c d H' => Wx c d σ H') :
    tT W Φ a Wx σ H fun v H1 => ∃ Z1, Ext Z H Z1 H1 ∧ PostE W Rq Z1 H1 (f v) Q fun c d H' => Wx c d σ H' :=
  ⟨Δ, Z, hE, hz, (PostE.bind (Rp := RepB) h).imp fun v H1 ⟨d, Z1, _, x, r, q⟩ => ⟨Z1, x, by rw [show v = d from r]; exact q⟩⟩
end
end R
end

section
set_option Elab.async false
set_option linter.all false
set_option maxRecDepth 100000
set_option maxHeartbeats 4000000
/-! R5: the compact form of an expression, checked against the text. -/
namespace R
open PySem PySem.Spec PyProof.Rows L2

def visB (sc : Scope) (x : PySem.Str) : Bool := match sc.names.lookup x with
  | some .local => true
  | some .cell => true
  | some .free => true
  | _ => false
def locB (sc : Scope) (x : PySem.Str) : Bool := match sc.names.lookup x with
  | some .local => true
  | some .cell => true
  | _ => false
def lclB (sc : Scope) (x : PySem.Str) : Bool := match sc.names.lookup x with
  | some .local => true
  | _ => false
def celB (sc : Scope) (x : PySem.Str) : Bool := match sc.names.lookup x with
  | some .cell => true
  | _ => false
def glB (sc : Scope) (x : PySem.Str) : Bool := match sc.names.lookup x with
  | some .globalImplicit => true
  | _ => false
def plainNm (x : PySem.Str) : Bool := !(x == ("__debug__" : PySem.Str)) && !(x == ("__classdict__" : PySem.Str))
def nst : Expr → Bool
  | .Starred _ _ => false
  | _ => true
def nsup : Expr → Bool
  | .Call (.Name _ _) [] [] _ => false
  | _ => true
def nsl : Expr → Bool
  | .Slice _ _ _ _ => false
  | _ => true
def nset : Expr → Bool
  | .Set _ _ _ => false
  | _ => true
def binO : O2 → Operator → Bool
  | .add, .Add => true | .sub, .Sub => true | .mul, .Mult => true | .fdiv, .FloorDiv => true | .mod, .Mod => true | .pow, .Pow => true | .shl, .LShift => true
  | _, _ => false
def cmpO : O2 → CmpOp → Bool
  | .eq, .Eq => true | .ne, .NotEq => true | .lt, .Lt => true | .le, .LtE => true | .gt, .Gt => true | .ge, .GtE => true | .isin, .In => true | .notin, .NotIn => true
  | _, _ => false
def cmp1 : O1 → CmpOp → Const → Bool
  | .isN, .Is, .none => true
  | .notN, .IsNot, .none => true
  | .isB b, .Is, .bool c => b == c
  | .notB b, .IsNot, .bool c => b == c
  | _, _, _ => false
def biNm : Bi → PySem.Str → Nat → Bool
  | .len, x, n => decide (x = "len") && n == 1
  | .abs, x, n => decide (x = "abs") && n == 1
  | .int, x, n => decide (x = "int") && n == 1
  | .min1, x, n => decide (x = "min") && n == 1
  | .max1, x, n => decide (x = "max") && n == 1
  | .min2, x, n => decide (x = "min") && n == 2
  | .max2, x, n => decide (x = "max") && n == 2
  | .sum, x, n => decide (x = "sum") && n == 1
  | .tuple, x, n => decide (x = "tuple") && n == 1
  | .list, x, n => decide (x = "list") && n == 1
  | .sorted, x, n => decide (x = "sorted") && n == 1
  | .all, x, n => decide (x = "all") && n == 1
  | .gcd, x, n => decide (x = "gcd") && n == 2
  | _, _, _ => false
def tyNm (T : Th) : Ty → PySem.Str → Bool
  | .int, x => decide (x = "int")
  | .bool, x => decide (x = "bool")
  | .str, x => decide (x = "str")
  | .list, x => decide (x = "list")
  | .tuple, x => decide (x = "tuple")
  | .cls c, x => match T.cls[c]? with
    | some ci => decide (x = ci.name)
    | none => false
/-- a target's slots: the names and their places -/
def tgB (N : List PySem.Str) (own : List (PySem.Str × Nat)) : Expr → List Nat → Bool
  | .Name x _, [i] => decide (own = [(x, i)]) && decide (N[i]? = some x)
  | .Tuple [.Name x _, .Name y _] _ _, [i, j] => decide (own = [(x, i), (y, j)]) && (decide (N[i]? = some x) && decide (N[j]? = some y))
  | _, _ => false
def ownOf : Expr → List Nat → List (PySem.Str × Nat)
  | .Name x _, [i] => [(x, i)]
  | .Tuple [.Name x _, .Name y _] _ _, [i, j] => [(x, i), (y, j)]
  | _, _ => []
/-- the block's own names may be stored -/
def storeB (scope sc' : Scope) (own : List (PySem.Str × Nat)) : Bool := own.all fun p => lclB sc' p.1 || (celB sc' p.1 && celB scope p.1)

def isNeg : O1 → Bool
  | .neg => true
  | _ => false
def gcdB (T : Th) : Bi → Bool
  | .gcd => T.gcd
  | _ => true
def fnIs (T : Th) (f : Nat) (x : PySem.Str) (m : Nat) : Bool := match T.fns[f]? with
  | some (.glob z n) => decide (z = x) && decide (n = m)
  | _ => false
def emptyTup : D → Bool
  | .tup [] => true
  | _ => false
/-- C(..) of the class c by its __init__ f: no default is used, or all (each of them the empty tuple) -/
def mkIs (T : Th) (f c : Nat) (x : PySem.Str) (df : List D) (m : Nat) : Bool := (match T.fns[f]? with
  | some (.init c' n) => decide (c' = c) && decide (n = m + df.length + 1)
  | _ => false) && (match T.cls[c]? with
  | some ci => decide (ci.name = x) && (df.isEmpty || (df.length == ci.dfl.length && (ci.dfl.all emptyTup && df.all emptyTup)))
  | none => false)
def fldIs (T : Th) (c p : Nat) (f : PySem.Str) : Bool := match T.cls[c]? with
  | some ci => decide (ci.flds[p]? = some f)
  | none => false
/-- may stand as a test -/
def tok : E → Bool
  | .not a => tok a
  | .and a b => tok a && tok b
  | .or a b => tok a && tok b
  | .ite _ _ _ => false
  | _ => true
section
variable (T : Th) (N : List PySem.Str)
mutual
def chkE (sc : Scope) : E → Expr → Bool
  | .var i, ex => match ex with
    | .Name x _ => decide (N[i]? = some x) && (visB sc x && plainNm x)
    | _ => false
  | .non, ex => match ex with
    | .Constant .none _ _ => true
    | _ => false
  | .bl b, ex => match ex with
    | .Constant (.bool c) _ _ => b == c
    | _ => false
  | .int z, ex => match ex with
    | .Constant (.int i) _ _ => decide (z = i)
    | _ => false
  | .str s, ex => match ex with
    | .Constant (.str x) _ _ => decide (s = x)
    | _ => false
  | .tup es, ex => match ex with
    | .Tuple xs _ _ => chkEs sc es xs
    | _ => false
  | .lst es, ex => match ex with
    | .List xs _ => chkEs sc es xs
    | _ => false
  | .op o a b, ex => match ex with
    | .BinOp l p r _ => binO o p && (chkE sc a l && chkE sc b r)
    | .Compare l [p] [r] _ => cmpO o p && (nset r && (chkE sc a l && chkE sc b r))
    | _ => false
  | .un o a, ex => match ex with
    | .UnaryOp .USub x _ => isNeg o && chkE sc a x
    | .Compare l [p] [.Constant c _ _] _ => cmp1 o p c && chkE sc a l
    | _ => false
  | .not a, ex => match ex with
    | .UnaryOp .Not x _ => chkE sc a x
    | _ => false
  | .and a b, ex => match ex with
    | .BoolOp .And (x :: y :: r) p => chkE sc a x && (match r with | [] => chkE sc b y | z :: r' => chkE sc b (.BoolOp .And (y :: z :: r') p))
    | _ => false
  | .or a b, ex => match ex with
    | .BoolOp .Or (x :: y :: r) p => chkE sc a x && (match r with | [] => chkE sc b y | z :: r' => chkE sc b (.BoolOp .Or (y :: z :: r') p))
    | _ => false
  | .ite c a b, ex => match ex with
    | .IfExp t x y _ => tok c && (chkE sc c t && (chkE sc a x && chkE sc b y))
    | _ => false
  | .idx a i, ex => match ex with
    | .Subscript x s _ => nsl s && (chkE sc a x && chkE sc i s)
    | _ => false
  | .slc a l h, ex => match ex with
    | .Subscript x (.Slice (some y) (some z) none _) _ => chkE sc a x && (chkE sc l y && chkE sc h z)
    | _ => false
  | .slo a l, ex => match ex with
    | .Subscript x (.Slice (some y) none none _) _ => chkE sc a x && chkE sc l y
    | _ => false
  | .shi a h, ex => match ex with
    | .Subscript x (.Slice none (some z) none _) _ => chkE sc a x && chkE sc h z
    | _ => false
  | .bi b es, ex => match b with
    | .isinst t => (match ex with
      | .Call (.Name f _) [x, .Name c _] [] _ => decide (f = "isinstance") && (glB sc f && (glB sc c && (tyNm T t c && (plainNm c && chkEs sc es [x]))))
      | _ => false)
    | .listR1 => (match ex with
      | .Call (.Name f _) [.Call (.Name g _) [x] [] _] [] _ => decide (f = "list") && (decide (g = "range") && (glB sc f && (glB sc g && chkEs sc es [x])))
      | _ => false)
    | .listR2 => (match ex with
      | .Call (.Name f _) [.Call (.Name g _) [x, y] [] _] [] _ => decide (f = "list") && (decide (g = "range") && (glB sc f && (glB sc g && chkEs sc es [x, y])))
      | _ => false)
    | b => (match ex with
      | .Call (.Name f _) (x :: xs) [] _ => biNm b f (x :: xs).length && (gcdB T b && (glB sc f && chkEs sc es (x :: xs)))
      | _ => false)
  | .call f es, ex => match ex with
    | .Call (.Name x _) (y :: ys) [] _ => fnIs T f x (y :: ys).length && (glB sc x && (plainNm x && chkEs sc es (y :: ys)))
    | _ => false
  | .mk c f es df, ex => match ex with
    | .Call (.Name x _) (y :: ys) [] _ => mkIs T f c x df (y :: ys).length && (glB sc x && (plainNm x && chkEs sc es (y :: ys)))
    | _ => false
  | .fld a c p, ex => match ex with
    | .Attribute x f _ => fldIs T c p f && (nsup x && chkE sc a x)
    | _ => false
  | .meth _ _ _ _, _ => false
  | .prop _ _ _, _ => false
  | .bits a, ex => match ex with
    | .Call (.Attribute x m p) [] [] q => decide (m = "bit_length") && (p.endLine == q.line && (nsup x && chkE sc a x))
    | _ => false
  | .comp sk tg srcs conds elt, ex => match ex with
    | .ListComp el [⟨t, i, ifs, 0⟩] scope _ => tgB N (ownOf t tg) t tg && (blkC N sc scope (ownOf t tg) && (storeB scope (relS scope sc) (ownOf t tg) &&
      (chkI sc sk tg i srcs && (chkC (relS scope sc) ifs conds && (nset i && chkE (relS scope sc) elt el)))))
    | _ => false
  | .comp2 _ _ _ _ _ _ _ _ _, _ => false
def chkI (sc : Scope) (sk : Sk) (tg : List Nat) (i : Expr) : List E → Bool
  | [] => false
  | [s] => (match sk with
    | .seq => chkE sc s i
    | .r1 => (match i with
      | .Call (.Name f _) [x] [] _ => decide (f = "range") && (glB sc f && (nst x && chkE sc s x))
      | _ => false)
    | _ => false)
  | [a, b] => (match i with
    | .Call (.Name f _) [x, y] [] _ => (match sk with
      | .r2 => decide (f = "range") && (glB sc f && (nst x && (nst y && (chkE sc a x && chkE sc b y))))
      | .zip => (tg.length == 2) && (decide (f = "zip") && (glB sc f && (nst x && (nst y && (chkE sc a x && chkE sc b y)))))
      | _ => false)
    | _ => false)
  | _ :: _ :: _ :: _ => false
def chkC (sc : Scope) (ifs : List Expr) : List E → Bool
  | [] => ifs.isEmpty
  | [c] => (match ifs with
    | [x] => tok c && chkE sc c x
    | _ => false)
  | _ :: _ :: _ => false
def chkEs (sc : Scope) : List E → List Expr → Bool
  | [], xs => xs.isEmpty
  | e :: es, xs => match xs with
    | x :: xs => nst x && (chkE sc e x && chkEs sc es xs)
    | [] => false
end
end
end R
end

section
set_option autoImplicit true
set_option linter.all false
/-! R5eq: printed by eqs.py -/
namespace R
open PySem PySem.Spec PyProof.Rows L2
variable {T : Th} {N : List PySem.Str} {sc : Scope}
theorem chkE_var : chkE T N sc (.var i) ex = match ex with
      | .Name x _ => decide (N[i]? = some x) && (visB sc x && plainNm x)
      | _ => false := rfl
theorem chkE_non : chkE T N sc .non ex = match ex with
      | .Constant .none _ _ => true
      | _ => false := rfl
theorem chkE_bl : chkE T N sc (.bl b) ex = match ex with
      | .Constant (.bool c) _ _ => b == c
      | _ => false := rfl
theorem chkE_int : chkE T N sc (.int z) ex = match ex with
      | .Constant (.int i) _ _ => decide (z = i)
      | _ => false := rfl
theorem chkE_str : chkE T N sc (.str s) ex = match ex with
      | .Constant (.str x) _ _ => decide (s = x)
      | _ => false := rfl
theorem chkE_tup : chkE T N sc (.tup es) ex = match ex with
      | .Tuple xs _ _ => chkEs T N sc es xs
      | _ => false := rfl
theorem chkE_lst : chkE T N sc (.lst es) ex = match ex with
      | .List xs _ => chkEs T N sc es xs
      | _ => false := rfl
theorem chkE_op : chkE T N sc (.op o a b) ex = match ex with
      | .BinOp l p r _ => binO o p && (chkE T N sc a l && chkE T N sc b r)
      | .Compare l [p] [r] _ => cmpO o p && (nset r && (chkE T N sc a l && chkE T N sc b r))
      | _ => false := rfl
theorem chkE_un : chkE T N sc (.un o a) ex = match ex with
      | .UnaryOp .USub x _ => isNeg o && chkE T N sc a x
      | .Compare l [p] [.Constant c _ _] _ => cmp1 o p c && chkE T N sc a l
      | _ => false := rfl
theorem chkE_not : chkE T N sc (.not a) ex = match ex with
      | .UnaryOp .Not x _ => chkE T N sc a x
      | _ => false := rfl
theorem chkE_and : chkE T N sc (.and a b) ex = match ex with
      | .BoolOp .And (x :: y :: r) p => chkE T N sc a x && (match r with | [] => chkE T N sc b y | z :: r' => chkE T N sc b (.BoolOp .And (y :: z :: r') p))
      | _ => false := rfl
theorem chkE_or : chkE T N sc (.or a b) ex = match ex with
      | .BoolOp .Or (x :: y :: r) p => chkE T N sc a x && (match r with | [] => chkE T N sc b y | z :: r' => chkE T N sc b (.BoolOp .Or (y :: z :: r') p))
      | _ => false := rfl
theorem chkE_ite : chkE T N sc (.ite c a b) ex = match ex with
      | .IfExp t x y _ => tok c && (chkE T N sc c t && (chkE T N sc a x && chkE T N sc b y))
      | _ => false := rfl
theorem chkE_idx : chkE T N sc (.idx a i) ex = match ex with
      | .Subscript x s _ => nsl s && (chkE T N sc a x && chkE T N sc i s)
      | _ => false := rfl
theorem chkE_slc : chkE T N sc (.slc a l h) ex = match ex with
      | .Subscript x (.Slice (some y) (some z) none _) _ => chkE T N sc a x && (chkE T N sc l y && chkE T N sc h z)
      | _ => false := rfl
theorem chkE_slo : chkE T N sc (.slo a l) ex = match ex with
      | .Subscript x (.Slice (some y) none none _) _ => chkE T N sc a x && chkE T N sc l y
      | _ => false := rfl
theorem chkE_shi : chkE T N sc (.shi a h) ex = match ex with
      | .Subscript x (.Slice none (some z) none _) _ => chkE T N sc a x && chkE T N sc h z
      | _ => false := rfl
theorem chkE_bi : chkE T N sc (.bi b es) ex = match b with
      | .isinst t => (match ex with
        | .Call (.Name f _) [x, .Name c _] [] _ => decide (f = "isinstance") && (glB sc f && (glB sc c && (tyNm T t c && (plainNm c && chkEs T N sc es [x]))))
        | _ => false)
      | .listR1 => (match ex with
        | .Call (.Name f _) [.Call (.Name g _) [x] [] _] [] _ => decide (f = "list") && (decide (g = "range") && (glB sc f && (glB sc g && chkEs T N sc es [x])))
        | _ => false)
      | .listR2 => (match ex with
        | .Call (.Name f _) [.Call (.Name g _) [x, y] [] _] [] _ => decide (f = "list") && (decide (g = "range") && (glB sc f && (glB sc g && chkEs T N sc es [x, y])))
        | _ => false)
      | b => (match ex with
        | .Call (.Name f _) (x :: xs) [] _ => biNm b f (x :: xs).length && (gcdB T b && (glB sc f && chkEs T N sc es (x :: xs)))
        | _ => false) := rfl
theorem chkE_call : chkE T N sc (.call f es) ex = match ex with
      | .Call (.Name x _) (y :: ys) [] _ => fnIs T f x (y :: ys).length && (glB sc x && (plainNm x && chkEs T N sc es (y :: ys)))
      | _ => false := rfl
theorem chkE_mk : chkE T N sc (.mk c f es df) ex = match ex with
      | .Call (.Name x _) (y :: ys) [] _ => mkIs T f c x df (y :: ys).length && (glB sc x && (plainNm x && chkEs T N sc es (y :: ys)))
      | _ => false := rfl
theorem chkE_fld : chkE T N sc (.fld a c p) ex = match ex with
      | .Attribute x f _ => fldIs T c p f && (nsup x && chkE T N sc a x)
      | _ => false := rfl
theorem chkE_meth : chkE T N sc (.meth u1 u2 u3 u4) u5 = false := rfl
theorem chkE_prop : chkE T N sc (.prop u1 u2 u3) u4 = false := rfl
theorem chkE_bits : chkE T N sc (.bits a) ex = match ex with
      | .Call (.Attribute x m p) [] [] q => decide (m = "bit_length") && (p.endLine == q.line && (nsup x && chkE T N sc a x))
      | _ => false := rfl
theorem chkE_comp : chkE T N sc (.comp sk tg srcs conds elt) ex = match ex with
      | .ListComp el [⟨t, i, ifs, 0⟩] scope _ => tgB N (ownOf t tg) t tg && (blkC N sc scope (ownOf t tg) && (storeB scope (relS scope sc) (ownOf t tg) &&
        (chkI T N sc sk tg i srcs && (chkC T N (relS scope sc) ifs conds && (nset i && chkE T N (relS scope sc) elt el)))))
      | _ => false := rfl
theorem chkE_comp2 : chkE T N sc (.comp2 u1 u2 u3 u4 u5 u6 u7 u8 u9) u10 = false := rfl
theorem chkI_l0 : chkI T N sc sk tg i [] = false := rfl
theorem chkI_l1 : chkI T N sc sk tg i [s] = (match sk with
      | .seq => chkE T N sc s i
      | .r1 => (match i with
        | .Call (.Name f _) [x] [] _ => decide (f = "range") && (glB sc f && (nst x && chkE T N sc s x))
        | _ => false)
      | _ => false) := rfl
theorem chkI_l2 : chkI T N sc sk tg i [a, b] = (match i with
      | .Call (.Name f _) [x, y] [] _ => (match sk with
        | .r2 => decide (f = "range") && (glB sc f && (nst x && (nst y && (chkE T N sc a x && chkE T N sc b y))))
        | .zip => (tg.length == 2) && (decide (f = "zip") && (glB sc f && (nst x && (nst y && (chkE T N sc a x && chkE T N sc b y)))))
        | _ => false)
      | _ => false) := rfl
theorem chkI_cons3 : chkI T N sc sk tg i (u1 :: u2 :: u3 :: u4) = false := rfl
theorem chkC_l0 : chkC T N sc ifs [] = ifs.isEmpty := rfl
theorem chkC_l1 : chkC T N sc ifs [c] = (match ifs with
      | [x] => tok c && chkE T N sc c x
      | _ => false) := rfl
theorem chkC_cons2 : chkC T N sc ifs (u1 :: u2 :: u3) = false := rfl
theorem chkEs_l0 : chkEs T N sc [] xs = xs.isEmpty := rfl
theorem chkEs_cons1 : chkEs T N sc (e :: es) xs = match xs with
      | x :: xs => nst x && (chkE T N sc e x && chkEs T N sc es xs)
      | [] => false := rfl
end R
end

section
set_option Elab.async false
set_option linter.all false
set_option maxRecDepth 100000
set_option maxHeartbeats 4000000
/-! R6: operators on data, met by the layer's rules. -/
namespace R
open PySem PySem.Spec PyProof.Rows L2

section
variable {W : Wo} {Φ : Or} {Z H Z1 H1 : Hp} {Ek : XK} {Q : VK} {ds : List D} {vs : List V} {p : Addr}
theorem post_lst (h : PostE W (Rep W) Z H (.ok (.lst ds)) Q Ek) (z : Same Z H) (r : RepL W Z ds vs) (hp : H p = none) : Q (.ref p) (upd H p (.lst vs)) := by
  have x := (Ext.refl z).laid (o := .lst vs) hp
  refine h (.ref p) _ _ x ?_
  simp only [Rep]
  exact ⟨p, vs, rfl, upd_same, r.mono x.zz⟩
theorem post_tup (h : PostE W (Rep W) Z H (.ok (.tup ds)) Q Ek) (z : Same Z H) (r : RepL W Z ds vs) (hp : H p = none) : Q (.ref p) (upd H p (.tup vs)) := by
  have x := (Ext.refl z).laid (o := .tup vs) hp
  refine h (.ref p) _ _ x ?_
  simp only [Rep]
  exact ⟨p, vs, rfl, .inl (.inl upd_same), r.mono x.zz⟩
theorem post_int {i : Int} (h : PostE W (Rep W) Z H (.ok (.int i)) Q Ek) (z : Same Z H) : Q (.int i) H := h.ret z (by simp only [Rep])
theorem post_bl {b : Bool} (h : PostE W (Rep W) Z H (.ok (.bl b)) Q Ek) (z : Same Z H) : Q (.bl b) H := h.ret z (by simp only [Rep])
end

/-! ### data as the library has it -/
mutual
def toPy : D → PyData
  | .non => .none
  | .bl b => .bool b
  | .int i => .int i
  | .str s => .str s
  | .tup xs => .tuple (toPys xs)
  | .lst xs => .list (toPys xs)
  | .obj _ _ => .none
  | .fz _ => .none
def toPys : List D → List PyData
  | [] => []
  | d :: ds => toPy d :: toPys ds
end
theorem plain_tup {n : Nat} {xs : List D} (h : D.plain n (.tup xs) = true) : ∃ m, n = m + 1 ∧ xs.all (D.plain m) = true := by
  cases n with
  | zero => simp [D.plain] at h
  | succ m => exact ⟨m, rfl, by simpa [D.plain] using h⟩
theorem plain_lst {n : Nat} {xs : List D} (h : D.plain n (.lst xs) = true) : ∃ m, n = m + 1 ∧ xs.all (D.plain m) = true := by
  cases n with
  | zero => simp [D.plain] at h
  | succ m => exact ⟨m, rfl, by simpa [D.plain] using h⟩
mutual
theorem rep_dp {W : Wo} {Z H : Hp} (z : Same Z H) : ∀ (d : D) (n : Nat) (v : V), Rep W Z d v → D.plain n d = true → Dp W.K H v (toPy d)
  | .non, n, v, r, h => by simp only [Rep] at r; rw [r]; simp only [toPy]; exact .non
  | .bl b, n, v, r, h => by simp only [Rep] at r; rw [r]; simp only [toPy]; exact .bl b
  | .int b, n, v, r, h => by simp only [Rep] at r; rw [r]; simp only [toPy]; exact .int b
  | .str b, n, v, r, h => by simp only [Rep] at r; rw [r]; simp only [toPy]; exact .str b
  | .tup xs, n, v, r, h => by
    obtain ⟨m, _, h2⟩ := plain_tup h
    simp only [Rep] at r
    obtain ⟨a, vs, rfl, h3, h4⟩ := r
    simp only [toPy]
    exact .tup (sqT_mono z h3) (rep_dps z xs m vs h4 h2)
  | .lst xs, n, v, r, h => by
    obtain ⟨m, _, h2⟩ := plain_lst h
    simp only [Rep] at r
    obtain ⟨a, vs, rfl, h3, h4⟩ := r
    simp only [toPy]
    exact .lst (SqL.of (z _ _ h3)) (rep_dps z xs m vs h4 h2)
  | .obj _ _, n, v, r, h => by cases n <;> simp [D.plain] at h
  | .fz _, n, v, r, h => by cases n <;> simp [D.plain] at h
theorem rep_dps {W : Wo} {Z H : Hp} (z : Same Z H) : ∀ (ds : List D) (n : Nat) (vs : List V), RepL W Z ds vs → ds.all (D.plain n) = true → DpAll W.K H vs (toPys ds)
  | [], n, vs, r, h => by rw [r.unnil]; simp only [toPys]; exact .nil
  | d :: ds, n, vs, r, h => by
    obtain ⟨v, us, rfl, r1, r2⟩ := r.uncons
    rw [List.all_cons, Bool.and_eq_true] at h
    simp only [toPys]
    exact .cons (rep_dp z d n v r1 h.1) (rep_dps z ds n us r2 h.2)
end
mutual
theorem shaped_py : ∀ (d : D) (n : Nat), D.plain n d = true → (toPy d).canLay0 = true ∧ (toPy d).depth ≤ n
  | .non, n, h => by simp [toPy, PyData.canLay0, PyData.depth]
  | .bl b, n, h => by simp [toPy, PyData.canLay0, PyData.depth]
  | .int b, n, h => by simp [toPy, PyData.canLay0, PyData.depth]
  | .str b, n, h => by
    have : PyData.strOk b = true := by cases n <;> simpa [D.plain] using h
    simp [toPy, PyData.canLay0, PyData.depth, this]
  | .tup xs, n, h => by
    obtain ⟨m, rfl, h2⟩ := plain_tup h
    obtain ⟨a, b⟩ := shaped_pys xs m h2
    simp only [toPy, PyData.canLay0, PyData.depth]
    exact ⟨a, by omega⟩
  | .lst xs, n, h => by
    obtain ⟨m, rfl, h2⟩ := plain_lst h
    obtain ⟨a, b⟩ := shaped_pys xs m h2
    simp only [toPy, PyData.canLay0, PyData.depth]
    exact ⟨a, by omega⟩
  | .obj _ _, n, h => by cases n <;> simp [D.plain] at h
  | .fz _, n, h => by cases n <;> simp [D.plain] at h
theorem shaped_pys : ∀ (ds : List D) (n : Nat), ds.all (D.plain n) = true → PyData.canLayAll0 (toPys ds) = true ∧ PyData.depthAll (toPys ds) ≤ n
  | [], n, h => by simp [toPys, PyData.canLayAll0, PyData.depthAll]
  | d :: ds, n, h => by
    rw [List.all_cons, Bool.and_eq_true] at h
    obtain ⟨a, b⟩ := shaped_py d n h.1
    obtain ⟨a2, b2⟩ := shaped_pys ds n h.2
    simp only [toPys, PyData.canLayAll0, PyData.depthAll, a, a2, Bool.and_self, true_and]
    omega
end
theorem shaped_of {d : D} (h : D.plain 20 d = true) : SeqAt.shaped (toPy d) = true := by
  obtain ⟨a, b⟩ := shaped_py d 20 h
  unfold SeqAt.shaped
  rw [a, decide_eq_true (by omega : (toPy d).depth ≤ 64)]
  rfl
mutual
theorem eqv_py : ∀ (a b : D) (n m : Nat), D.plain n a = true → D.plain m b = true → PyData.eqv (toPy a) (toPy b) = a.eqv b
  | .obj _ _, b, n, m, h, h2 => by cases n <;> simp [D.plain] at h
  | .fz _, b, n, m, h, h2 => by cases n <;> simp [D.plain] at h
  | a, .obj _ _, n, m, h, h2 => by cases m <;> simp [D.plain] at h2
  | a, .fz _, n, m, h, h2 => by cases m <;> simp [D.plain] at h2
  | .tup xs, .tup ys, n, m, h, h2 => by
    obtain ⟨i, rfl, h3⟩ := plain_tup h
    obtain ⟨j, rfl, h4⟩ := plain_tup h2
    simp only [toPy, PyData.eqv, D.eqv]
    exact eqv_pys xs ys i j h3 h4
  | .lst xs, .lst ys, n, m, h, h2 => by
    obtain ⟨i, rfl, h3⟩ := plain_lst h
    obtain ⟨j, rfl, h4⟩ := plain_lst h2
    simp only [toPy, PyData.eqv, D.eqv]
    exact eqv_pys xs ys i j h3 h4
  | .tup _, .lst _, n, m, h, h2 => by simp [toPy, PyData.eqv, D.eqv]
  | .lst _, .tup _, n, m, h, h2 => by simp [toPy, PyData.eqv, D.eqv]
  | .tup _, .non, n, m, h, h2 => by simp [toPy, PyData.eqv, D.eqv]
  | .tup _, .bl _, n, m, h, h2 => by simp [toPy, PyData.eqv, D.eqv]
  | .tup _, .int _, n, m, h, h2 => by simp [toPy, PyData.eqv, D.eqv]
  | .tup _, .str _, n, m, h, h2 => by simp [toPy, PyData.eqv, D.eqv]
  | .lst _, .non, n, m, h, h2 => by simp [toPy, PyData.eqv, D.eqv]
  | .lst _, .bl _, n, m, h, h2 => by simp [toPy, PyData.eqv, D.eqv]
  | .lst _, .int _, n, m, h, h2 => by simp [toPy, PyData.eqv, D.eqv]
  | .lst _, .str _, n, m, h, h2 => by simp [toPy, PyData.eqv, D.eqv]
  | .non, .tup _, n, m, h, h2 => by simp [toPy, PyData.eqv, D.eqv]
  | .bl _, .tup _, n, m, h, h2 => by simp [toPy, PyData.eqv, D.eqv]
  | .int _, .tup _, n, m, h, h2 => by simp [toPy, PyData.eqv, D.eqv]
  | .str _, .tup _, n, m, h, h2 => by simp [toPy, PyData.eqv, D.eqv]
  | .non, .lst _, n, m, h, h2 => by simp [toPy, PyData.eqv, D.eqv]
  | .bl _, .lst _, n, m, h, h2 => by simp [toPy, PyData.eqv, D.eqv]
  | .int _, .lst _, n, m, h, h2 => by simp [toPy, PyData.eqv, D.eqv]
  | .str _, .lst _, n, m, h, h2 => by simp [toPy, PyData.eqv, D.eqv]
  | .non, .non, n, m, h, h2 => by simp [toPy, PyData.eqv, D.eqv]
  | .non, .bl _, n, m, h, h2 => by simp [toPy, PyData.eqv, D.eqv]
  | .non, .int _, n, m, h, h2 => by simp [toPy, PyData.eqv, D.eqv]
  | .non, .str _, n, m, h, h2 => by simp [toPy, PyData.eqv, D.eqv]
  | .bl _, .non, n, m, h, h2 => by simp [toPy, PyData.eqv, D.eqv]
  | .bl _, .bl _, n, m, h, h2 => by simp [toPy, PyData.eqv, D.eqv]
  | .bl _, .int _, n, m, h, h2 => by simp [toPy, PyData.eqv, D.eqv]
  | .bl _, .str _, n, m, h, h2 => by simp [toPy, PyData.eqv, D.eqv]
  | .int _, .non, n, m, h, h2 => by simp [toPy, PyData.eqv, D.eqv]
  | .int _, .bl _, n, m, h, h2 => by simp [toPy, PyData.eqv, D.eqv]
  | .int _, .int _, n, m, h, h2 => by simp [toPy, PyData.eqv, D.eqv]
  | .int _, .str _, n, m, h, h2 => by simp [toPy, PyData.eqv, D.eqv]
  | .str _, .non, n, m, h, h2 => by simp [toPy, PyData.eqv, D.eqv]
  | .str _, .bl _, n, m, h, h2 => by simp [toPy, PyData.eqv, D.eqv]
  | .str _, .int _, n, m, h, h2 => by simp [toPy, PyData.eqv, D.eqv]
  | .str _, .str _, n, m, h, h2 => by simp [toPy, PyData.eqv, D.eqv]
theorem eqv_pys : ∀ (xs ys : List D) (n m : Nat), xs.all (D.plain n) = true → ys.all (D.plain m) = true → PyData.eqvAll (toPys xs) (toPys ys) = D.eqv.eqvs xs ys
  | [], [], n, m, h, h2 => by simp [toPys, PyData.eqvAll, D.eqv.eqvs]
  | [], _ :: _, n, m, h, h2 => by simp [toPys, PyData.eqvAll, D.eqv.eqvs]
  | _ :: _, [], n, m, h, h2 => by simp [toPys, PyData.eqvAll, D.eqv.eqvs]
  | x :: xs, y :: ys, n, m, h, h2 => by
    rw [List.all_cons, Bool.and_eq_true] at h h2
    simp only [toPys, PyData.eqvAll, D.eqv.eqvs]
    rw [eqv_py x y n m h.1 h2.1, eqv_pys xs ys n m h.2 h2.2]
end
/-! flat data -/
theorem flat_rep {W : Wo} {Z : Hp} {d : D} {v : V} (r : Rep W Z d v) (h : d.flat = true) : flatV v = true ∧ ∀ {e : D} {u : V}, Rep W Z e u → e.flat = true → eqV v u = d.eqv e := by
  cases d with
  | non => simp only [Rep] at r; subst r; refine ⟨rfl, fun {e u} r h => ?_⟩; cases e <;> simp only [Rep] at r <;> simp [D.flat] at h <;> subst r <;> simp [eqV, D.eqv]
  | bl b => simp only [Rep] at r; subst r; refine ⟨rfl, fun {e u} r h => ?_⟩; cases e <;> simp only [Rep] at r <;> simp [D.flat] at h <;> subst r <;> simp [eqV, D.eqv]
  | int b => simp only [Rep] at r; subst r; refine ⟨rfl, fun {e u} r h => ?_⟩; cases e <;> simp only [Rep] at r <;> simp [D.flat] at h <;> subst r <;> simp [eqV, D.eqv]
  | str b => simp only [Rep] at r; subst r; refine ⟨rfl, fun {e u} r h => ?_⟩; cases e <;> simp only [Rep] at r <;> simp [D.flat] at h <;> subst r <;> simp [eqV, D.eqv]
  | _ => simp [D.flat] at h
theorem flats_rep {W : Wo} {Z : Hp} {e : D} {u : V} (re : Rep W Z e u) (he : e.flat = true) : ∀ {ds : List D} {vs : List V}, RepL W Z ds vs → ds.all D.flat = true → vs.all flatV = true ∧ inV u vs = ds.any fun x => x.eqv e
  | [], vs, r, h => by rw [r.unnil]; exact ⟨rfl, rfl⟩
  | d :: ds, vs, r, h => by
    obtain ⟨v, us, rfl, r1, r2⟩ := r.uncons
    rw [List.all_cons, Bool.and_eq_true] at h
    obtain ⟨a, b⟩ := flats_rep re he r2 h.2
    obtain ⟨c, f⟩ := flat_rep r1 h.1
    refine ⟨by rw [List.all_cons, c, a]; rfl, ?_⟩
    unfold inV at b ⊢
    rw [List.any_cons, List.any_cons, b, f re he]
end R
end

section
set_option Elab.async false
set_option linter.all false
set_option maxRecDepth 100000
set_option maxHeartbeats 4000000
/-! R7: each operator and built-in, by the layer's rule. -/
namespace R
open PySem PySem.Spec PyProof.Rows L2

/-- a rule r of two values says what f says -/
def Meets2 (W : Wo) (r : R2) (f : D → D → Res D) : Prop := ∀ (x y : D) (vx vy : V) (Z H : Hp) (Q : VK) (Ek : XK), Same Z H → Rep W Z x vx → Rep W Z y vy → PostE W (Rep W) Z H (f x y) Q Ek → r vx vy H Q
section
variable {W : Wo} {X : Cx}
theorem sum_le_line {n : Nat} (h : n ≤ LINE) : n ≤ sizeLine := by rw [LINE_eq] at h; exact h
theorem add_ok (hK : X.K = W.K) : ∃ r, OpR X (binaryOp .Add) r ∧ Meets2 W r (op2 .add) := by
  refine ⟨_, op_add.or (op_cat.or op_catA), fun x y vx vy Z H Q Ek z rx ry h => ?_⟩
  cases x <;> cases y <;> simp only [op2, cmpI] at h <;> try (simp only [PostE_bad] at h; done)
  · simp only [Rep] at rx ry
    exact .inl ⟨_, _, rx, ry, post_int h z⟩
  · rename_i xs ys
    simp only [Rep] at rx ry
    obtain ⟨a, vs, rfl, h1, h2⟩ := rx
    obtain ⟨b, us, rfl, h3, h4⟩ := ry
    split at h
    · rename_i hl
      rw [hK]
      refine .inr (.inr ⟨a, b, vs, us, rfl, rfl, sqT_mono z h1, sqT_mono z h3, by rw [h2.length, h4.length]; exact sum_le_line hl, fun e => ?_, fun e e2 => ?_, fun e e2 p hp => ?_⟩)
      · subst e
        have e0 : xs = [] := List.eq_nil_of_length_eq_zero (by rw [← h2.length]; rfl)
        subst e0
        refine h.ret z ?_
        simp only [Rep, List.nil_append]
        exact ⟨b, us, rfl, h3, h4⟩
      · subst e2
        have e0 : ys = [] := List.eq_nil_of_length_eq_zero (by rw [← h4.length]; rfl)
        subst e0
        refine h.ret z ?_
        simp only [Rep, List.append_nil]
        exact ⟨a, vs, rfl, h1, h2⟩
      · exact post_tup h z (h2.append h4) hp
    · simp only [PostE_bad] at h
  · simp only [Rep] at rx ry
    obtain ⟨a, vs, rfl, h1, h2⟩ := rx
    obtain ⟨b, us, rfl, h3, h4⟩ := ry
    split at h
    · rename_i hl
      exact .inr (.inl ⟨a, b, vs, us, rfl, rfl, z _ _ h1, z _ _ h3, by rw [h2.length, h4.length]; exact sum_le_line hl, fun p hp => post_lst h z (h2.append h4) hp⟩)
    · simp only [PostE_bad] at h
theorem sub_ok : ∃ r, OpR X (binaryOp .Sub) r ∧ Meets2 W r (op2 .sub) := by
  refine ⟨_, op_sub, fun x y vx vy Z H Q Ek z rx ry h => ?_⟩
  cases x <;> cases y <;> simp only [op2, cmpI] at h <;> try (simp only [PostE_bad] at h; done)
  simp only [Rep] at rx ry
  exact ⟨_, _, rx, ry, post_int h z⟩
theorem mul_ok : ∃ r, OpR X (binaryOp .Mult) r ∧ Meets2 W r (op2 .mul) := by
  refine ⟨_, op_mulW.or op_rep, fun x y vx vy Z H Q Ek z rx ry h => ?_⟩
  cases x <;> cases y <;> simp only [op2, cmpI] at h <;> try (simp only [PostE_bad] at h; done)
  · simp only [Rep] at rx ry
    split at h
    · rename_i hl
      exact .inl ⟨_, _, rx, ry, (by simp only [mulOk, decide_eq_true_eq] at hl; exact hl), post_int h z⟩
    · simp only [PostE_bad] at h
  · rename_i xs k
    simp only [Rep] at rx ry
    obtain ⟨a, vs, rfl, h1, h2⟩ := rx
    split at h
    · rename_i hl
      simp only [Bool.and_eq_true, decide_eq_true_eq] at hl
      obtain ⟨l1, l2, l3⟩ := hl
      exact .inr ⟨a, k, vs, rfl, ry, z _ _ h1, l1, l2, by rw [h2.length]; exact sum_le_line l3, fun p hp => post_lst h z (h2.rep _) hp⟩
    · simp only [PostE_bad] at h
theorem fdiv_ok : ∃ r, OpR X (binaryOp .FloorDiv) r ∧ Meets2 W r (op2 .fdiv) := by
  refine ⟨_, op_fdivW, fun x y vx vy Z H Q Ek z rx ry h => ?_⟩
  cases x <;> cases y <;> simp only [op2, cmpI] at h <;> try (simp only [PostE_bad] at h; done)
  simp only [Rep] at rx ry
  split at h
  · rename_i hl
    simp only [divOk, Bool.and_eq_true, decide_eq_true_eq] at hl
    exact ⟨_, _, rx, ry, hl, post_int h z⟩
  · simp only [PostE_bad] at h
theorem mod_ok : ∃ r, OpR X (binaryOp .Mod) r ∧ Meets2 W r (op2 .mod) := by
  refine ⟨_, op_mod, fun x y vx vy Z H Q Ek z rx ry h => ?_⟩
  cases x <;> cases y <;> simp only [op2, cmpI] at h <;> try (simp only [PostE_bad] at h; done)
  simp only [Rep] at rx ry
  split at h
  · rename_i hl
    exact ⟨_, _, rx, ry, of_decide_eq_true hl, post_int h z⟩
  · simp only [PostE_bad] at h
theorem pow_ok : ∃ r, OpR X (binaryOp .Pow) r ∧ Meets2 W r (op2 .pow) := by
  refine ⟨_, op_pow, fun x y vx vy Z H Q Ek z rx ry h => ?_⟩
  cases x <;> cases y <;> simp only [op2, cmpI] at h <;> try (simp only [PostE_bad] at h; done)
  simp only [Rep] at rx ry
  split at h
  · rename_i hl
    simp only [powOk, Bool.and_eq_true, decide_eq_true_eq] at hl
    exact ⟨_, _, rx, ry, hl, post_int h z⟩
  · simp only [PostE_bad] at h
theorem bits_eq (i : Int) : Builtin.Int.intBits i = bitsI i := by
  unfold Builtin.Int.intBits bitsI
  by_cases h : i = 0
  · rw [if_pos (by simpa using h), if_pos h]
  · rw [if_neg (by simpa using h), if_neg h]
theorem shl_okk : ∃ r, OpR X (binaryOp .LShift) r ∧ Meets2 W r (op2 .shl) := by
  refine ⟨_, op_shlW, fun x y vx vy Z H Q Ek z rx ry h => ?_⟩
  cases x <;> cases y <;> simp only [op2, cmpI] at h <;> try (simp only [PostE_bad] at h; done)
  simp only [Rep] at rx ry
  split at h
  · rename_i i j hl
    simp only [shlOk, Bool.and_eq_true, decide_eq_true_eq] at hl
    refine ⟨_, _, rx, ry, ⟨hl.1, ?_⟩, post_int h z⟩
    rw [bits_eq]
    unfold bitsI
    have e : (2 : Int) ^ 27 = 134217728 := by decide
    rw [e]
    split <;> omega
  · simp only [PostE_bad] at h
theorem bin_ok (hK : X.K = W.K) {o : O2} {p : Operator} (h : binO o p = true) : ∃ r, OpR X (binaryOp p) r ∧ Meets2 W r (op2 o) := by
  cases o <;> cases p <;> first | exact absurd h Bool.false_ne_true | skip
  · exact add_ok hK
  · exact sub_ok
  · exact mul_ok
  · exact fdiv_ok
  · exact mod_ok
  · exact pow_ok
  · exact shl_okk

theorem eq_ok (hK : X.K = W.K) (hu : X.A.units + 64 < cLine) : ∃ r, OpR X (compareOp .Eq) r ∧ Meets2 W r (op2 .eq) := by
  refine ⟨_, op_eqD hu, fun x y vx vy Z H Q Ek z rx ry h => ?_⟩
  simp only [op2, eqR] at h
  split at h
  · rename_i hl
    rw [Bool.and_eq_true] at hl
    rw [hK]
    refine ⟨toPy x, toPy y, rep_dp z x 20 vx rx hl.1, rep_dp z y 20 vy ry hl.2, shaped_of hl.1, shaped_of hl.2, ?_⟩
    rw [eqv_py x y 20 20 hl.1 hl.2]
    simpa using post_bl h z
  · simp only [PostE_bad] at h
theorem ne_ok (hK : X.K = W.K) (hu : X.A.units + 64 < cLine) : ∃ r, OpR X (compareOp .NotEq) r ∧ Meets2 W r (op2 .ne) := by
  refine ⟨_, op_neD hu, fun x y vx vy Z H Q Ek z rx ry h => ?_⟩
  simp only [op2, eqR] at h
  split at h
  · rename_i hl
    rw [Bool.and_eq_true] at hl
    rw [hK]
    refine ⟨toPy x, toPy y, rep_dp z x 20 vx rx hl.1, rep_dp z y 20 vy ry hl.2, shaped_of hl.1, shaped_of hl.2, ?_⟩
    rw [eqv_py x y 20 20 hl.1 hl.2]
    simpa using post_bl h z
  · simp only [PostE_bad] at h
theorem lt_ok : ∃ r, OpR X (compareOp .Lt) r ∧ Meets2 W r (op2 .lt) := by
  refine ⟨_, op_lt, fun x y vx vy Z H Q Ek z rx ry h => ?_⟩
  cases x <;> cases y <;> simp only [op2, cmpI] at h <;> try (simp only [PostE_bad] at h; done)
  simp only [Rep] at rx ry
  exact ⟨_, _, rx, ry, post_bl h z⟩
theorem le_ok : ∃ r, OpR X (compareOp .LtE) r ∧ Meets2 W r (op2 .le) := by
  refine ⟨_, op_le, fun x y vx vy Z H Q Ek z rx ry h => ?_⟩
  cases x <;> cases y <;> simp only [op2, cmpI] at h <;> try (simp only [PostE_bad] at h; done)
  simp only [Rep] at rx ry
  exact ⟨_, _, rx, ry, post_bl h z⟩
theorem gt_ok : ∃ r, OpR X (compareOp .Gt) r ∧ Meets2 W r (op2 .gt) := by
  refine ⟨_, op_gt, fun x y vx vy Z H Q Ek z rx ry h => ?_⟩
  cases x <;> cases y <;> simp only [op2, cmpI] at h <;> try (simp only [PostE_bad] at h; done)
  simp only [Rep] at rx ry
  exact ⟨_, _, rx, ry, post_bl h z⟩
theorem ge_ok : ∃ r, OpR X (compareOp .GtE) r ∧ Meets2 W r (op2 .ge) := by
  refine ⟨_, op_ge, fun x y vx vy Z H Q Ek z rx ry h => ?_⟩
  cases x <;> cases y <;> simp only [op2, cmpI] at h <;> try (simp only [PostE_bad] at h; done)
  simp only [Rep] at rx ry
  exact ⟨_, _, rx, ry, post_bl h z⟩
theorem in_read {K : PySem.W.Frag} {Z H : Hp} {x y : D} {vx vy : V} {neg : Bool} {Q : VK} {Ek : XK} (hK : K = W.K) (z : Same Z H) (rx : Rep W Z x vx) (ry : Rep W Z y vy) (h : PostE W (Rep W) Z H (inR x y neg) Q Ek) : rIn K neg vx vy H Q := by
  have go : ∀ {a : Addr} {us : List V} {ys : List D}, (SqL K H a us ∨ SqT K H a us) → RepL W Z ys us → vy = .ref a → PostE W (Rep W) Z H (if (x.flat && ys.all D.flat) = true then .ok (.bl (neg ^^ ys.any fun w => w.eqv x)) else .bad) Q Ek → rIn K neg vx vy H Q := by
    intro a us ys hs r e h
    split at h
    · rename_i hl
      rw [Bool.and_eq_true] at hl
      obtain ⟨f1, f2⟩ := flats_rep rx hl.1 r hl.2
      refine ⟨a, us, e, hs, (flat_rep rx hl.1).1, f1, ?_⟩
      have q := post_bl h z
      rw [f2]
      cases neg
      · simpa using q
      · simpa using q
    · simp only [PostE_bad] at h
  cases y <;> simp only [inR] at h <;> try (simp only [PostE_bad] at h; done)
  · simp only [Rep] at ry
    obtain ⟨b, us, rfl, h3, h4⟩ := ry
    exact go (.inr (by rw [hK]; exact sqT_mono z h3)) h4 rfl h
  · simp only [Rep] at ry
    obtain ⟨b, us, rfl, h3, h4⟩ := ry
    exact go (.inl (SqL.of (z _ _ h3))) h4 rfl h
theorem in_ok (hK : X.K = W.K) : ∃ r, OpR X (compareOp .In) r ∧ Meets2 W r (op2 .isin) :=
  ⟨_, op_in_seq, fun _ _ _ _ _ _ _ _ z rx ry h => in_read hK z rx ry h⟩
theorem notin_ok (hK : X.K = W.K) : ∃ r, OpR X (compareOp .NotIn) r ∧ Meets2 W r (op2 .notin) :=
  ⟨_, op_notIn_seq, fun _ _ _ _ _ _ _ _ z rx ry h => in_read hK z rx ry h⟩
theorem cmp_ok (hK : X.K = W.K) (hu : X.A.units + 64 < cLine) {o : O2} {p : CmpOp} (h : cmpO o p = true) : ∃ r, OpR X (compareOp p) r ∧ Meets2 W r (op2 o) := by
  cases o <;> cases p <;> first | exact absurd h Bool.false_ne_true | skip
  · exact eq_ok hK hu
  · exact ne_ok hK hu
  · exact lt_ok
  · exact le_ok
  · exact gt_ok
  · exact ge_ok
  · exact in_ok hK
  · exact notin_ok hK

/-! ### one value -/
def Meets1 (W : Wo) (r : V → Hp → VK → Prop) (f : D → Res D) : Prop := ∀ (x : D) (vx : V) (Z H : Hp) (Q : VK) (Ek : XK), Same Z H → Rep W Z x vx → PostE W (Rep W) Z H (f x) Q Ek → r vx H Q
theorem neg_ok : ∃ r, UnR X (unaryOp .USub) r ∧ Meets1 W r (op1 .neg) := by
  refine ⟨_, un_neg, fun x vx Z H Q Ek z rx h => ?_⟩
  cases x <;> simp only [op1] at h <;> try (simp only [PostE_bad] at h; done)
  simp only [Rep] at rx
  exact ⟨_, rx, post_int h z⟩
theorem rep_isNon {Z : Hp} {d : D} {v : V} (r : Rep W Z d v) : decide (v = .non) = d.isNon := by
  cases d <;> simp only [Rep] at r
  case non => subst r; rfl
  case bl => subst r; rfl
  case int => subst r; rfl
  case str => subst r; rfl
  case tup => obtain ⟨a, vs, rfl, _⟩ := r; rfl
  case lst => obtain ⟨a, vs, rfl, _⟩ := r; rfl
  case obj => obtain ⟨a, dx, vs, rfl, _⟩ := r; rfl
  case fz => obtain ⟨a, vs, rfl, _⟩ := r; rfl
theorem rep_isBl {Z : Hp} {d : D} {v : V} {b : Bool} (r : Rep W Z d v) : decide (v = .bl b) = d.isBl b := by
  cases d <;> simp only [Rep] at r
  case non => subst r; rfl
  case bl c =>
    subst r
    cases b <;> cases c <;> rfl
  case int => subst r; rfl
  case str => subst r; rfl
  case tup => obtain ⟨a, vs, rfl, _⟩ := r; rfl
  case lst => obtain ⟨a, vs, rfl, _⟩ := r; rfl
  case obj => obtain ⟨a, dx, vs, rfl, _⟩ := r; rfl
  case fz => obtain ⟨a, vs, rfl, _⟩ := r; rfl
/-- the written constant on the right -/
def cV : Const → V
  | .bool b => .bl b
  | _ => .non
theorem cmp1_ok {o : O1} {p : CmpOp} {c : Const} (h : cmp1 o p c = true) : (∀ {j pos}, PE X (.Constant c j pos) (tC (cV c))) ∧ (behindInMarks p (.Constant c 0 ⟨0, 0, 0, 0⟩) = false) ∧ ∃ r, OpR X (compareOp p) r ∧ Meets1 W (fun v H Q => r v (cV c) H Q) (op1 o) := by
  cases o <;> cases p <;> cases c <;> try exact absurd h Bool.false_ne_true
  · exact ⟨pe_non, rfl, _, op_isN, fun x vx Z H Q Ek z rx h => ⟨rfl, by rw [rep_isNon rx]; exact post_bl h z⟩⟩
  · exact ⟨pe_non, rfl, _, op_notN, fun x vx Z H Q Ek z rx h => ⟨rfl, by rw [rep_isNon rx]; exact post_bl h z⟩⟩
  · rename_i b c
    have e : b = c := by simpa [cmp1] using h
    subst e
    exact ⟨pe_bl, rfl, _, R3.op_isBg, fun x vx Z H Q Ek z rx h => ⟨_, rfl, by rw [rep_isBl rx]; exact post_bl h z⟩⟩
  · rename_i b c
    have e : b = c := by simpa [cmp1] using h
    subst e
    exact ⟨pe_bl, rfl, _, R3.op_notBg, fun x vx Z H Q Ek z rx h => ⟨_, rfl, by rw [rep_isBl rx]; exact post_bl h z⟩⟩

/-! ### subscripts -/
theorem atI_rep {Z : Hp} {ds : List D} {vs : List V} {i : Int} {d : D} (r : RepL W Z ds vs) (h : atI ds i = some d) : ∃ v, atI vs i = some v ∧ Rep W Z d v := by
  unfold atI at h ⊢
  rw [r.length]
  cases e : ixN ds.length i with
  | none => rw [e] at h; cases h
  | some j =>
    rw [e] at h
    exact r.get (i := j) h
theorem ix_ok (hK : X.K = W.K) : ∃ r, IxR X r ∧ Meets2 W r ixR := by
  refine ⟨_, ix_list.or ix_tup, fun x y vx vy Z H Q Ek z rx ry h => ?_⟩
  cases y <;> simp only [ixR, D.seq] at h <;> try (simp only [PostE_bad] at h; done)
  rename_i i
  simp only [Rep] at ry
  cases x <;> simp only [ixR, D.seq] at h <;> try (simp only [PostE_bad] at h; done)
  · rename_i ds
    simp only [Rep] at rx
    obtain ⟨a, vs, rfl, h1, h2⟩ := rx
    split at h
    · rename_i d e
      obtain ⟨v, e1, e2⟩ := atI_rep h2 e
      exact .inr ⟨a, vs, i, v, rfl, ry, by rw [hK]; exact sqT_mono z h1, e1, h.ret z e2⟩
    · simp only [PostE_bad] at h
  · rename_i ds
    simp only [Rep] at rx
    obtain ⟨a, vs, rfl, h1, h2⟩ := rx
    split at h
    · rename_i d e
      obtain ⟨v, e1, e2⟩ := atI_rep h2 e
      exact .inl ⟨a, vs, i, v, rfl, ry, SqL.of (z _ _ h1), e1, h.ret z e2⟩
    · simp only [PostE_bad] at h
  · rename_i ds
    simp only [Rep] at rx
    obtain ⟨a, vs, rfl, h1, h2⟩ := rx
    split at h
    · rename_i d e
      obtain ⟨v, e1, e2⟩ := atI_rep h2 e
      exact .inl ⟨a, vs, i, v, rfl, ry, by rw [hK]; exact z.seq h1, e1, h.ret z e2⟩
    · simp only [PostE_bad] at h
theorem sl_ok (hK : X.K = W.K) : ∃ r, SlR X r ∧ ∀ (x : D) (vx : V) (lo hi : Option Int) (Z H : Hp) (Q : VK) (Ek : XK), Same Z H → Rep W Z x vx → PostE W (Rep W) Z H (slR x lo hi) Q Ek → r vx lo hi H Q := by
  refine ⟨_, sl_list.or sl_tupA, fun x vx lo hi Z H Q Ek z rx h => ?_⟩
  cases x <;> simp only [slR] at h <;> try (simp only [PostE_bad] at h; done)
  · rename_i ds
    simp only [Rep] at rx
    obtain ⟨a, vs, rfl, h1, h2⟩ := rx
    have cut := h2.cutV lo hi
    refine .inr ⟨a, vs, rfl, by rw [hK]; exact sqT_mono z h1, fun e => h.ret z ?_, fun e p hp => post_tup h z cut hp⟩
    have e2 : cutD ds lo hi = ds := by
      unfold cutD
      rw [h2.length] at e
      rw [e.1, e.2, List.drop_zero, Nat.sub_zero, List.take_length]
    rw [e2]
    simp only [Rep]
    exact ⟨a, vs, rfl, h1, h2⟩
  · rename_i ds
    simp only [Rep] at rx
    obtain ⟨a, vs, rfl, h1, h2⟩ := rx
    exact .inl ⟨a, vs, rfl, SqL.of (z _ _ h1), fun p hp => post_lst h z (h2.cutV lo hi) hp⟩
end
end R
end

section
set_option Elab.async false
set_option linter.all false
set_option maxRecDepth 100000
set_option maxHeartbeats 4000000
/-! R8: the built-in functions; what loops walk. -/
namespace R
open PySem PySem.Spec PyProof.Rows L2

theorem insI_perm (x : Int) : ∀ l : List Int, (insI x l).Perm (x :: l)
  | [] => List.Perm.refl _
  | y :: ys => by
    unfold insI
    split
    · exact List.Perm.refl _
    · exact (List.Perm.cons y (insI_perm x ys)).trans (List.Perm.swap x y ys)
theorem sortI_perm : ∀ l : List Int, (sortI l).Perm l
  | [] => List.Perm.refl _
  | x :: xs => (insI_perm x (sortI xs)).trans (List.Perm.cons x (sortI_perm xs))
theorem insI_sorted (x : Int) : ∀ {l : List Int}, l.Pairwise (· ≤ ·) → (insI x l).Pairwise (· ≤ ·)
  | [], _ => by simp [insI]
  | y :: ys, h => by
    unfold insI
    obtain ⟨h1, h2⟩ := List.pairwise_cons.mp h
    split
    · rename_i c
      refine List.pairwise_cons.mpr ⟨fun a ha => ?_, h⟩
      rcases List.mem_cons.mp ha with rfl | ha
      · exact c
      · exact Int.le_trans c (h1 a ha)
    · rename_i c
      refine List.pairwise_cons.mpr ⟨fun a ha => ?_, insI_sorted x h2⟩
      rcases List.mem_cons.mp ((insI_perm x ys).mem_iff.mp ha) with rfl | ha
      · omega
      · exact h1 a ha
theorem sortI_sorted : ∀ l : List Int, (sortI l).Pairwise (· ≤ ·)
  | [] => List.Pairwise.nil
  | x :: xs => insI_sorted x (sortI_sorted xs)
theorem sortI_uniq {l l' : List Int} (p : l'.Perm l) (s : l'.Pairwise (· ≤ ·)) : l' = sortI l :=
  List.Perm.eq_of_pairwise (fun a b _ _ h1 h2 => Int.le_antisymm h1 h2) s (sortI_sorted l) (p.trans (sortI_perm l).symm)
theorem maxL_mem : ∀ (x : Int) (l : List Int), maxL (x :: l) ∈ x :: l
  | x, [] => by simp [maxL]
  | x, y :: l => by
    have ih := maxL_mem y l
    simp only [maxL]
    rcases Int.le_total x (maxL (y :: l)) with h | h
    · rw [Int.max_eq_right h]; exact List.mem_cons_of_mem _ ih
    · rw [Int.max_eq_left h]; exact List.mem_cons_self
theorem maxL_le : ∀ (x : Int) (l : List Int), ∀ a ∈ x :: l, a ≤ maxL (x :: l)
  | x, [], a, h => by simp at h; subst h; simp [maxL]
  | x, y :: l, a, h => by
    simp only [maxL]
    rcases List.mem_cons.mp h with rfl | h
    · exact Int.le_max_left _ _
    · exact Int.le_trans (maxL_le y l a h) (Int.le_max_right _ _)
theorem minL_mem : ∀ (x : Int) (l : List Int), minL (x :: l) ∈ x :: l
  | x, [] => by simp [minL]
  | x, y :: l => by
    have ih := minL_mem y l
    simp only [minL]
    rcases Int.le_total x (minL (y :: l)) with h | h
    · rw [Int.min_eq_left h]; exact List.mem_cons_self
    · rw [Int.min_eq_right h]; exact List.mem_cons_of_mem _ ih
theorem minL_le : ∀ (x : Int) (l : List Int), ∀ a ∈ x :: l, minL (x :: l) ≤ a
  | x, [], a, h => by simp at h; subst h; simp [minL]
  | x, y :: l, a, h => by
    simp only [minL]
    rcases List.mem_cons.mp h with rfl | h
    · exact Int.min_le_left _ _
    · exact Int.le_trans (Int.min_le_right _ _) (minL_le y l a h)

def MeetsN (W : Wo) (r : List V → Hp → VK → Prop) (f : List D → Res D) : Prop := ∀ (ds : List D) (vs : List V) (Z H : Hp) (Q : VK) (Ek : XK), Same Z H → RepL W Z ds vs → PostE W (Rep W) Z H (f ds) Q Ek → r vs H Q
theorem RepL.one {W : Wo} {Z : Hp} {d : D} {vs : List V} (h : RepL W Z [d] vs) : ∃ v, vs = [v] ∧ Rep W Z d v := by
  obtain ⟨v, us, rfl, h1, h2⟩ := h.uncons
  rw [h2.unnil]
  exact ⟨v, rfl, h1⟩
theorem RepL.two {W : Wo} {Z : Hp} {d e : D} {vs : List V} (h : RepL W Z [d, e] vs) : ∃ v u, vs = [v, u] ∧ Rep W Z d v ∧ Rep W Z e u := by
  obtain ⟨v, us, rfl, h1, h2⟩ := h.uncons
  obtain ⟨u, rfl, h3⟩ := h2.one
  exact ⟨v, u, rfl, h1, h3⟩
section
variable {W : Wo} {X : Cx}
theorem len_ok (hK : X.K = W.K) : ∃ r, CallR X (.builtin "len") r ∧ MeetsN W r (bi .len) := by
  refine ⟨_, call_len_seq, fun ds vs Z H Q Ek z r h => ?_⟩
  simp only [bi] at h
  split at h
  · obtain ⟨v, rfl, h1⟩ := r.one
    simp only [Rep] at h1
    obtain ⟨a, us, rfl, h2, h3⟩ := h1
    exact ⟨a, us, rfl, .inr (by rw [hK]; exact sqT_mono z h2), by rw [h3.length]; exact post_int h z⟩
  · obtain ⟨v, rfl, h1⟩ := r.one
    simp only [Rep] at h1
    obtain ⟨a, us, rfl, h2, h3⟩ := h1
    exact ⟨a, us, rfl, .inl (SqL.of (z _ _ h2)), by rw [h3.length]; exact post_int h z⟩
  · obtain ⟨v, rfl, h1⟩ := r.one
    simp only [Rep] at h1
    obtain ⟨a, us, rfl, h2, h3⟩ := h1
    exact ⟨a, us, rfl, .inl (by rw [hK]; exact z.seq h2), by rw [h3.length]; exact post_int h z⟩
  · simp only [PostE_bad] at h
theorem abs_ok : ∃ r, CallR X (.builtin "abs") r ∧ MeetsN W r (bi .abs) := by
  refine ⟨_, call_abs, fun ds vs Z H Q Ek z r h => ?_⟩
  simp only [bi] at h
  split at h
  · obtain ⟨v, rfl, h1⟩ := r.one
    simp only [Rep] at h1
    subst h1
    exact ⟨_, rfl, post_int h z⟩
  · simp only [PostE_bad] at h
theorem int_ok : ∃ r, CallR X (.type "int") r ∧ MeetsN W r (bi .int) := by
  refine ⟨_, call_int1, fun ds vs Z H Q Ek z r h => ?_⟩
  simp only [bi] at h
  split at h
  · obtain ⟨v, rfl, h1⟩ := r.one
    simp only [Rep] at h1
    subst h1
    exact .inl ⟨_, rfl, post_int h z⟩
  · obtain ⟨v, rfl, h1⟩ := r.one
    simp only [Rep] at h1
    subst h1
    exact .inr ⟨_, rfl, post_int h z⟩
  · simp only [PostE_bad] at h
theorem max2_ok (hc : X.calm = true) : ∃ r, CallR X (.builtin "max") r ∧ MeetsN W r (bi .max2) := by
  refine ⟨_, call_max2 hc, fun ds vs Z H Q Ek z r h => ?_⟩
  simp only [bi] at h
  split at h
  · rename_i i j
    obtain ⟨v, u, rfl, h1, h2⟩ := r.two
    simp only [Rep] at h1 h2
    subst h1 h2
    refine ⟨_, _, rfl, ?_⟩
    have e : (if j > i then j else i) = max i j := by
      split <;> omega
    rw [e]
    exact post_int h z
  · simp only [PostE_bad] at h
theorem min2_ok (hc : X.calm = true) : ∃ r, CallR X (.builtin "min") r ∧ MeetsN W r (bi .min2) := by
  refine ⟨_, call_min2 hc, fun ds vs Z H Q Ek z r h => ?_⟩
  simp only [bi] at h
  split at h
  · rename_i i j
    obtain ⟨v, u, rfl, h1, h2⟩ := r.two
    simp only [Rep] at h1 h2
    subst h1 h2
    refine ⟨_, _, rfl, ?_⟩
    have e : (if j < i then j else i) = min i j := by
      split <;> omega
    rw [e]
    exact post_int h z
  · simp only [PostE_bad] at h
theorem sqI_of (hK : X.K = W.K) {d : D} {v : V} {Z H : Hp} {ns : List Int} (z : Same Z H) (r : Rep W Z d v) (e : intsOf d = some ns) : ∃ a, v = .ref a ∧ R3.SqI X.K H a ns := by
  cases d <;> simp only [intsOf, D.seq, Option.bind_some, Option.bind_none, reduceCtorEq] at e
  · simp only [Rep] at r
    obtain ⟨a, us, rfl, h2, h3⟩ := r
    have q := h3.ints e
    subst q
    exact ⟨a, rfl, .inr (by rw [hK]; exact sqT_mono z h2)⟩
  · simp only [Rep] at r
    obtain ⟨a, us, rfl, h2, h3⟩ := r
    have q := h3.ints e
    subst q
    exact ⟨a, rfl, .inl (SqL.of (z _ _ h2))⟩
  · simp only [Rep] at r
    obtain ⟨a, us, rfl, h2, h3⟩ := r
    have q := h3.ints e
    subst q
    exact ⟨a, rfl, .inl (by rw [hK]; exact z.seq h2)⟩
theorem sum_ok (hK : X.K = W.K) (hc : X.calm = true) : ∃ r, CallR X (.builtin "sum") r ∧ MeetsN W r (bi .sum) := by
  refine ⟨_, R3.cr_sumA hc, fun ds vs Z H Q Ek z r h => ?_⟩
  simp only [bi] at h
  split at h
  · split at h
    · rename_i e
      obtain ⟨v, rfl, h1⟩ := r.one
      obtain ⟨a, rfl, hs⟩ := sqI_of hK z h1 e
      exact ⟨a, _, rfl, hs, post_int h z⟩
    · simp only [PostE_bad] at h
  · simp only [PostE_bad] at h
theorem max1_ok (hK : X.K = W.K) (hc : X.calm = true) : ∃ r, CallR X (.builtin "max") r ∧ MeetsN W r (bi .max1) := by
  refine ⟨_, R3.cr_maxA hc, fun ds vs Z H Q Ek z r h => ?_⟩
  simp only [bi] at h
  split at h
  · split at h
    · rename_i x xs e
      obtain ⟨v, rfl, h1⟩ := r.one
      obtain ⟨a, rfl, hs⟩ := sqI_of hK z h1 e
      refine ⟨a, _, rfl, hs, Nat.succ_pos _, fun m h1 h2 => ?_⟩
      have e2 : m = maxL (x :: xs) := Int.le_antisymm (maxL_le x xs m h1) (h2 _ (maxL_mem x xs))
      rw [e2]
      exact post_int h z
    · simp only [PostE_bad] at h
  · simp only [PostE_bad] at h
theorem min1_ok (hK : X.K = W.K) (hc : X.calm = true) : ∃ r, CallR X (.builtin "min") r ∧ MeetsN W r (bi .min1) := by
  refine ⟨_, R3.cr_minA hc, fun ds vs Z H Q Ek z r h => ?_⟩
  simp only [bi] at h
  split at h
  · split at h
    · rename_i x xs e
      obtain ⟨v, rfl, h1⟩ := r.one
      obtain ⟨a, rfl, hs⟩ := sqI_of hK z h1 e
      refine ⟨a, _, rfl, hs, Nat.succ_pos _, fun m h1 h2 => ?_⟩
      have e2 : m = minL (x :: xs) := Int.le_antisymm (h2 _ (minL_mem x xs)) (minL_le x xs m h1)
      rw [e2]
      exact post_int h z
    · simp only [PostE_bad] at h
  · simp only [PostE_bad] at h
theorem all_ok (hK : X.K = W.K) (hc : X.calm = true) : ∃ r, CallR X (.builtin "all") r ∧ MeetsN W r (bi .all) := by
  refine ⟨_, cr_all hc, fun ds vs Z H Q Ek z r h => ?_⟩
  simp only [bi] at h
  split at h
  · split at h
    · rename_i e
      obtain ⟨v, rfl, h1⟩ := r.one
      simp only [Rep] at h1
      obtain ⟨a, us, rfl, h2, h3⟩ := h1
      have q := h3.bools e
      subst q
      exact ⟨a, _, rfl, SqL.of (z _ _ h2), post_bl h z⟩
    · simp only [PostE_bad] at h
  · simp only [PostE_bad] at h
theorem tuple_ok (hK : X.K = W.K) : ∃ r, CallR X (.type "tuple") r ∧ MeetsN W r (bi .tuple) := by
  refine ⟨_, call_tuple_of, fun ds vs Z H Q Ek z r h => ?_⟩
  simp only [bi] at h
  split at h
  · obtain ⟨v, rfl, h1⟩ := r.one
    simp only [Rep] at h1
    obtain ⟨a, us, rfl, h2, h3⟩ := h1
    exact ⟨a, us, rfl, .inl ⟨SqL.of (z _ _ h2), fun p hp => post_tup h z h3 hp⟩⟩
  · obtain ⟨v, rfl, h1⟩ := r.one
    have h4 := h1
    simp only [Rep] at h1
    obtain ⟨a, us, rfl, h2, h3⟩ := h1
    exact ⟨a, us, rfl, .inr ⟨by rw [hK]; exact sqT_mono z h2, h.ret z h4⟩⟩
  · simp only [PostE_bad] at h
theorem list_ok (hK : X.K = W.K) : ∃ r, CallR X (.type "list") r ∧ MeetsN W r (bi .list) := by
  refine ⟨_, call_list_of, fun ds vs Z H Q Ek z r h => ?_⟩
  simp only [bi] at h
  split at h
  · obtain ⟨v, rfl, h1⟩ := r.one
    simp only [Rep] at h1
    obtain ⟨a, us, rfl, h2, h3⟩ := h1
    exact ⟨a, us, rfl, .inl (SqL.of (z _ _ h2)), fun p hp => post_lst h z h3 hp⟩
  · obtain ⟨v, rfl, h1⟩ := r.one
    simp only [Rep] at h1
    obtain ⟨a, us, rfl, h2, h3⟩ := h1
    exact ⟨a, us, rfl, .inr (by rw [hK]; exact sqT_mono z h2), fun p hp => post_lst h z h3 hp⟩
  · simp only [PostE_bad] at h
theorem sorted_ok : ∃ r, CallR X (.builtin "sorted") r ∧ MeetsN W r (bi .sorted) := by
  refine ⟨_, cr_sortedI, fun ds vs Z H Q Ek z r h => ?_⟩
  simp only [bi] at h
  split at h
  · split at h
    · rename_i e
      obtain ⟨v, rfl, h1⟩ := r.one
      simp only [Rep] at h1
      obtain ⟨a, us, rfl, h2, h3⟩ := h1
      have q := h3.ints e
      subst q
      refine ⟨a, _, rfl, SqL.of (z _ _ h2), fun ns' p hp hs hn => ?_⟩
      rw [sortI_uniq hp hs]
      exact post_lst h z (RepL.ofInts _) hn
    · simp only [PostE_bad] at h
  · simp only [PostE_bad] at h
theorem gcd_ok : ∃ r, CallR X (.builtin "math.gcd") r ∧ MeetsN W r (bi .gcd) := by
  refine ⟨_, cr_gcd, fun ds vs Z H Q Ek z r h => ?_⟩
  simp only [bi] at h
  split at h
  · obtain ⟨v, u, rfl, h1, h2⟩ := r.two
    simp only [Rep] at h1 h2
    subst h1 h2
    exact ⟨_, _, rfl, post_int h z⟩
  · simp only [PostE_bad] at h

/-! ### isinstance -/
theorem tyX_of {T : Th} (hK : X.K = W.K) (dc : PySem.W.specialIn W.K (.builtin "object.__class__") "__get__" = some (some (.builtin "getset_descriptor.__get__")) ∧ PySem.W.takesIn W.K (.builtin "object.__class__") = some true)
    (hc : ∀ c, c < W.nC → ∃ ci, ClsFacts W T c ci) {d : D} {v : V} {Z H : Hp} (z : Same Z H) (r : Rep W Z d v) : TyX X.K H v (tyOfD W d) := by
  rw [hK]
  cases d <;> simp only [Rep] at r
  case non => subst r; exact .base .non
  case bl => subst r; exact .base (.bl _)
  case int => subst r; exact .base (.int _)
  case str => subst r; exact .base (.str _)
  case tup =>
    obtain ⟨a, us, rfl, h2, h3⟩ := r
    rcases h2 with (h2 | ⟨o, h2⟩) | ⟨o, its, n, h2, h4, _⟩
    · exact .base (.tup (z _ _ h2))
    · exact .fTuple (z _ _ h2)
    · exact .kTuple h2 h4
  case lst => obtain ⟨a, us, rfl, h2, h3⟩ := r; exact .base (.lst (z _ _ h2))
  case obj c ds =>
    obtain ⟨a, dx, us, rfl, h0, h2, h3⟩ := r
    obtain ⟨ci, C⟩ := hc c h0
    exact .base (.ins (z _ _ h2) C.cl C.ha dc.1 dc.2 C.hm)
  case fz =>
    obtain ⟨a, us, rfl, h2, h3⟩ := r
    rcases h2 with (h2 | ⟨o, h2⟩) | ⟨o, its, n, h2, h4, _⟩
    · exact .base (.lst (z _ _ h2))
    · exact .base (.frz (z _ _ h2))
    · exact .kList h2 h4
end
end R
end

section
set_option Elab.async false
set_option linter.all false
set_option maxRecDepth 100000
set_option maxHeartbeats 8000000
/-! R9: an expression that passes the check means what the compact form says. -/
namespace R
open PySem PySem.Spec PyProof.Rows L2

/-! ### small facts of the text -/
theorem starEach_nst {e : Expr} (h : nst e = true) (es : List Expr) (env : Env) : starEach (e :: es) env = (false, eval e env) :: starEach es env := by
  cases e <;> first | rfl | exact absurd h Bool.false_ne_true
theorem any_star {es : List Expr} (h : ∀ e ∈ es, nst e = true) (pos : Pos) (env : Env) : (backTo pos (starEach es env)).any (·.1) = false := by
  induction es with
  | nil => rfl
  | cons e r ih =>
    rw [starEach_nst (h e List.mem_cons_self)]
    show ((backTo pos (starEach r env)).any (·.1)) = false
    exact ih fun x hx => h x (List.mem_cons_of_mem _ hx)
theorem attrBase {e : Expr} (h : nsup e = true) (f : PySem.Str) (env : Env) : attributeBase e f env (eval e env) = eval e env := by
  cases e <;> first | rfl | skip
  rename_i g args kws pos
  cases g <;> first | rfl | skip
  cases args <;> first | rfl | skip
  cases kws <;> first | rfl | exact absurd h Bool.false_ne_true
theorem plainIx {b : Expr} (h : nsl b = true) : PlainIx b := by
  intro o i
  cases b <;> first | rfl | exact absurd h Bool.false_ne_true
theorem noMark {b : Expr} (h : nset b = true) (op : CmpOp) : behindInMarks op b = false := by
  cases b <;> first | rfl | exact absurd h Bool.false_ne_true
theorem noFold {b : Expr} (h : nset b = true) (env : Env) (x : Value) : foldedSetIterable b env x = pure x := by
  cases b <;> first | rfl | exact absurd h Bool.false_ne_true
theorem vis_of {sc : Scope} {x : PySem.Str} (h : visB sc x = true) : Vis sc x := by
  unfold visB at h
  split at h
  · exact .inl (by assumption)
  · exact .inr (.inl (by assumption))
  · exact .inr (.inr (by assumption))
  · exact absurd h Bool.false_ne_true
theorem gl_of {X : Cx} {sc : Scope} {x : PySem.Str} (e : X.env.scope = sc) (h : glB sc x = true) : Gl X x := by
  unfold glB at h
  split at h
  · show X.env.scope.names.lookup x = _
    rw [e]; assumption
  · exact absurd h Bool.false_ne_true
theorem plainNm_of {x : PySem.Str} (h : plainNm x = true) : (x == ("__debug__" : PySem.Str)) = false ∧ (x == ("__classdict__" : PySem.Str)) = false := by
  unfold plainNm at h
  rw [Bool.and_eq_true, Bool.not_eq_true', Bool.not_eq_true'] at h
  exact h
theorem ba {a b : Bool} (h : (a && b) = true) : a = true ∧ b = true := Bool.and_eq_true_iff.mp h
theorem de {p : Prop} [Decidable p] (h : decide p = true) : p := of_decide_eq_true h
theorem tob_bind {γ : Type} (r : Res D) (f : Bool → Res γ) : (tob r).bind f = r.bind fun d => match d with | .bl b => f b | _ => .bad := by
  cases r with
  | ok d => cases d <;> rfl
  | ex c fs => rfl
  | bad => rfl
theorem bnm {x : PySem.Str} (h : x ∈ bNames) : x ≠ "__name__" ∧ (x == ("__debug__" : PySem.Str)) = false := by
  have q : ∀ y ∈ bNames, y ≠ "__name__" ∧ (y == ("__debug__" : PySem.Str)) = false := by decide +kernel
  exact q x h

section
variable {X : Cx} {CX : CXT} {k : Nat} {f C : Addr} {fd : FuncData} {ps : List PySem.Str} {sp : Sp} {dvs : List V} {ds : List Value} {E : L2.St → XK} {x m : PySem.Str} {p pos : Pos} {e : Expr} {es : List Expr} {t : TA}
theorem run_makeS {pins : List (Addr × Obj)} {σ : L2.St} {H : Hp} {s : Shared} {Q : VK} {us : List Value} {vs : List V} (M : Mk X.K C f) (F : FnOk X.prog X.w X.K X.mg X.base CX k f fd ps sp) (hr : Room (k + 1) X.A) (hb : Binds X.K fd ps ds) (hd : Vals dvs ds)
    (hx : PassesAt CX X σ (E σ)) (I : Inv X pins σ H s) (r : Vals vs us)
    (h : ∀ x dx, H x = none → H dx = none → dx ≠ x → sp (.ref x :: (vs ++ dvs)) (upd (upd H dx (.own x)) x (.ins C dx [])) (fun v H2 => v = .non ∧ Q (.ref x) H2) (E σ)) :
    wpAny (model X.prog X.w) X.A (call (.ref C) us) (EP X pins σ Q) X.xe s := by
  have hq := h (s.heap.objs.size + 1) s.heap.objs.size (I.hok.fresh (Nat.le_succ _)) (I.hok.fresh (Nat.le_refl _)) (Nat.ne_of_lt (Nat.lt_succ_self _))
  have I2 := Inv.made (C := C) I
  have r2 : Vals (V.ref (s.heap.objs.size + 1) :: (vs ++ dvs)) (Value.ref (s.heap.objs.size + 1) :: (us ++ ds)) := .cons rfl (r.append hd)
  have hl : (Value.ref (s.heap.objs.size + 1) :: us ++ ds).length = ps.length := by
    have e := r2.length
    rw [F.len _ _ _ _ hq] at e
    exact e.symm
  refine wpAny_call (make_map (f := f) I.kIn M.makes M.init (beq_iff_eq.mp M.fn) (codeAny_mono (F.run _ X.stack _ _ ⟨Value.ref (s.heap.objs.size + 1) :: us, []⟩ (Value.ref (s.heap.objs.size + 1) :: (us ++ ds)) _ _ (E σ) (hr.make C us [])
    (I2.env0.make C us []) (hb _ (Value.ref (s.heap.objs.size + 1) :: us) I2.kIn hl) r2 hq) fun r s' hq' => ?_))
  cases r with
  | error e => exact hx pins _ _ e s' I2 hq'
  | ok fl =>
    cases fl with
    | ret u =>
      obtain ⟨v, H', I3, rv, ev, q3⟩ := I2.after hq'
      subst ev
      exact ⟨rv, ⟨V.ref (s.heap.objs.size + 1), H', I3, rfl, q3⟩⟩
    | next => exact False.elim hq'
    | brk => exact False.elim hq'
    | cont => exact False.elim hq'
def tMakeS (C : Addr) (sp : Sp) (dvs : List V) (E : L2.St → XK) (t : TA) : TE := fun σ H Q => t σ H fun vs H1 => ∀ x dx, H1 x = none → H1 dx = none → dx ≠ x →
  sp (.ref x :: (vs ++ dvs)) (upd (upd H1 dx (.own x)) x (.ins C dx [])) (fun v H2 => v = .non ∧ Q (.ref x) H2) (E σ)
theorem pe_makeS (M : Mk X.K C f) (F : FnOk X.prog X.w X.K X.mg X.base CX k f fd ps sp) (hr : Room (k + 1) X.A) (hg : Gl X x) (hm : X.mg x = some (.ref C)) (hb : Binds X.K fd ps ds) (hd : Vals dvs ds) (hx : ∀ σ, PassesAt CX X σ (E σ))
    (ha : PA X (e :: es) t) (hdb : (x == ("__debug__" : PySem.Str)) = false) (he : starEach (e :: es) X.env = (false, eval e X.env) :: starEach es X.env) (hpl : (backTo pos (starEach es X.env)).any (·.1) = false) :
    PE X (.Call (.Name x p) (e :: es) [] pos) (tMakeS C sp dvs E t) := by
  refine ⟨fun pins s σ H Q I h => ?_⟩
  refine wpAny_Call_Name_kw (ld_glob I hg hm ?_ hdb)
  refine PySem.W.callWith_K (h₀ := X.base) I.ok.mod.kin M.kp (thn (ha.run pos pins s σ H _ I h) fun us s1 ⟨vs, H1, I1, r, q⟩ => ⟨I1.kIn, ?_⟩) he hpl
  exact run_makeS M F hr hb hd (hx σ) I1 r q
end

section
variable {T : Th} {W : Wo} {Φ : Or} {k : Nat} {N : List PySem.Str}
/-- what is shown of an expression -/
def SndE (T : Th) (W : Wo) (Φ : Or) (k : Nat) (N : List PySem.Str) (e : E) : Prop := ∀ {sc : Scope} {ex : Expr} {X : Cx} {Wx : WX}, Good T W Φ k N sc X → Takes X Wx → chkE T N sc e ex = true → PE X ex (tE W Φ e Wx)
def SndT (T : Th) (W : Wo) (Φ : Or) (k : Nat) (N : List PySem.Str) (e : E) : Prop := ∀ {sc : Scope} {ex : Expr} {X : Cx} {Wx : WX}, Good T W Φ k N sc X → Takes X Wx → tok e = true → chkE T N sc e ex = true → PT X ex (tT W Φ e Wx)
def SndW (T : Th) (W : Wo) (Φ : Or) (k : Nat) (N : List PySem.Str) (e : E) : Prop := ∀ {sc : Scope} {o : BoolOp} {xs : List Expr} {p : Pos} {X : Cx} {Wx : WX}, Good T W Φ k N sc X → Takes X Wx → tok e = true → chkE T N sc e (.BoolOp o xs p) = true → PW X (.BoolOp o xs p) (tT W Φ e Wx)
def SndEs (T : Th) (W : Wo) (Φ : Or) (k : Nat) (N : List PySem.Str) (es : List E) : Prop := ∀ {sc : Scope} {xs : List Expr} {X : Cx} {Wx : WX}, Good T W Φ k N sc X → Takes X Wx → chkEs T N sc es xs = true → PA X xs (tEs W Φ es Wx) ∧ ∀ x ∈ xs, nst x = true

/-- a test by its value -/
theorem pt_of {e : E} {ex : Expr} {X : Cx} {Wx : WX} (h : PE X ex (tE W Φ e Wx)) (he : ∀ whole, isTrue ex X.env whole = (do let v ← whole; standAt ex.pos; holding [v] (truthy v))) : PT X ex (tT W Φ e Wx) := by
  refine (pt_val h he).imp fun σ H Q ⟨Δ, Z, hE, hz, q⟩ => ?_
  refine ⟨Δ, Z, hE, hz, ?_⟩
  cases r : ev Φ e Δ with
  | ok d =>
    rw [r] at q
    cases d <;> try exact q.elim
    rename_i b
    intro v Z' H' x rv
    simp only [Rep] at rv
    exact ⟨b, rv, q b Z' H' x rfl⟩
  | ex c fs => rw [r] at q; exact q
  | bad => rw [r] at q; exact q.elim
/-- what is left of a result that must be a test -/
theorem post_tob {r : Res D} {Z H : Hp} {Q : VK} {Ek : XK} (h : PostE W (Rep W) Z H ((tob r).bind fun y => .ok (.bl y)) Q Ek) : PostE W (Rep W) Z H r Q Ek := by
  cases r with
  | ok d => cases d <;> first | exact h | exact h.elim
  | ex c fs => exact h
  | bad => exact h

theorem snd_var (i : Nat) : SndE T W Φ k N (.var i) := by
  intro sc ex X Wx G tk h
  rw [chkE_var] at h
  split at h
  · obtain ⟨h1, h2⟩ := ba h
    obtain ⟨h2, h3⟩ := ba h2
    obtain ⟨h3, h4⟩ := plainNm_of h3
    refine (pe_var (i := i) (by rw [G.hN]; exact de h1) (by rw [G.hsc]; exact vis_of h2) h3 h4).imp fun σ H Q ⟨Δ, Z, hE, hz, q⟩ => ?_
    rw [ev_var] at q
    split at q
    · rename_i d e
      obtain ⟨v, e1, r⟩ := hE.2 i d e
      exact ⟨v, e1, q.ret hz r⟩
    · exact q.elim
  · exact absurd h Bool.false_ne_true
theorem snd_non : SndE T W Φ k N .non := by
  intro sc ex X Wx G tk h
  rw [chkE_non] at h
  split at h
  · exact pe_non.imp fun σ H Q ⟨Δ, Z, hE, hz, q⟩ => PostE.ret (W := W) (Rp := Rep W) (d := D.non) q hz (by simp only [Rep])
  · exact absurd h Bool.false_ne_true
theorem snd_bl (b : Bool) : SndE T W Φ k N (.bl b) := by
  intro sc ex X Wx G tk h
  rw [chkE_bl] at h
  split at h
  · have e := eq_of_beq h
    subst e
    exact pe_bl.imp fun σ H Q ⟨Δ, Z, hE, hz, q⟩ => post_bl q hz
  · exact absurd h Bool.false_ne_true
theorem snd_int (b : Int) : SndE T W Φ k N (.int b) := by
  intro sc ex X Wx G tk h
  rw [chkE_int] at h
  split at h
  · have e := de h
    subst e
    exact pe_int.imp fun σ H Q ⟨Δ, Z, hE, hz, q⟩ => post_int q hz
  · exact absurd h Bool.false_ne_true
theorem snd_str (b : PySem.Str) : SndE T W Φ k N (.str b) := by
  intro sc ex X Wx G tk h
  rw [chkE_str] at h
  split at h
  · have e := de h
    subst e
    exact pe_str.imp fun σ H Q ⟨Δ, Z, hE, hz, q⟩ => PostE.ret (W := W) (Rp := Rep W) (d := D.str b) q hz (by simp only [Rep])
  · exact absurd h Bool.false_ne_true
theorem snd_tup {es : List E} (ih : SndEs T W Φ k N es) : SndE T W Φ k N (.tup es) := by
  intro sc ex X Wx G tk h
  rw [chkE_tup] at h
  split at h
  · refine (pe_tup (ih G tk h).1).imp fun σ H Q ⟨Δ, Z, hE, hz, q⟩ => ?_
    rw [ev_tup] at q
    obtain ⟨Δ', Z', hE', hz', q'⟩ := tEs_bind hE hz q
    refine ⟨Δ', Z', hE', hz', q'.imp fun vs H1 ⟨ds, Z1, x, r, q1⟩ => ?_⟩
    split at q1
    · rename_i hl
      exact ⟨by rw [r.length]; exact sum_le_line hl, fun p hp => post_tup q1 x.zh r hp⟩
    · exact q1.elim
  · exact absurd h Bool.false_ne_true
theorem snd_lst {es : List E} (ih : SndEs T W Φ k N es) : SndE T W Φ k N (.lst es) := by
  intro sc ex X Wx G tk h
  rw [chkE_lst] at h
  split at h
  · refine (pe_lst (ih G tk h).1).imp fun σ H Q ⟨Δ, Z, hE, hz, q⟩ => ?_
    rw [ev_lst] at q
    obtain ⟨Δ', Z', hE', hz', q'⟩ := tEs_bind hE hz q
    refine ⟨Δ', Z', hE', hz', q'.imp fun vs H1 ⟨ds, Z1, x, r, q1⟩ => ?_⟩
    split at q1
    · rename_i hl
      exact ⟨by rw [r.length]; exact sum_le_line hl, fun p hp => post_lst q1 x.zh r hp⟩
    · exact q1.elim
  · exact absurd h Bool.false_ne_true
theorem snd_nil : SndEs T W Φ k N [] := by
  intro sc xs X Wx G tk h
  rw [chkEs_l0] at h
  obtain rfl : xs = [] := List.isEmpty_iff.mp h
  exact ⟨pa_nil.imp fun σ H Q ⟨Δ, Z, hE, hz, q⟩ => PostE.ret (W := W) (Rp := RepL W) (d := ([] : List D)) q hz .nil, fun x hx => nomatch hx⟩
theorem snd_cons {e : E} {es : List E} (ih : SndE T W Φ k N e) (ih2 : SndEs T W Φ k N es) : SndEs T W Φ k N (e :: es) := by
  intro sc xs X Wx G tk h
  rw [chkEs_cons1] at h
  split at h
  · obtain ⟨h1, h2⟩ := ba h
    obtain ⟨h2, h3⟩ := ba h2
    obtain ⟨p, n⟩ := ih2 G tk h3
    refine ⟨(pa_cons (ih G tk h2) p (starEach_nst h1 _ _)).imp fun σ H Q ⟨Δ, Z, hE, hz, q⟩ => ?_, fun x hx => ?_⟩
    · rw [evs_cons1] at q
      obtain ⟨Δ', Z', hE', hz', q'⟩ := tE_bind hE hz q
      refine ⟨Δ', Z', hE', hz', q'.imp fun v H1 ⟨d, Z1, x, r, q1⟩ => ?_⟩
      obtain ⟨Δ2, Z2, hE2, hz2, q2⟩ := tEs_bind (hE.mono x.zz) x.zh q1
      refine ⟨Δ2, Z2, hE2, hz2, q2.imp fun vs H2 ⟨ds, Z3, x3, r3, q3⟩ => ?_⟩
      exact q3.ret x3.zh (.cons (r.mono x3.zz) r3)
    · rcases List.mem_cons.mp hx with rfl | hx
      · exact h1
      · exact n x hx
  · exact absurd h Bool.false_ne_true
end
end R
end

section
set_option Elab.async false
set_option linter.all false
set_option maxRecDepth 100000
set_option maxHeartbeats 8000000
/-! R10: operators, tests, calls. -/
namespace R
open PySem PySem.Spec PyProof.Rows L2
section
variable {T : Th} {W : Wo} {Φ : Or} {k : Nat} {N : List PySem.Str}
theorem hu64 {A : Around} (hr : Room k A) : A.units + 64 < cLine := hr.units
/-- two parts, then an operator -/
theorem read2 {a b : E} {f : D → D → Res D} {r : R2} (m : Meets2 W r f) {σ : L2.St} {H : Hp} {Q : VK} {Wx : WX} {Δ : List (Option D)} {Z : Hp} (hE : EnvOk W Z σ Δ) (hz : Same Z H)
    (q : PostE W (Rep W) Z H ((ev Φ a Δ).bind fun x => (ev Φ b Δ).bind fun y => f x y) Q fun c d H' => Wx c d σ H') : tOp r (tE W Φ a Wx) (tE W Φ b Wx) σ H Q := by
  obtain ⟨Δ', Z', hE', hz', q'⟩ := tE_bind hE hz q
  refine ⟨Δ', Z', hE', hz', q'.imp fun v H1 ⟨d, Z1, x, rv, q1⟩ => ?_⟩
  obtain ⟨Δ2, Z2, hE2, hz2, q2⟩ := tE_bind (hE.mono x.zz) x.zh q1
  refine ⟨Δ2, Z2, hE2, hz2, q2.imp fun u H2 ⟨d2, Z3, x3, r3, q3⟩ => ?_⟩
  exact m _ _ _ _ Z3 H2 Q _ x3.zh (rv.mono x3.zz) r3 q3
theorem read1 {a : E} {f : D → Res D} {r : V → Hp → VK → Prop} (m : Meets1 W r f) {σ : L2.St} {H : Hp} {Q : VK} {Wx : WX} {Δ : List (Option D)} {Z : Hp} (hE : EnvOk W Z σ Δ) (hz : Same Z H)
    (q : PostE W (Rep W) Z H ((ev Φ a Δ).bind f) Q fun c d H' => Wx c d σ H') : tE W Φ a Wx σ H fun v H1 => r v H1 Q := by
  obtain ⟨Δ', Z', hE', hz', q'⟩ := tE_bind hE hz q
  exact ⟨Δ', Z', hE', hz', q'.imp fun v H1 ⟨d, Z1, x, rv, q1⟩ => m _ _ Z1 H1 Q _ x.zh rv q1⟩
theorem snd_op {o : O2} {a b : E} (iha : SndE T W Φ k N a) (ihb : SndE T W Φ k N b) : SndE T W Φ k N (.op o a b) := by
  intro sc ex X Wx G tk h
  rw [chkE_op] at h
  split at h
  · obtain ⟨h1, h2⟩ := ba h
    obtain ⟨h2, h3⟩ := ba h2
    obtain ⟨r, ho, m⟩ := bin_ok (X := X) (W := W) G.hK h1
    exact (pe_op ho (iha G tk h2) (ihb G tk h3)).imp fun σ H Q ⟨Δ, Z, hE, hz, q⟩ => read2 m hE hz (by rw [ev_op] at q; exact q)
  · obtain ⟨h1, h2⟩ := ba h
    obtain ⟨hs, h2⟩ := ba h2
    obtain ⟨h2, h3⟩ := ba h2
    obtain ⟨r, ho, m⟩ := cmp_ok (X := X) (W := W) G.hK (hu64 G.room) h1
    exact (pe_cmpR ho (iha G tk h2) (ihb G tk h3) (noMark hs _)).imp fun σ H Q ⟨Δ, Z, hE, hz, q⟩ => read2 m hE hz (by rw [ev_op] at q; exact q)
  · exact absurd h Bool.false_ne_true
theorem test_of {t : TE} {e : E} {Wx : WX} (h : ∀ σ H Q, tE W Φ e Wx σ H Q → t σ H Q) : ∀ σ H Q, tT W Φ e Wx σ H Q → tTest t σ H Q := by
  intro σ H Q ⟨Δ, Z, hE, hz, q⟩
  refine h σ H _ ⟨Δ, Z, hE, hz, ?_⟩
  cases r : ev Φ e Δ with
  | ok d =>
    rw [r] at q
    cases d <;> try exact q.elim
    rename_i b
    intro v Z' H' x rv
    simp only [Rep] at rv
    exact ⟨b, rv, q b Z' H' x rfl⟩
  | ex c fs => rw [r] at q; exact q
  | bad => rw [r] at q; exact q.elim
theorem sndT_op {o : O2} {a b : E} (iha : SndE T W Φ k N a) (ihb : SndE T W Φ k N b) : SndT T W Φ k N (.op o a b) := by
  intro sc ex X Wx G tk _ h
  have h' := h
  rw [chkE_op] at h
  split at h
  · exact pt_of (snd_op iha ihb G tk h') fun _ => rfl
  · obtain ⟨h1, h2⟩ := ba h
    obtain ⟨hs, h2⟩ := ba h2
    obtain ⟨h2, h3⟩ := ba h2
    obtain ⟨r, ho, m⟩ := cmp_ok (X := X) (W := W) G.hK (hu64 G.room) h1
    exact (pt_cmpR ho (iha G tk h2) (ihb G tk h3) (noMark hs _)).imp (test_of fun σ H Q ⟨Δ, Z, hE, hz, q⟩ => read2 m hE hz (by rw [ev_op] at q; exact q))
  · exact absurd h Bool.false_ne_true
theorem snd_un {o : O1} {a : E} (iha : SndE T W Φ k N a) : SndE T W Φ k N (.un o a) := by
  intro sc ex X Wx G tk h
  rw [chkE_un] at h
  split at h
  · obtain ⟨h1, h2⟩ := ba h
    cases o <;> try exact absurd h1 Bool.false_ne_true
    obtain ⟨r, ho, m⟩ := neg_ok (X := X) (W := W)
    exact (pe_un ho (iha G tk h2)).imp fun σ H Q ⟨Δ, Z, hE, hz, q⟩ => read1 m hE hz (by rw [ev_un] at q; exact q)
  · obtain ⟨h1, h2⟩ := ba h
    obtain ⟨pc, mk, r, ho, m⟩ := cmp1_ok (X := X) (W := W) h1
    exact (pe_cmpR ho (iha G tk h2) pc (noMark rfl _)).imp fun σ H Q ⟨Δ, Z, hE, hz, q⟩ => read1 m hE hz (by rw [ev_un] at q; exact q)
  · exact absurd h Bool.false_ne_true
theorem sndT_un {o : O1} {a : E} (iha : SndE T W Φ k N a) : SndT T W Φ k N (.un o a) := by
  intro sc ex X Wx G tk _ h
  have h' := h
  rw [chkE_un] at h
  split at h
  · exact pt_of (snd_un iha G tk h') fun _ => rfl
  · obtain ⟨h1, h2⟩ := ba h
    obtain ⟨pc, mk, r, ho, m⟩ := cmp1_ok (X := X) (W := W) h1
    exact (pt_cmpR ho (iha G tk h2) pc (noMark rfl _)).imp (test_of fun σ H Q ⟨Δ, Z, hE, hz, q⟩ => read1 m hE hz (by rw [ev_un] at q; exact q))
  · exact absurd h Bool.false_ne_true

/-! ### and, or, not, if else -/
theorem readB {a : E} {γ δ : Type} {Rq : Hp → γ → δ → Prop} {f : Bool → Res γ} {σ : L2.St} {H : Hp} {Q : δ → Hp → Prop} {Wx : WX} {Δ : List (Option D)} {Z : Hp} (hE : EnvOk W Z σ Δ) (hz : Same Z H)
    (q : PostE W Rq Z H ((tob (ev Φ a Δ)).bind f) Q fun c d H' => Wx c d σ H') : tE W Φ a Wx σ H fun v H1 => ∃ b Z1, v = .bl b ∧ Ext Z H Z1 H1 ∧ PostE W Rq Z1 H1 (f b) Q fun c d H' => Wx c d σ H' := by
  rw [tob_bind] at q
  obtain ⟨Δ', Z', hE', hz', q'⟩ := tE_bind hE hz q
  refine ⟨Δ', Z', hE', hz', q'.imp fun v H1 ⟨d, Z1, x, rv, q1⟩ => ?_⟩
  cases d <;> try exact q1.elim
  rename_i b
  simp only [Rep] at rv
  exact ⟨b, Z1, rv, x, q1⟩
theorem snd_bits {a : E} (iha : SndE T W Φ k N a) : SndE T W Φ k N (.bits a) := by
  intro sc ex X Wx G tk h
  rw [chkE_bits] at h
  split at h
  · rename_i x m p q
    obtain ⟨h1, h2⟩ := ba h
    obtain ⟨h2, h3⟩ := ba h2
    obtain ⟨h3, h4⟩ := ba h3
    have e := de h1
    subst e
    refine (pe_bits (iha G tk h4) (attrBase h3 _ _) h2).imp fun σ H Q ⟨Δ, Z, hE, hz, q⟩ => ?_
    rw [ev_bits] at q
    obtain ⟨Δ', Z', hE', hz', q'⟩ := tE_bind hE hz q
    refine ⟨Δ', Z', hE', hz', q'.imp fun v H1 ⟨d, Z1, x1, rv, q1⟩ => ?_⟩
    cases d <;> simp only [PostE_bad] at q1
    simp only [Rep] at rv
    refine ⟨_, rv, ?_⟩
    rw [bits_eq]
    exact post_int q1 x1.zh
  · exact absurd h Bool.false_ne_true
theorem snd_not {a : E} (iha : SndE T W Φ k N a) : SndE T W Φ k N (.not a) := by
  intro sc ex X Wx G tk h
  rw [chkE_not] at h
  split at h
  · refine (pe_not (iha G tk h)).imp fun σ H Q ⟨Δ, Z, hE, hz, q⟩ => ?_
    rw [ev_not] at q
    obtain ⟨Δ', Z', hE', hz', q'⟩ := readB hE hz q
    exact ⟨Δ', Z', hE', hz', q'.imp fun v H1 ⟨b, Z1, e, x, q1⟩ => ⟨b, e, post_bl q1 x.zh⟩⟩
  · exact absurd h Bool.false_ne_true
theorem sndT_not {a : E} (iha : SndT T W Φ k N a) : SndT T W Φ k N (.not a) := by
  intro sc ex X Wx G tk ht h
  rw [chkE_not] at h
  split at h
  · refine (pt_not (iha G tk ht h)).imp fun σ H Q ⟨Δ, Z, hE, hz, q⟩ => ?_
    rw [ev_not] at q
    have e : tob ((tob (ev Φ a Δ)).bind fun b => .ok (.bl !b)) = (tob (ev Φ a Δ)).bind fun b => .ok !b := by
      cases tob (ev Φ a Δ) <;> rfl
    rw [e] at q
    obtain ⟨Δ', Z', hE', hz', q'⟩ := tT_bind hE hz q
    exact ⟨Δ', Z', hE', hz', q'.imp fun v H1 ⟨Z1, x, q1⟩ => q1.ret x.zh rfl⟩
  · exact absurd h Bool.false_ne_true
theorem snd_and {a b : E} (iha : SndE T W Φ k N a) (ihb : SndE T W Φ k N b) : SndE T W Φ k N (.and a b) := by
  intro sc ex X Wx G tk h
  rw [chkE_and] at h
  split at h
  · rename_i x y r p
    obtain ⟨h1, h2⟩ := ba h
    have hb : PE X (.BoolOp .And (y :: r) p) (tE W Φ b Wx) := by
      split at h2
      · exact pe_one (ihb G tk h2)
      · exact ihb G tk h2
    refine (pe_and (iha G tk h1) hb).imp fun σ H Q ⟨Δ, Z, hE, hz, q⟩ => ?_
    rw [ev_and] at q
    obtain ⟨Δ', Z', hE', hz', q'⟩ := readB hE hz q
    refine ⟨Δ', Z', hE', hz', q'.imp fun v H1 ⟨c, Z1, e, x, q1⟩ => ⟨c, e, ?_⟩⟩
    cases c with
    | true => exact ⟨Δ, Z1, hE.mono x.zz, x.zh, post_tob q1⟩
    | false => exact post_bl q1 x.zh
  · exact absurd h Bool.false_ne_true
theorem snd_or {a b : E} (iha : SndE T W Φ k N a) (ihb : SndE T W Φ k N b) : SndE T W Φ k N (.or a b) := by
  intro sc ex X Wx G tk h
  rw [chkE_or] at h
  split at h
  · rename_i x y r p
    obtain ⟨h1, h2⟩ := ba h
    have hb : PE X (.BoolOp .Or (y :: r) p) (tE W Φ b Wx) := by
      split at h2
      · exact pe_one (ihb G tk h2)
      · exact ihb G tk h2
    refine (pe_or (iha G tk h1) hb).imp fun σ H Q ⟨Δ, Z, hE, hz, q⟩ => ?_
    rw [ev_or] at q
    obtain ⟨Δ', Z', hE', hz', q'⟩ := readB hE hz q
    refine ⟨Δ', Z', hE', hz', q'.imp fun v H1 ⟨c, Z1, e, x, q1⟩ => ⟨c, e, ?_⟩⟩
    cases c with
    | false => exact ⟨Δ, Z1, hE.mono x.zz, x.zh, post_tob q1⟩
    | true => exact post_bl q1 x.zh
  · exact absurd h Bool.false_ne_true
theorem sndW_and {a b : E} (iha : SndT T W Φ k N a) (ihb : SndT T W Φ k N b) (ihw : SndW T W Φ k N b) : SndW T W Φ k N (.and a b) := by
  intro sc o xs p X Wx G tk ht h
  obtain ⟨ht1, ht2⟩ := ba ht
  rw [chkE_and] at h
  split at h
  · rename_i x y r p' e
    injection e with e1 e2 e3
    subst e1 e2 e3
    obtain ⟨h1, h2⟩ := ba h
    have hb : PW X (.BoolOp .And (y :: r) p) (tT W Φ b Wx) := by
      split at h2
      · exact pw_and1 (ihb G tk ht2 h2)
      · exact ihw G tk ht2 h2
    refine ⟨fun wh pins s σ H Q I q => (pw_and (iha G tk ht1 h1) hb).run wh pins s σ H Q I ?_⟩
    obtain ⟨Δ, Z, hE, hz, q⟩ := q
    rw [ev_and] at q
    have e : tob ((tob (ev Φ a Δ)).bind fun x => if x then (tob (ev Φ b Δ)).bind fun y => .ok (.bl y) else .ok (.bl false)) = (tob (ev Φ a Δ)).bind fun x => if x then tob (ev Φ b Δ) else .ok false := by
      cases tob (ev Φ a Δ) with
      | ok c =>
        cases c
        · rfl
        · simp only [Res.bind_ok, if_true]
          cases tob (ev Φ b Δ) <;> rfl
      | ex c fs => rfl
      | bad => rfl
    rw [e] at q
    obtain ⟨Δ', Z', hE', hz', q'⟩ := tT_bind hE hz q
    refine ⟨Δ', Z', hE', hz', q'.imp fun v H1 ⟨Z1, x, q1⟩ => ?_⟩
    cases v with
    | true => exact ⟨Δ, Z1, hE.mono x.zz, x.zh, q1⟩
    | false => exact q1.ret x.zh rfl
  · exact absurd h Bool.false_ne_true
theorem sndW_or {a b : E} (iha : SndT T W Φ k N a) (ihb : SndT T W Φ k N b) (ihw : SndW T W Φ k N b) : SndW T W Φ k N (.or a b) := by
  intro sc o xs p X Wx G tk ht h
  obtain ⟨ht1, ht2⟩ := ba ht
  rw [chkE_or] at h
  split at h
  · rename_i x y r p' e
    injection e with e1 e2 e3
    subst e1 e2 e3
    obtain ⟨h1, h2⟩ := ba h
    have hb : PW X (.BoolOp .Or (y :: r) p) (tT W Φ b Wx) := by
      split at h2
      · exact pw_or1 (ihb G tk ht2 h2)
      · exact ihw G tk ht2 h2
    refine ⟨fun wh pins s σ H Q I q => (pw_or (iha G tk ht1 h1) hb).run wh pins s σ H Q I ?_⟩
    obtain ⟨Δ, Z, hE, hz, q⟩ := q
    rw [ev_or] at q
    have e : tob ((tob (ev Φ a Δ)).bind fun x => if x then .ok (.bl true) else (tob (ev Φ b Δ)).bind fun y => .ok (.bl y)) = (tob (ev Φ a Δ)).bind fun x => if x then .ok true else tob (ev Φ b Δ) := by
      cases tob (ev Φ a Δ) with
      | ok c =>
        cases c
        · simp only [Res.bind_ok, if_false, Bool.false_eq_true]
          cases tob (ev Φ b Δ) <;> rfl
        · rfl
      | ex c fs => rfl
      | bad => rfl
    rw [e] at q
    obtain ⟨Δ', Z', hE', hz', q'⟩ := tT_bind hE hz q
    refine ⟨Δ', Z', hE', hz', q'.imp fun v H1 ⟨Z1, x, q1⟩ => ?_⟩
    cases v with
    | false => exact ⟨Δ, Z1, hE.mono x.zz, x.zh, q1⟩
    | true => exact q1.ret x.zh rfl
  · exact absurd h Bool.false_ne_true
theorem sndT_and {a b : E} (h : SndW T W Φ k N (.and a b)) : SndT T W Φ k N (.and a b) := by
  intro sc ex X Wx G tk ht hc
  have h' := hc
  rw [chkE_and] at hc
  split at hc
  · exact (h G tk ht h').pt
  · exact absurd hc Bool.false_ne_true
theorem sndT_or {a b : E} (h : SndW T W Φ k N (.or a b)) : SndT T W Φ k N (.or a b) := by
  intro sc ex X Wx G tk ht hc
  have h' := hc
  rw [chkE_or] at hc
  split at hc
  · exact (h G tk ht h').pt
  · exact absurd hc Bool.false_ne_true
theorem snd_ite {c a b : E} (ihc : SndT T W Φ k N c) (iha : SndE T W Φ k N a) (ihb : SndE T W Φ k N b) : SndE T W Φ k N (.ite c a b) := by
  intro sc ex X Wx G tk h
  rw [chkE_ite] at h
  split at h
  · obtain ⟨ht, h⟩ := ba h
    obtain ⟨h1, h⟩ := ba h
    obtain ⟨h2, h3⟩ := ba h
    refine (pe_ifExp (ihc G tk ht h1) (iha G tk h2) (ihb G tk h3)).imp fun σ H Q ⟨Δ, Z, hE, hz, q⟩ => ?_
    rw [ev_ite] at q
    obtain ⟨Δ', Z', hE', hz', q'⟩ := tT_bind hE hz q
    refine ⟨Δ', Z', hE', hz', q'.imp fun v H1 ⟨Z1, x, q1⟩ => ?_⟩
    cases v with
    | true => exact ⟨Δ, Z1, hE.mono x.zz, x.zh, q1⟩
    | false => exact ⟨Δ, Z1, hE.mono x.zz, x.zh, q1⟩
  · exact absurd h Bool.false_ne_true

/-! ### subscripts -/
theorem snd_idx {a i : E} (iha : SndE T W Φ k N a) (ihi : SndE T W Φ k N i) : SndE T W Φ k N (.idx a i) := by
  intro sc ex X Wx G tk h
  rw [chkE_idx] at h
  split at h
  · obtain ⟨hs, h2⟩ := ba h
    obtain ⟨h2, h3⟩ := ba h2
    obtain ⟨r, ho, m⟩ := ix_ok (X := X) (W := W) G.hK
    exact (pe_ix ho (iha G tk h2) (ihi G tk h3) (plainIx hs)).imp fun σ H Q ⟨Δ, Z, hE, hz, q⟩ => read2 m hE hz (by rw [ev_idx] at q; exact q)
  · exact absurd h Bool.false_ne_true
theorem snd_slc {a l u : E} (iha : SndE T W Φ k N a) (ihl : SndE T W Φ k N l) (ihu : SndE T W Φ k N u) : SndE T W Φ k N (.slc a l u) := by
  intro sc ex X Wx G tk h
  rw [chkE_slc] at h
  split at h
  · obtain ⟨h1, h2⟩ := ba h
    obtain ⟨h2, h3⟩ := ba h2
    obtain ⟨r, ho, m⟩ := sl_ok (X := X) (W := W) G.hK
    refine (pe_slice ho (iha G tk h1) (po_some (ihl G tk h2)) (po_some (ihu G tk h3))).imp fun σ H Q ⟨Δ, Z, hE, hz, q⟩ => ?_
    rw [ev_slc] at q
    obtain ⟨Δ', Z', hE', hz', q'⟩ := tE_bind hE hz q
    refine ⟨Δ', Z', hE', hz', q'.imp fun v H1 ⟨d, Z1, x, rv, q1⟩ => ?_⟩
    obtain ⟨Δ2, Z2, hE2, hz2, q2⟩ := tE_bind (hE.mono x.zz) x.zh q1
    refine ⟨Δ2, Z2, hE2, hz2, q2.imp fun u H2 ⟨d2, Z3, x3, r3, q3⟩ => ?_⟩
    cases d2 <;> try exact q3.elim
    rename_i i
    simp only [Rep] at r3
    refine ⟨i, r3, ?_⟩
    obtain ⟨Δ4, Z4, hE4, hz4, q4⟩ := tE_bind ((hE.mono x.zz).mono x3.zz) x3.zh q3
    refine ⟨Δ4, Z4, hE4, hz4, q4.imp fun u2 H5 ⟨d5, Z5, x5, r5, q5⟩ => ?_⟩
    cases d5 <;> try exact q5.elim
    rename_i j
    simp only [Rep] at r5
    exact ⟨j, r5, m _ _ _ _ Z5 H5 Q _ x5.zh ((rv.mono x3.zz).mono x5.zz) q5⟩
  · exact absurd h Bool.false_ne_true
theorem snd_slo {a l : E} (iha : SndE T W Φ k N a) (ihl : SndE T W Φ k N l) : SndE T W Φ k N (.slo a l) := by
  intro sc ex X Wx G tk h
  rw [chkE_slo] at h
  split at h
  · obtain ⟨h1, h2⟩ := ba h
    obtain ⟨r, ho, m⟩ := sl_ok (X := X) (W := W) G.hK
    refine (pe_slice ho (iha G tk h1) (po_some (ihl G tk h2)) po_none).imp fun σ H Q ⟨Δ, Z, hE, hz, q⟩ => ?_
    rw [ev_slo] at q
    obtain ⟨Δ', Z', hE', hz', q'⟩ := tE_bind hE hz q
    refine ⟨Δ', Z', hE', hz', q'.imp fun v H1 ⟨d, Z1, x, rv, q1⟩ => ?_⟩
    obtain ⟨Δ2, Z2, hE2, hz2, q2⟩ := tE_bind (hE.mono x.zz) x.zh q1
    refine ⟨Δ2, Z2, hE2, hz2, q2.imp fun u H2 ⟨d2, Z3, x3, r3, q3⟩ => ?_⟩
    cases d2 <;> try exact q3.elim
    rename_i j
    simp only [Rep] at r3
    exact ⟨j, r3, m _ _ _ _ Z3 H2 Q _ x3.zh (rv.mono x3.zz) q3⟩
  · exact absurd h Bool.false_ne_true
theorem snd_shi {a l : E} (iha : SndE T W Φ k N a) (ihl : SndE T W Φ k N l) : SndE T W Φ k N (.shi a l) := by
  intro sc ex X Wx G tk h
  rw [chkE_shi] at h
  split at h
  · obtain ⟨h1, h2⟩ := ba h
    obtain ⟨r, ho, m⟩ := sl_ok (X := X) (W := W) G.hK
    refine (pe_slice ho (iha G tk h1) po_none (po_some (ihl G tk h2))).imp fun σ H Q ⟨Δ, Z, hE, hz, q⟩ => ?_
    rw [ev_shi] at q
    obtain ⟨Δ', Z', hE', hz', q'⟩ := tE_bind hE hz q
    refine ⟨Δ', Z', hE', hz', q'.imp fun v H1 ⟨d, Z1, x, rv, q1⟩ => ?_⟩
    obtain ⟨Δ2, Z2, hE2, hz2, q2⟩ := tE_bind (hE.mono x.zz) x.zh q1
    refine ⟨Δ2, Z2, hE2, hz2, q2.imp fun u H2 ⟨d2, Z3, x3, r3, q3⟩ => ?_⟩
    cases d2 <;> try exact q3.elim
    rename_i j
    simp only [Rep] at r3
    exact ⟨j, r3, m _ _ _ _ Z3 H2 Q _ x3.zh (rv.mono x3.zz) q3⟩
  · exact absurd h Bool.false_ne_true
end
end R
end

section
set_option Elab.async false
set_option linter.all false
set_option maxRecDepth 100000
set_option maxHeartbeats 8000000
/-! R11: built-ins, calls, fields. -/
namespace R
open PySem PySem.Spec PyProof.Rows L2
section
variable {T : Th} {W : Wo} {Φ : Or} {k : Nat} {N : List PySem.Str}
theorem readN {es : List E} {f : List D → Res D} {r : List V → Hp → VK → Prop} (m : MeetsN W r f) {σ : L2.St} {H : Hp} {Q : VK} {Wx : WX} {Δ : List (Option D)} {Z : Hp} (hE : EnvOk W Z σ Δ) (hz : Same Z H)
    (q : PostE W (Rep W) Z H ((evs Φ es Δ).bind f) Q fun c d H' => Wx c d σ H') : tEs W Φ es Wx σ H fun vs H1 => r vs H1 Q := by
  obtain ⟨Δ', Z', hE', hz', q'⟩ := tEs_bind hE hz q
  exact ⟨Δ', Z', hE', hz', q'.imp fun v H1 ⟨d, Z1, x, rv, q1⟩ => m _ _ Z1 H1 Q _ x.zh rv q1⟩
theorem calB {X : Cx} {id : String} {f : PySem.Str} {p pos : Pos} {x : Expr} {xs : List Expr} {b : Bi} {es : List E} {Wx : WX} {sc : Scope} (G : Good T W Φ k N sc X) (hr : ∃ r, CallR X (.builtin id) r ∧ MeetsN W r (bi b)) (hf : f ∈ bNames) (hv : bootBuiltins f = some (.builtin id)) (hg : glB sc f = true)
    (ha : PA X (x :: xs) (tEs W Φ es Wx)) (hn : ∀ y ∈ x :: xs, nst y = true) : PE X (.Call (.Name f p) (x :: xs) [] pos) (tE W Φ (.bi b es) Wx) := by
  obtain ⟨r, hc, m⟩ := hr
  obtain ⟨n1, n2⟩ := bnm hf
  refine (pe_callB hc (gl_of G.hsc hg) (G.blt f hf) hv ha n1 n2 (starEach_nst (hn x List.mem_cons_self) _ _) (any_star (fun y hy => hn y (List.mem_cons_of_mem _ hy)) _ _)).imp fun σ H Q ⟨Δ, Z, hE, hz, q⟩ => ?_
  exact readN m hE hz (by rw [ev_bi] at q; exact q)
theorem calT {X : Cx} {id : String} {f : PySem.Str} {p pos : Pos} {x : Expr} {xs : List Expr} {b : Bi} {es : List E} {Wx : WX} {sc : Scope} (G : Good T W Φ k N sc X) (hr : ∃ r, CallR X (.type id) r ∧ MeetsN W r (bi b)) (hf : f ∈ bNames) (hv : bootBuiltins f = some (.type id)) (hg : glB sc f = true)
    (ha : PA X (x :: xs) (tEs W Φ es Wx)) (hn : ∀ y ∈ x :: xs, nst y = true) : PE X (.Call (.Name f p) (x :: xs) [] pos) (tE W Φ (.bi b es) Wx) := by
  obtain ⟨r, hc, m⟩ := hr
  obtain ⟨n1, n2⟩ := bnm hf
  refine (pe_callTy hc (gl_of G.hsc hg) (G.blt f hf) hv ha n1 n2 (starEach_nst (hn x List.mem_cons_self) _ _) (any_star (fun y hy => hn y (List.mem_cons_of_mem _ hy)) _ _)).imp fun σ H Q ⟨Δ, Z, hE, hz, q⟩ => ?_
  exact readN m hE hz (by rw [ev_bi] at q; exact q)
theorem calG {X : Cx} {p pos : Pos} {x : Expr} {xs : List Expr} {es : List E} {Wx : WX} {sc : Scope} (G : Good T W Φ k N sc X) (hT : T.gcd = true) (hg : glB sc "gcd" = true)
    (ha : PA X (x :: xs) (tEs W Φ es Wx)) (hn : ∀ y ∈ x :: xs, nst y = true) : PE X (.Call (.Name "gcd" p) (x :: xs) [] pos) (tE W Φ (.bi .gcd es) Wx) := by
  obtain ⟨r, hc, m⟩ := gcd_ok (X := X) (W := W)
  refine (pe_callBfun hc (gl_of G.hsc hg) (G.gcd hT) ha (by decide) (starEach_nst (hn x List.mem_cons_self) _ _) (any_star (fun y hy => hn y (List.mem_cons_of_mem _ hy)) _ _)).imp fun σ H Q ⟨Δ, Z, hE, hz, q⟩ => ?_
  exact readN m hE hz (by rw [ev_bi] at q; exact q)
theorem tyV_pe {X : Cx} {sc : Scope} (G : Good T W Φ k N sc X) {t : Ty} {c : PySem.Str} {pos : Pos} (h : tyNm T t c = true) (hg : glB sc c = true) (hp : plainNm c = true) : ∃ v, PE X (.Name c pos) (tC v) ∧ ClsV v (tyVal W t) ∧ ∀ c', t = .cls c' → c' < T.cls.length := by
  cases t with
  | int => have e := de h; subst e; exact ⟨.ty "int", pe_bltn (gl_of G.hsc hg) (G.blt _ (by decide +kernel)) (u := .type "int") (by decide +kernel) rfl, .ty _, fun _ z => nomatch z⟩
  | bool => have e := de h; subst e; exact ⟨.ty "bool", pe_bltn (gl_of G.hsc hg) (G.blt _ (by decide +kernel)) (u := .type "bool") (by decide +kernel) rfl, .ty _, fun _ z => nomatch z⟩
  | str => have e := de h; subst e; exact ⟨.ty "str", pe_bltn (gl_of G.hsc hg) (G.blt _ (by decide +kernel)) (u := .type "str") (by decide +kernel) rfl, .ty _, fun _ z => nomatch z⟩
  | list => have e := de h; subst e; exact ⟨.ty "list", pe_bltn (gl_of G.hsc hg) (G.blt _ (by decide +kernel)) (u := .type "list") (by decide +kernel) rfl, .ty _, fun _ z => nomatch z⟩
  | tuple => have e := de h; subst e; exact ⟨.ty "tuple", pe_bltn (gl_of G.hsc hg) (G.blt _ (by decide +kernel)) (u := .type "tuple") (by decide +kernel) rfl, .ty _, fun _ z => nomatch z⟩
  | cls i =>
    simp only [tyNm] at h
    split at h
    · rename_i ci e
      have e2 := de h
      subst e2
      have g := G.clsg i ci e
      refine ⟨.ref (W.cA i), pe_glob (gl_of G.hsc hg) g rfl (plainNm_of hp).1, .own _, fun c' z => ?_⟩
      injection z with z
      subst z
      exact (List.getElem?_eq_some_iff.mp e).1
    · exact absurd h Bool.false_ne_true
theorem kit_ok {X : Cx} {sc : Scope} (G : Good T W Φ k N sc X) {t : Ty} (ht : ∀ c', t = .cls c' → c' < T.cls.length) {d : D} (hd : ∀ c xs, d = .obj c xs → c < T.cls.length) : PySem.W.kitOne W.K (tyOfD W d) (tyVal W t) = some (hasTy t d) := by
  have get : ∀ c, c < T.cls.length → ∃ ci, T.cls[c]? = some ci := fun c h => ⟨T.cls[c], by simp [h]⟩
  have obj : ∀ c xs, d = .obj c xs → PySem.W.kitOne W.K (tyOfD W d) (tyVal W t) = some (hasTy t d) := fun c xs e => by
    subst e
    obtain ⟨ci, e⟩ := get c (hd c xs rfl)
    have q := (G.cls c ci e).isO t ht
    have e2 : hasTy t (.obj c []) = hasTy t (.obj c xs) := by cases t <;> rfl
    rw [← e2]
    exact q
  cases d with
  | obj c xs => exact obj c xs rfl
  | non => cases t with
    | cls i => obtain ⟨ci, e⟩ := get i (ht i rfl); exact (G.cls i ci e).isB _ (by decide)
    | _ => exact kit_ty (by simp only [hasTy]; decide +kernel)
  | bl _ => cases t with
    | cls i => obtain ⟨ci, e⟩ := get i (ht i rfl); exact (G.cls i ci e).isB _ (by decide)
    | _ => exact kit_ty (by simp only [hasTy]; decide +kernel)
  | int _ => cases t with
    | cls i => obtain ⟨ci, e⟩ := get i (ht i rfl); exact (G.cls i ci e).isB _ (by decide)
    | _ => exact kit_ty (by simp only [hasTy]; decide +kernel)
  | str _ => cases t with
    | cls i => obtain ⟨ci, e⟩ := get i (ht i rfl); exact (G.cls i ci e).isB _ (by decide)
    | _ => exact kit_ty (by simp only [hasTy]; decide +kernel)
  | tup _ => cases t with
    | cls i => obtain ⟨ci, e⟩ := get i (ht i rfl); exact (G.cls i ci e).isB _ (by decide)
    | _ => exact kit_ty (by simp only [hasTy]; decide +kernel)
  | lst _ => cases t with
    | cls i => obtain ⟨ci, e⟩ := get i (ht i rfl); exact (G.cls i ci e).isB _ (by decide)
    | _ => exact kit_ty (by simp only [hasTy]; decide +kernel)
  | fz _ => cases t with
    | cls i => obtain ⟨ci, e⟩ := get i (ht i rfl); exact (G.cls i ci e).isB _ (by decide)
    | _ => exact kit_ty (by simp only [hasTy]; decide +kernel)
/-- each part -/
def SndA (T : Th) (W : Wo) (Φ : Or) (k : Nat) (N : List PySem.Str) (es : List E) : Prop := ∀ e ∈ es, SndE T W Φ k N e
theorem SndA.es : ∀ {es : List E}, SndA T W Φ k N es → SndEs T W Φ k N es
  | [], _ => snd_nil
  | e :: es, h => snd_cons (h e List.mem_cons_self) (SndA.es fun x hx => h x (List.mem_cons_of_mem _ hx))
theorem chk_one {sc : Scope} {es : List E} {x : Expr} (h : chkEs T N sc es [x] = true) : ∃ e, es = [e] ∧ nst x = true ∧ chkE T N sc e x = true := by
  cases es with
  | nil => rw [chkEs_l0] at h; exact absurd h Bool.false_ne_true
  | cons e r =>
    rw [chkEs_cons1] at h
    simp only at h
    rw [Bool.and_eq_true] at h
    obtain ⟨h1, h2⟩ := h
    rw [Bool.and_eq_true] at h2
    obtain ⟨h2, h3⟩ := h2
    cases r with
    | nil => exact ⟨e, rfl, h1, h2⟩
    | cons e' r' => rw [chkEs_cons1] at h3; simp at h3
theorem chk_two {sc : Scope} {es : List E} {x y : Expr} (h : chkEs T N sc es [x, y] = true) : ∃ e e', es = [e, e'] ∧ nst x = true ∧ nst y = true ∧ chkE T N sc e x = true ∧ chkE T N sc e' y = true := by
  cases es with
  | nil => rw [chkEs_l0] at h; exact absurd h Bool.false_ne_true
  | cons e r =>
    rw [chkEs_cons1] at h
    simp only at h
    rw [Bool.and_eq_true] at h
    obtain ⟨h1, h2⟩ := h
    rw [Bool.and_eq_true] at h2
    obtain ⟨h2, h3⟩ := h2
    obtain ⟨e', rfl, h4, h5⟩ := chk_one h3
    exact ⟨e, e', rfl, h1, h4, h2, h5⟩
theorem snd_isi {t : Ty} {es : List E} (ih : SndA T W Φ k N es) : SndE T W Φ k N (.bi (.isinst t) es) := by
  intro sc ex X Wx G tk h
  rw [chkE_bi] at h
  simp only at h
  split at h
  · rename_i f p x c p2 pos
    rw [Bool.and_eq_true] at h; obtain ⟨h1, h⟩ := h
    rw [Bool.and_eq_true] at h; obtain ⟨h2, h⟩ := h
    rw [Bool.and_eq_true] at h; obtain ⟨h3, h⟩ := h
    rw [Bool.and_eq_true] at h; obtain ⟨h4, h⟩ := h
    rw [Bool.and_eq_true] at h; obtain ⟨h5, h⟩ := h
    have e := de h1
    subst e
    obtain ⟨v, pv, cv, ct⟩ := tyV_pe G (pos := p2) h4 h3 h5
    obtain ⟨e, rfl, hx, hc⟩ := chk_one h
    have px := ih e List.mem_cons_self G tk hc
    have pa : PA X [x, .Name c p2] (tCons (tE W Φ e Wx) (tCons (tC v) tNil)) := pa_cons px (pa_cons pv pa_nil (starEach_nst rfl _ _)) (starEach_nst hx _ _)
    have hb : ("isinstance" : PySem.Str) ∈ bNames := by decide +kernel
    obtain ⟨n1, n2⟩ := bnm hb
    refine (pe_callB call_isi (gl_of G.hsc h2) (G.blt _ hb) (by decide +kernel) pa n1 n2 (starEach_nst hx _ _) (any_star (fun y hy => by rw [List.mem_singleton.mp hy]; rfl) _ _)).imp fun σ H Q ⟨Δ, Z, hE, hz, q⟩ => ?_
    rw [ev_bi, evs_cons1, evs_l0] at q
    have e2 : ((ev Φ e Δ).bind fun d => (Res.ok []).bind fun ds => .ok (d :: ds)).bind (bi (.isinst t)) = (ev Φ e Δ).bind fun d => .ok (.bl (hasTy t d)) := by
      cases ev Φ e Δ <;> rfl
    rw [e2] at q
    obtain ⟨Δ', Z', hE', hz', q'⟩ := tE_bind hE hz q
    refine ⟨Δ', Z', hE', hz', q'.imp fun u H1 ⟨d, Z1, x1, rv, q1⟩ => ?_⟩
    refine ⟨u, v, tyOfD W d, tyVal W t, hasTy t d, rfl, cv, ?_, ?_, post_bl q1 x1.zh⟩
    · refine tyX_of (T := T) G.hK G.dc (fun c hc => ?_) x1.zh rv
      rw [G.nC] at hc
      exact ⟨T.cls[c], G.cls c _ (by simp [hc])⟩
    · rw [G.hK]
      refine kit_ok G ct fun c xs e => ?_
      subst e
      simp only [Rep] at rv
      obtain ⟨a, dx, vs, _, h0, _⟩ := rv
      rw [← G.nC]
      exact h0
  · exact absurd h Bool.false_ne_true
theorem snd_lr1 {es : List E} (ih : SndA T W Φ k N es) : SndE T W Φ k N (.bi .listR1 es) := by
  intro sc ex X Wx G tk h
  rw [chkE_bi] at h
  simp only at h
  split at h
  · rename_i f p g p2 x pos2 pos
    rw [Bool.and_eq_true] at h; obtain ⟨h1, h⟩ := h
    rw [Bool.and_eq_true] at h; obtain ⟨h2, h⟩ := h
    rw [Bool.and_eq_true] at h; obtain ⟨h3, h⟩ := h
    rw [Bool.and_eq_true] at h; obtain ⟨h4, h⟩ := h
    have e := de h1
    subst e
    have e := de h2
    subst e
    obtain ⟨e, rfl, hx, hc⟩ := chk_one h
    have px := ih e List.mem_cons_self G tk hc
    have hb : ("list" : PySem.Str) ∈ bNames := by decide +kernel
    have hr : ("range" : PySem.Str) ∈ bNames := by decide +kernel
    refine (pe_listRg G.calm (gl_of G.hsc h3) (G.blt _ hb) (prg_1 (gl_of G.hsc h4) (G.blt _ hr) px (starEach_nst hx _ _)) (starEach_nst rfl _ _)).imp fun σ H Q ⟨Δ, Z, hE, hz, q⟩ => ?_
    rw [ev_bi, evs_cons1, evs_l0] at q
    have e2 : ((ev Φ e Δ).bind fun d => (Res.ok []).bind fun ds => .ok (d :: ds)).bind (bi .listR1) = (ev Φ e Δ).bind fun d => bi .listR1 [d] := by
      cases ev Φ e Δ <;> rfl
    rw [e2] at q
    obtain ⟨Δ', Z', hE', hz', q'⟩ := tE_bind hE hz q
    refine ⟨Δ', Z', hE', hz', q'.imp fun u H1 ⟨d, Z1, x1, rv, q1⟩ => ?_⟩
    cases d <;> simp only [bi, PostE_bad] at q1
    rename_i n
    simp only [Rep] at rv
    refine ⟨n, rv, ?_⟩
    split at q1
    · rename_i ho
      simp only [rngOk, Bool.and_eq_true, decide_eq_true_eq] at ho
      obtain ⟨o1, o2, o3, o4, o5⟩ := ho
      refine ⟨⟨o1, o2, o3, o4, by rw [LINE_eq] at o5; exact o5⟩, fun p hp => post_lst q1 x1.zh ?_ hp⟩
      have e3 : rng 0 n = ((List.range (n - 0).toNat).map fun i => (0 : Int) + (i : Nat)).map D.int := by unfold rng; rw [List.map_map]; rfl
      have e4 : rgV 0 n = ((List.range (n - 0).toNat).map fun i => (0 : Int) + (i : Nat)).map V.int := by unfold rgV; rw [List.map_map]; rfl
      rw [e3, e4]
      exact RepL.ofInts _
    · simp only [PostE_bad] at q1
  · exact absurd h Bool.false_ne_true
theorem snd_lr2 {es : List E} (ih : SndA T W Φ k N es) : SndE T W Φ k N (.bi .listR2 es) := by
  intro sc ex X Wx G tk h
  rw [chkE_bi] at h
  simp only at h
  split at h
  · rename_i f p g p2 x y pos2 pos
    rw [Bool.and_eq_true] at h; obtain ⟨h1, h⟩ := h
    rw [Bool.and_eq_true] at h; obtain ⟨h2, h⟩ := h
    rw [Bool.and_eq_true] at h; obtain ⟨h3, h⟩ := h
    rw [Bool.and_eq_true] at h; obtain ⟨h4, h⟩ := h
    have e := de h1
    subst e
    have e := de h2
    subst e
    obtain ⟨e, e', rfl, hx, hy, hc, hc2⟩ := chk_two h
    have px := ih e List.mem_cons_self G tk hc
    have py := ih e' (List.mem_cons_of_mem _ List.mem_cons_self) G tk hc2
    have hb : ("list" : PySem.Str) ∈ bNames := by decide +kernel
    have hr : ("range" : PySem.Str) ∈ bNames := by decide +kernel
    refine (pe_listRg G.calm (gl_of G.hsc h3) (G.blt _ hb) (prg_2 (gl_of G.hsc h4) (G.blt _ hr) px py (starEach_nst hx _ _) (starEach_nst hy _ _) (any_star (fun z hz => by rw [List.mem_singleton.mp hz]; exact hy) _ _)) (starEach_nst rfl _ _)).imp fun σ H Q ⟨Δ, Z, hE, hz, q⟩ => ?_
    rw [ev_bi, evs_cons1, evs_cons1, evs_l0] at q
    have e2 : ((ev Φ e Δ).bind fun d => ((ev Φ e' Δ).bind fun d => (Res.ok []).bind fun ds => .ok (d :: ds)).bind fun ds => .ok (d :: ds)).bind (bi .listR2) = (ev Φ e Δ).bind fun d => (ev Φ e' Δ).bind fun d' => bi .listR2 [d, d'] := by
      cases ev Φ e Δ with
      | ok d => cases ev Φ e' Δ <;> rfl
      | ex c fs => rfl
      | bad => rfl
    rw [e2] at q
    obtain ⟨Δ', Z', hE', hz', q'⟩ := tE_bind hE hz q
    refine ⟨Δ', Z', hE', hz', q'.imp fun u H1 ⟨d, Z1, x1, rv, q1⟩ => ?_⟩
    obtain ⟨Δ2, Z2, hE2, hz2, q2⟩ := tE_bind (hE.mono x1.zz) x1.zh q1
    refine ⟨Δ2, Z2, hE2, hz2, q2.imp fun u2 H2 ⟨d2, Z3, x3, r3, q3⟩ => ?_⟩
    obtain ⟨a, rfl⟩ : ∃ a, d = .int a := by cases d <;> first | exact ⟨_, rfl⟩ | (cases d2 <;> simp only [bi, PostE_bad] at q3)
    obtain ⟨n, rfl⟩ : ∃ n, d2 = .int n := by cases d2 <;> first | exact ⟨_, rfl⟩ | simp only [bi, PostE_bad] at q3
    simp only [bi] at q3
    simp only [Rep] at rv r3
    refine ⟨a, n, rv, r3, ?_⟩
    split at q3
    · rename_i ho
      simp only [rngOk, Bool.and_eq_true, decide_eq_true_eq] at ho
      obtain ⟨o1, o2, o3, o4, o5⟩ := ho
      refine ⟨⟨o1, o2, o3, o4, by rw [LINE_eq] at o5; exact o5⟩, fun p hp => post_lst q3 x3.zh ?_ hp⟩
      have e3 : rng a n = ((List.range (n - a).toNat).map fun i => a + ((i : Nat) : Int)).map D.int := by unfold rng; rw [List.map_map]; rfl
      have e4 : rgV a n = ((List.range (n - a).toNat).map fun i => a + ((i : Nat) : Int)).map V.int := by unfold rgV; rw [List.map_map]; rfl
      rw [e3, e4]
      exact RepL.ofInts _
    · simp only [PostE_bad] at q3
  · exact absurd h Bool.false_ne_true
theorem snd_bi {b : Bi} {es : List E} (iha : SndA T W Φ k N es) : SndE T W Φ k N (.bi b es) := by
  have gen : ∀ {sc : Scope} {ex : Expr} {X : Cx} {Wx : WX}, Good T W Φ k N sc X → Takes X Wx → (match ex with
      | .Call (.Name f _) (x :: xs) [] _ => biNm b f (x :: xs).length && (gcdB T b && (glB sc f && chkEs T N sc es (x :: xs)))
      | _ => false) = true → PE X ex (tE W Φ (.bi b es) Wx) := by
    intro sc ex X Wx G tk h
    split at h
    · rename_i f p x xs pos
      rw [Bool.and_eq_true] at h; obtain ⟨h1, h⟩ := h
      rw [Bool.and_eq_true] at h; obtain ⟨h2, h⟩ := h
      rw [Bool.and_eq_true] at h; obtain ⟨h3, h⟩ := h
      obtain ⟨pa, hn⟩ := iha.es G tk h
      have nm : ∀ {g : PySem.Str} {n m : Nat}, (decide (f = g) && n == m) = true → f = g := fun h => de (ba h).1
      cases b with
      | len => have e := nm h1; subst e; exact calB G (len_ok G.hK) (by decide +kernel) (by decide +kernel) h3 pa hn
      | abs => have e := nm h1; subst e; exact calB G abs_ok (by decide +kernel) (by decide +kernel) h3 pa hn
      | int => have e := nm h1; subst e; exact calT G int_ok (by decide +kernel) (by decide +kernel) h3 pa hn
      | min1 => have e := nm h1; subst e; exact calB G (min1_ok G.hK G.calm) (by decide +kernel) (by decide +kernel) h3 pa hn
      | max1 => have e := nm h1; subst e; exact calB G (max1_ok G.hK G.calm) (by decide +kernel) (by decide +kernel) h3 pa hn
      | min2 => have e := nm h1; subst e; exact calB G (min2_ok G.calm) (by decide +kernel) (by decide +kernel) h3 pa hn
      | max2 => have e := nm h1; subst e; exact calB G (max2_ok G.calm) (by decide +kernel) (by decide +kernel) h3 pa hn
      | sum => have e := nm h1; subst e; exact calB G (sum_ok G.hK G.calm) (by decide +kernel) (by decide +kernel) h3 pa hn
      | tuple => have e := nm h1; subst e; exact calT G (tuple_ok G.hK) (by decide +kernel) (by decide +kernel) h3 pa hn
      | list => have e := nm h1; subst e; exact calT G (list_ok G.hK) (by decide +kernel) (by decide +kernel) h3 pa hn
      | listR1 => exact absurd h1 Bool.false_ne_true
      | listR2 => exact absurd h1 Bool.false_ne_true
      | sorted => have e := nm h1; subst e; exact calB G sorted_ok (by decide +kernel) (by decide +kernel) h3 pa hn
      | isinst t => exact absurd h1 Bool.false_ne_true
      | gcd => have e := nm h1; subst e; exact calG G h2 h3 pa hn
      | all => have e := nm h1; subst e; exact calB G (all_ok G.hK G.calm) (by decide +kernel) (by decide +kernel) h3 pa hn
    · exact absurd h Bool.false_ne_true
  intro sc ex X Wx G tk h
  cases b with
  | isinst t => exact snd_isi iha G tk h
  | listR1 => exact snd_lr1 iha G tk h
  | listR2 => exact snd_lr2 iha G tk h
  | _ => exact gen G tk (by rw [chkE_bi] at h; exact h)

/-! ### calls -/
theorem evs_len : ∀ {es : List E} {Δ : List (Option D)} {ds : List D}, evs Φ es Δ = .ok ds → ds.length = es.length
  | [], Δ, ds, h => by
    rw [evs_l0] at h
    injection h with h
    rw [← h]
    rfl
  | e :: es, Δ, ds, h => by
    rw [evs_cons1] at h
    cases q : ev Φ e Δ with
    | ok d =>
      rw [q] at h
      cases q2 : evs Φ es Δ with
      | ok r =>
        rw [q2] at h
        have h' : (Res.ok (d :: r) : Res (List D)) = .ok ds := h
        injection h' with h'
        rw [← h', List.length_cons, List.length_cons, evs_len q2]
      | ex c fs => rw [q2] at h; cases h
      | bad => rw [q2] at h; cases h
    | ex c fs => rw [q] at h; cases h
    | bad => rw [q] at h; cases h
theorem chk_len {sc : Scope} : ∀ {es : List E} {xs : List Expr}, chkEs T N sc es xs = true → es.length = xs.length
  | [], xs, h => by
    rw [chkEs_l0] at h
    rw [List.isEmpty_iff.mp h]
    rfl
  | e :: es, xs, h => by
    rw [chkEs_cons1] at h
    split at h
    · obtain ⟨h1, h2⟩ := ba h
      obtain ⟨h3, h4⟩ := ba h2
      rw [List.length_cons, List.length_cons, chk_len h4]
    · exact absurd h Bool.false_ne_true
theorem snd_call {f : Nat} {es : List E} (iha : SndA T W Φ k N es) : SndE T W Φ k N (.call f es) := by
  intro sc ex X Wx G tk h
  rw [chkE_call] at h
  split at h
  · rename_i x p y ys pos
    rw [Bool.and_eq_true] at h; obtain ⟨h1, h⟩ := h
    rw [Bool.and_eq_true] at h; obtain ⟨h2, h⟩ := h
    rw [Bool.and_eq_true] at h; obtain ⟨h3, h⟩ := h
    obtain ⟨pa, hn⟩ := iha.es G tk h
    have hf : T.fns[f]? = some (.glob x (y :: ys).length) := by
      unfold fnIs at h1
      split at h1
      · rename_i z n e
        obtain ⟨e1, e2⟩ := ba h1
        rw [e, de e1, de e2]
      · exact absurd h1 Bool.false_ne_true
    obtain ⟨a, fd, ps, hl, g, kp, F, bd⟩ := G.fn f x _ hf
    rw [← G.hK] at kp F bd
    refine (pe_callS F G.room (gl_of G.hsc h2) g kp bd (E := WE Wx) (passAt tk) pa (plainNm_of h3).1 (starEach_nst (hn y List.mem_cons_self) _ _) (any_star (fun z hz => hn z (List.mem_cons_of_mem _ hz)) _ _)).imp fun σ H Q ⟨Δ, Z, hE, hz, q⟩ => ?_
    rw [ev_call] at q
    refine ⟨Δ, Z, hE, hz, (PostE.bind (Rp := RepL W) q).imp fun vs H1 ⟨ds, Z1, q2, x1, rv, q1⟩ => ?_⟩
    refine ⟨?_, ds, Z1, x1.zh, rv, ?_⟩
    · rw [rv.length, evs_len q2, chk_len h, hl]
    · cases r : Φ f ds with
      | ok t =>
        rw [r] at q1
        intro v Z2 H2 as x2 rt fr nd
        have x3 := x2.add (as := as) fun b hb => (fr b hb).1
        exact q1 v _ _ x3 (rt.close x2.zh)
      | ex c fs => rw [r] at q1; exact q1
      | bad => rw [r] at q1; exact q1
  · exact absurd h Bool.false_ne_true
end
end R
end

section
set_option Elab.async false
set_option linter.all false
set_option maxRecDepth 100000
set_option maxHeartbeats 8000000
/-! R12: instances, comprehensions. -/
namespace R
open PySem PySem.Spec PyProof.Rows L2
theorem zip_lookup : ∀ {l : List PySem.Str} {vs : List V} {p : Nat} {f : PySem.Str} {v : V}, l.Nodup → l[p]? = some f → vs[p]? = some v → (l.zip vs).lookup f = some v
  | [], _, _, _, _, _, h, _ => by simp at h
  | _ :: _, [], _, _, _, _, _, h => by simp at h
  | g :: l, u :: vs, 0, f, v, nd, h1, h2 => by
    simp at h1 h2
    subst h1 h2
    simp [List.lookup]
  | g :: l, u :: vs, p + 1, f, v, nd, h1, h2 => by
    obtain ⟨n1, n2⟩ := List.nodup_cons.mp nd
    have h1' : l[p]? = some f := by simpa using h1
    have ne : (f == g) = false := by
      have : f ≠ g := fun e => n1 (e ▸ List.mem_of_getElem? h1')
      simpa using this
    show (((g, u) :: l.zip vs).lookup f) = some v
    unfold List.lookup
    rw [ne]
    exact zip_lookup n2 h1' (by simpa using h2)
theorem emptyTup_all : ∀ {a b : List D}, a.length = b.length → a.all emptyTup = true → b.all emptyTup = true → a = b
  | [], [], _, _, _ => rfl
  | [], _ :: _, h, _, _ => by simp at h
  | _ :: _, [], h, _, _ => by simp at h
  | x :: a, y :: b, h, h1, h2 => by
    rw [List.all_cons, Bool.and_eq_true] at h1 h2
    have e : ∀ z : D, emptyTup z = true → z = .tup [] := fun z h => by
      unfold emptyTup at h
      split at h
      · rfl
      · exact absurd h Bool.false_ne_true
    rw [e x h1.1, e y h2.1, emptyTup_all (by simpa using h) h1.2 h2.2]
section
variable {T : Th} {W : Wo} {Φ : Or} {k : Nat} {N : List PySem.Str}
theorem snd_fld {a : E} {c p : Nat} (iha : SndE T W Φ k N a) : SndE T W Φ k N (.fld a c p) := by
  intro sc ex X Wx G tk h
  rw [chkE_fld] at h
  split at h
  · rename_i x f pos
    rw [Bool.and_eq_true] at h; obtain ⟨h1, h⟩ := h
    rw [Bool.and_eq_true] at h; obtain ⟨h2, h⟩ := h
    obtain ⟨ci, hc, hp⟩ : ∃ ci, T.cls[c]? = some ci ∧ ci.flds[p]? = some f := by
      unfold fldIs at h1
      split at h1
      · exact ⟨_, by assumption, de h1⟩
      · exact absurd h1 Bool.false_ne_true
    have C := G.cls c ci hc
    refine (pe_fld (iha G tk h) (attrBase h2 _ _)).imp fun σ H Q ⟨Δ, Z, hE, hz, q⟩ => ?_
    rw [ev_fld] at q
    obtain ⟨Δ', Z', hE', hz', q'⟩ := tE_bind hE hz q
    refine ⟨Δ', Z', hE', hz', q'.imp fun u H1 ⟨d, Z1, x1, rv, q1⟩ => ?_⟩
    cases d <;> try exact q1.elim
    rename_i c' xs
    simp only at q1
    split at q1
    · rename_i e
      subst e
      split at q1
      · rename_i d e
        simp only [Rep] at rv
        obtain ⟨b, dx, vs, rfl, _, h5, _, h6⟩ := rv
        obtain ⟨v, e1, r⟩ := h6.get e
        rw [G.hK]
        refine ⟨b, W.cA c', dx, _, v, rfl, x1.zh _ _ h5, C.cl, C.na f (List.mem_of_getElem? hp), ?_, q1.ret x1.zh r⟩
        rw [C.fl]
        exact zip_lookup C.nd hp e1
      · simp only [PostE_bad] at q1
    · simp only [PostE_bad] at q1
  · exact absurd h Bool.false_ne_true
theorem snd_mk {c f : Nat} {es : List E} {df : List D} (iha : SndA T W Φ k N es) : SndE T W Φ k N (.mk c f es df) := by
  intro sc ex X Wx G tk h
  rw [chkE_mk] at h
  split at h
  · rename_i x p y ys pos
    rw [Bool.and_eq_true] at h; obtain ⟨h1, h⟩ := h
    rw [Bool.and_eq_true] at h; obtain ⟨h2, h⟩ := h
    rw [Bool.and_eq_true] at h; obtain ⟨h3, h⟩ := h
    obtain ⟨pa, hn⟩ := iha.es G tk h
    unfold mkIs at h1
    rw [Bool.and_eq_true] at h1
    obtain ⟨g1, g2⟩ := h1
    have hf : T.fns[f]? = some (.init c ((y :: ys).length + df.length + 1)) := by
      split at g1
      · rename_i c' n e
        obtain ⟨e1, e2⟩ := ba g1
        rw [e, de e1, de e2]
      · exact absurd g1 Bool.false_ne_true
    obtain ⟨ci, hc, g2⟩ : ∃ ci, T.cls[c]? = some ci ∧ (decide (ci.name = x) && (df.isEmpty || (df.length == ci.dfl.length && (ci.dfl.all emptyTup && df.all emptyTup)))) = true := by
      split at g2
      · exact ⟨_, by assumption, g2⟩
      · exact absurd g2 Bool.false_ne_true
    obtain ⟨g3, g4⟩ := ba g2
    have ex := de g3
    subst ex
    obtain ⟨fI, fd, ps, j, hj, hl, g, M, F, b0, ds0, dvs0, b1, v1, r1⟩ := G.mkc f c _ ci hf hc
    -- the defaults
    obtain ⟨ds', dvs', bd, vd, rd⟩ : ∃ ds dvs, Binds W.K fd ps ds ∧ Vals dvs ds ∧ ∀ Z, RepL W Z df dvs := by
      rcases Bool.or_eq_true _ _ ▸ g4 with g4 | g4
      · rw [List.isEmpty_iff.mp g4]
        exact ⟨[], [], b0, .nil, fun Z => .nil⟩
      · simp only [Bool.and_eq_true, beq_iff_eq] at g4
        rw [emptyTup_all g4.1 g4.2.2 g4.2.1]
        exact ⟨ds0, dvs0, b1, v1, r1⟩
    rw [← G.hK] at M F bd
    refine (pe_makeS M F (G.room.mono hj) (gl_of G.hsc h2) g bd vd (E := WE Wx) (passAt tk) pa (plainNm_of h3).1 (starEach_nst (hn y List.mem_cons_self) _ _) (any_star (fun z hz => hn z (List.mem_cons_of_mem _ hz)) _ _)).imp fun σ H Q ⟨Δ, Z, hE, hz, q⟩ => ?_
    rw [ev_mk] at q
    refine ⟨Δ, Z, hE, hz, (PostE.bind (Rp := RepL W) q).imp fun vs H1 ⟨ds, Z1, q2, x1, rv, q1⟩ => ?_⟩
    intro x dx hx hdx ne
    refine ⟨?_, x, dx, H1, vs ++ dvs', ds ++ df, Z1, rfl, rfl, hx, hdx, ne, x1.zh, rv.append (rd Z1), ?_⟩
    · rw [List.length_cons, List.length_append, rv.length, (rd Z1).length, evs_len q2, chk_len h, hl]
    · cases r : Φ f (ds ++ df) with
      | ok t =>
        rw [r] at q1
        cases t with
        | sh d => exact fun Z' H' x2 r2 => ⟨rfl, q1 _ Z' H' x2 r2⟩
        | ow ts => exact q1.elim
      | ex c fs => rw [r] at q1; exact q1
      | bad => rw [r] at q1; exact q1
  · exact absurd h Bool.false_ne_true

/-! ### what is walked -/
structure Walk (W : Wo) (J : It) (Z0 : Hp) (items : List D) : Prop where
  stop : ∀ i H, Same Z0 H → items.length ≤ i → J.stop i H
  go : ∀ (i : Nat) H d, Same Z0 H → items[i]? = some d → J.go i H
  yld : ∀ (i : Nat) H d x H' Z, Same Z0 Z → Same Z H → items[i]? = some d → J.yld i H x H' → ∃ Z2, Ext Z H Z2 H' ∧ Rep W Z2 d x
theorem Walk.mono {W : Wo} {J : It} {Z0 Z1 : Hp} {items : List D} (w : Walk W J Z0 items) (z : Same Z0 Z1) : Walk W J Z1 items :=
  ⟨fun i H s hi => w.stop i H (z.trans s) hi, fun i H d s e => w.go i H d (z.trans s) e, fun i H d x H' Z s h e y => w.yld i H d x H' Z (z.trans s) h e y⟩
/-- a range -/
def isRg : Sk → Bool
  | .r1 => true
  | .r2 => true
  | _ => false
def PostI (b : Bool) (W : Wo) (Z H : Hp) (r : Res (List D)) (R : It → Hp → Prop) (E : XK) : Prop := match r with
  | .ok items => ∀ J Z' H', Ext Z H Z' H' → Walk W J Z' items → (b = true → ∀ Zx, Walk W J Zx items) → R J H'
  | .ex c fs => ∀ dx Z' H', Ext Z H Z' H' → ExcR W Z' H' c fs dx → E (.ref (W.xA c)) dx H'
  | .bad => False
theorem PostI_bad {b : Bool} {Z H : Hp} {R : It → Hp → Prop} {E : XK} : PostI b W Z H .bad R E = False := rfl
theorem PostI.ext {b : Bool} {Z H Z1 H1 : Hp} {r : Res (List D)} {R : It → Hp → Prop} {E : XK} (h : PostI b W Z H r R E) (x : Ext Z H Z1 H1) : PostI b W Z1 H1 r R E := by
  cases r with
  | ok d => exact fun v Z' H' y q => h v Z' H' (x.trans y) q
  | ex c fs => exact fun dx Z' H' y q => h dx Z' H' (x.trans y) q
  | bad => exact h
def tI (W : Wo) (Φ : Or) (sk : Sk) (srcs : List E) (Wx : WX) : TI := fun σ H R => ∃ Δ Z, EnvOk W Z σ Δ ∧ Same Z H ∧ PostI (isRg sk) W Z H ((evs Φ srcs Δ).bind (srcR sk)) R fun c d H' => Wx c d σ H'
theorem walk_list {a : Addr} {vs : List V} {ds : List D} {Z0 : Hp} (h : SqL W.K Z0 a vs) (r : RepL W Z0 ds vs) : Walk W (Itl W.K a) Z0 ds where
  stop := fun i H z hi => ⟨vs, z.seq h, by rw [r.length]; exact hi⟩
  go := fun i H d z e => by
    obtain ⟨v, e1, _⟩ := r.get e
    exact ⟨vs, v, z.seq h, e1⟩
  yld := fun i H d x H' Z z1 z2 e y => by
    obtain ⟨rfl, y⟩ := y
    obtain ⟨v, e1, r1⟩ := r.get e
    have e2 := y vs ((z1.trans z2).seq h)
    rw [e1] at e2
    injection e2 with e2
    subst e2
    exact ⟨Z, Ext.refl z2, r1.mono z1⟩
theorem walk_tup {a : Addr} {vs : List V} {ds : List D} {Z0 : Hp} (h : SqT W.K Z0 a vs) (r : RepL W Z0 ds vs) : Walk W (Itt W.K a) Z0 ds where
  stop := fun i H z hi => ⟨vs, sqT_mono z h, by rw [r.length]; exact hi⟩
  go := fun i H d z e => by
    obtain ⟨v, e1, _⟩ := r.get e
    exact ⟨vs, v, sqT_mono z h, e1⟩
  yld := fun i H d x H' Z z1 z2 e y => by
    obtain ⟨rfl, y⟩ := y
    obtain ⟨v, e1, r1⟩ := r.get e
    have e2 := y vs (sqT_mono (z1.trans z2) h)
    rw [e1] at e2
    injection e2 with e2
    subst e2
    exact ⟨Z, Ext.refl z2, r1.mono z1⟩
theorem rng_length {a b : Int} : (rng a b).length = (b - a).toNat := by unfold rng; rw [List.length_map, List.length_range]
theorem walk_rng {a b : Int} {Z0 : Hp} : Walk W (Itr a (b - a).toNat) Z0 (rng a b) where
  stop := fun i H z hi => by rw [rng_length] at hi; exact hi
  go := fun i H d z e => by
    have := (List.getElem?_eq_some_iff.mp e).1
    rw [rng_length] at this
    exact this
  yld := fun i H d x H' Z z1 z2 e y => by
    obtain ⟨rfl, rfl⟩ := y
    have hi := (List.getElem?_eq_some_iff.mp e).1
    rw [rng_length] at hi
    have e2 : (rng a b)[i]? = some (D.int (a + (i : Nat))) := by
      unfold rng
      rw [List.getElem?_map, List.getElem?_range hi]
      rfl
    rw [e2] at e
    injection e with e
    subst e
    exact ⟨Z, Ext.refl z2, by simp only [Rep]⟩
theorem zipW_get {xs ys : List D} {i : Nat} {d : D} (h : (List.zipWith (fun x y => D.tup [x, y]) xs ys)[i]? = some d) : ∃ x y, xs[i]? = some x ∧ ys[i]? = some y ∧ d = .tup [x, y] := by
  rw [List.getElem?_zipWith] at h
  cases e1 : xs[i]? with
  | none => rw [e1] at h; cases h
  | some x =>
    cases e2 : ys[i]? with
    | none => rw [e1, e2] at h; cases h
    | some y =>
      rw [e1, e2] at h
      exact ⟨x, y, rfl, rfl, (Option.some.inj h).symm⟩
theorem rep_pair {Z H : Hp} {x y : D} {u v : V} {t : Addr} (z : Same Z H) (hn : H t = none) (r1 : Rep W Z x u) (r2 : Rep W Z y v) : Ext Z H (upd Z t (.tup [u, v])) (upd H t (.tup [u, v])) ∧ Rep W (upd Z t (.tup [u, v])) (.tup [x, y]) (.ref t) := by
  have e := (Ext.refl z).laid (o := .tup [u, v]) hn
  refine ⟨e, ?_⟩
  simp only [Rep]
  exact ⟨t, [u, v], rfl, .inl (.inl upd_same), .cons (r1.mono e.zz) (.cons (r2.mono e.zz) .nil)⟩
theorem walk_zipL {a b : Addr} {us vs : List V} {xs ys : List D} {Z0 : Hp} (h1 : Z0 a = some (.lst us)) (h2 : Z0 b = some (.lst vs)) (r1 : RepL W Z0 xs us) (r2 : RepL W Z0 ys vs) : Walk W (Itz W.K a b) Z0 (List.zipWith (fun x y => D.tup [x, y]) xs ys) where
  stop := fun i H z hi => ⟨us, vs, SqL.of (z _ _ h1), SqL.of (z _ _ h2), by rw [List.length_zipWith] at hi; rw [r1.length, r2.length]; omega⟩
  go := fun i H d z e => by
    obtain ⟨x, y, e1, e2, _⟩ := zipW_get e
    obtain ⟨u, f1, _⟩ := r1.get e1
    obtain ⟨v, f2, _⟩ := r2.get e2
    exact ⟨us, vs, u, v, SqL.of (z _ _ h1), SqL.of (z _ _ h2), f1, f2⟩
  yld := fun i H d x H' Z z1 z2 e y => by
    obtain ⟨T, u, v, rfl, hn, rfl, y1, y2⟩ := y
    obtain ⟨p, q, e1, e2, rfl⟩ := zipW_get e
    obtain ⟨u', f1, g1⟩ := r1.get e1
    obtain ⟨v', f2, g2⟩ := r2.get e2
    have k1 := y1 us (SqL.of ((z1.trans z2) _ _ h1))
    have k2 := y2 vs (SqL.of ((z1.trans z2) _ _ h2))
    rw [f1] at k1
    rw [f2] at k2
    injection k1 with k1
    injection k2 with k2
    subst k1 k2
    obtain ⟨m1, m2⟩ := rep_pair z2 hn (g1.mono z1) (g2.mono z1)
    exact ⟨_, m1, m2⟩
theorem walk_zipT {a b : Addr} {us vs : List V} {xs ys : List D} {Z0 : Hp} (h1 : SqT W.K Z0 a us) (h2 : SqT W.K Z0 b vs) (r1 : RepL W Z0 xs us) (r2 : RepL W Z0 ys vs) : Walk W (RZ.ItzT W.K a b) Z0 (List.zipWith (fun x y => D.tup [x, y]) xs ys) where
  stop := fun i H z hi => ⟨us, vs, sqT_mono z h1, sqT_mono z h2, by rw [List.length_zipWith] at hi; rw [r1.length, r2.length]; omega⟩
  go := fun i H d z e => by
    obtain ⟨x, y, e1, e2, _⟩ := zipW_get e
    obtain ⟨u, f1, _⟩ := r1.get e1
    obtain ⟨v, f2, _⟩ := r2.get e2
    exact ⟨us, vs, u, v, sqT_mono z h1, sqT_mono z h2, f1, f2⟩
  yld := fun i H d x H' Z z1 z2 e y => by
    obtain ⟨T, u, v, rfl, hn, rfl, y1, y2⟩ := y
    obtain ⟨p, q, e1, e2, rfl⟩ := zipW_get e
    obtain ⟨u', f1, g1⟩ := r1.get e1
    obtain ⟨v', f2, g2⟩ := r2.get e2
    have k1 := y1 us (sqT_mono (z1.trans z2) h1)
    have k2 := y2 vs (sqT_mono (z1.trans z2) h2)
    rw [f1] at k1
    rw [f2] at k2
    injection k1 with k1
    injection k2 with k2
    subst k1 k2
    obtain ⟨m1, m2⟩ := rep_pair z2 hn (g1.mono z1) (g2.mono z1)
    exact ⟨_, m1, m2⟩
/-- a source -/
theorem snd_src {sk : Sk} {tg : List Nat} {srcs : List E} (iha : SndA T W Φ k N srcs) {sc : Scope} {i t : Expr} {own : List (PySem.Str × Nat)} {X : Cx} {Wx : WX} (G : Good T W Φ k N sc X) (tk : Takes X Wx) (ht : tgB N own t tg = true) (h : chkI T N sc sk tg i srcs = true) :
    PI X t i (tI W Φ sk srcs Wx) := by
  have ho : ∀ {a : Int} {b : Int}, rngOk a b = true → -(2 ^ 62) ≤ a ∧ a < 2 ^ 62 ∧ -(2 ^ 62) ≤ b ∧ b < 2 ^ 62 := fun h => by
    simp only [rngOk, Bool.and_eq_true, decide_eq_true_eq] at h
    exact ⟨h.1, h.2.1, h.2.2.1, h.2.2.2.1⟩
  have imp : ∀ {wi wi' : TI}, PI X t i wi → (∀ σ H R, wi' σ H R → wi σ H R) → PI X t i wi' := fun p q => ⟨fun pins s σ H R I h => p.run pins s σ H R I (q σ H R h)⟩
  cases srcs with
  | nil => rw [chkI_l0] at h; exact absurd h Bool.false_ne_true
  | cons s r =>
    cases r with
    | nil =>
      rw [chkI_l1] at h
      have e1 : ∀ {f : List D → Res (List D)} {Δ : List (Option D)}, (evs Φ [s] Δ).bind f = (ev Φ s Δ).bind fun d => f [d] := fun {f Δ} => by
        rw [evs_cons1, evs_l0]
        cases ev Φ s Δ <;> rfl
      split at h
      · refine imp (R3.pi_seq (iha s List.mem_cons_self G tk h)) fun σ H R ⟨Δ, Z, hE, hz, q⟩ => ?_
        rw [e1] at q
        refine ⟨Δ, Z, hE, hz, ?_⟩
        cases r : ev Φ s Δ with
        | ok d =>
          rw [r] at q
          intro v Z' H' x rv
          have q := PostI.ext q x
          rw [G.hK]
          cases d <;> simp only [Res.bind_ok, srcR, D.seq, PostI_bad] at q
          · simp only [Rep] at rv
            obtain ⟨a, us, rfl, h2, h3⟩ := rv
            exact ⟨a, us, rfl, .inr ⟨sqT_mono x.zh h2, q _ _ _ (Ext.refl x.zh) (walk_tup h2 h3) (fun e => absurd e Bool.false_ne_true)⟩⟩
          · simp only [Rep] at rv
            obtain ⟨a, us, rfl, h2, h3⟩ := rv
            exact ⟨a, us, rfl, .inl ⟨SqL.of (x.zh _ _ h2), q _ _ _ (Ext.refl x.zh) (walk_list (SqL.of h2) h3) (fun e => absurd e Bool.false_ne_true)⟩⟩
          · simp only [Rep] at rv
            obtain ⟨a, us, rfl, h2, h3⟩ := rv
            exact ⟨a, us, rfl, .inl ⟨x.zh.seq h2, q _ _ _ (Ext.refl x.zh) (walk_list h2 h3) (fun e => absurd e Bool.false_ne_true)⟩⟩
        | ex c fs => rw [r] at q; exact q
        | bad => rw [r] at q; exact q
      · split at h
        · rename_i f p x pos
          rw [Bool.and_eq_true] at h; obtain ⟨h1, h⟩ := h
          rw [Bool.and_eq_true] at h; obtain ⟨h2, h⟩ := h
          rw [Bool.and_eq_true] at h; obtain ⟨h3, h⟩ := h
          have e := de h1
          subst e
          have hr : ("range" : PySem.Str) ∈ bNames := by decide +kernel
          refine imp (pi_range1 (gl_of G.hsc h2) (G.blt _ hr) (pa_cons (iha s List.mem_cons_self G tk h) pa_nil (starEach_nst h3 _ _)) (starEach_nst h3 _ _)) fun σ H R ⟨Δ, Z, hE, hz, q⟩ => ?_
          rw [e1] at q
          refine ⟨Δ, Z, hE, hz, ?_⟩
          cases r : ev Φ s Δ with
          | ok d =>
            rw [r] at q
            intro v Z' H' x rv
            have q := PostI.ext q x
            obtain ⟨n, rfl⟩ : ∃ n, d = .int n := by cases d <;> first | exact ⟨_, rfl⟩ | simp only [Res.bind_ok, srcR, PostI_bad] at q
            simp only [Res.bind_ok, srcR] at q
            simp only [Rep] at rv
            subst rv
            split at q
            · rename_i o
              obtain ⟨o1, o2, o3, o4⟩ := ho o
              have w : ∀ Zx, Walk W (Itr 0 n.toNat) Zx (rng 0 n) := fun Zx => by
                have := walk_rng (W := W) (a := 0) (b := n) (Z0 := Zx)
                rw [show n - 0 = n by omega] at this
                exact this
              exact ⟨n, rfl, o3, o4, q _ _ _ (Ext.refl x.zh) (w _) fun _ => w⟩
            · simp only [PostI_bad] at q
          | ex c fs => rw [r] at q; exact q
          | bad => rw [r] at q; exact q
        · exact absurd h Bool.false_ne_true
      · exact absurd h Bool.false_ne_true
    | cons s2 r2 =>
      cases r2 with
      | cons _ _ => rw [chkI_cons3] at h; exact absurd h Bool.false_ne_true
      | nil =>
        rw [chkI_l2] at h
        have e2 : ∀ {f : List D → Res (List D)} {Δ : List (Option D)}, (evs Φ [s, s2] Δ).bind f = (ev Φ s Δ).bind fun d => (ev Φ s2 Δ).bind fun d' => f [d, d'] := fun {f Δ} => by
          rw [evs_cons1, evs_cons1, evs_l0]
          cases ev Φ s Δ with
          | ok d => cases ev Φ s2 Δ <;> rfl
          | ex c fs => rfl
          | bad => rfl
        split at h
        · rename_i f p x y pos
          -- both values
          have both : ∀ {σ : L2.St} {H : Hp} {R : It → Hp → Prop}, tI W Φ sk [s, s2] Wx σ H R → tE W Φ s Wx σ H fun u H1 => tE W Φ s2 Wx σ H1 fun v H2 => ∃ d d' Z2, Same Z2 H2 ∧ Rep W Z2 d u ∧ Rep W Z2 d' v ∧ PostI (isRg sk) W Z2 H2 (srcR sk [d, d']) R fun c dd H' => Wx c dd σ H' := by
            intro σ H R ⟨Δ, Z, hE, hz, q⟩
            rw [e2] at q
            refine ⟨Δ, Z, hE, hz, ?_⟩
            cases r : ev Φ s Δ with
            | ok d =>
              rw [r] at q
              intro u Z' H' x ru
              have q := PostI.ext q x
              refine ⟨Δ, Z', hE.mono x.zz, x.zh, ?_⟩
              simp only [Res.bind_ok] at q
              cases r2 : ev Φ s2 Δ with
              | ok d' =>
                rw [r2] at q
                intro v Z2 H2 x2 rv
                exact ⟨d, d', Z2, x2.zh, ru.mono x2.zz, rv, PostI.ext q x2⟩
              | ex c fs => rw [r2] at q; exact q
              | bad => rw [r2] at q; exact q
            | ex c fs => rw [r] at q; exact q
            | bad => rw [r] at q; exact q
          split at h
          · rw [Bool.and_eq_true] at h; obtain ⟨h1, h⟩ := h
            rw [Bool.and_eq_true] at h; obtain ⟨h2, h⟩ := h
            rw [Bool.and_eq_true] at h; obtain ⟨h3, h⟩ := h
            rw [Bool.and_eq_true] at h; obtain ⟨h4, h⟩ := h
            rw [Bool.and_eq_true] at h; obtain ⟨h5, h⟩ := h
            have e := de h1
            subst e
            have hr : ("range" : PySem.Str) ∈ bNames := by decide +kernel
            refine imp (pi_range2 (gl_of G.hsc h2) (G.blt _ hr) (pa_cons (iha s List.mem_cons_self G tk h5) (pa_cons (iha s2 (List.mem_cons_of_mem _ List.mem_cons_self) G tk h) pa_nil (starEach_nst h4 _ _)) (starEach_nst h3 _ _)) (by rw [starEach_nst h3, starEach_nst h4]; rfl) (starEach_nst h4 _ _)) fun σ H R q => ?_
            obtain ⟨Δ, Z, hE, hz, q⟩ := both q
            refine ⟨Δ, Z, hE, hz, q.imp fun u H1 ⟨Δ2, Z2, hE2, hz2, q2⟩ => ⟨Δ2, Z2, hE2, hz2, q2.imp fun v H2 ⟨d, d', Z3, z3, ru, rv, q3⟩ => ?_⟩⟩
            obtain ⟨a, rfl⟩ : ∃ n, d = .int n := by cases d <;> first | exact ⟨_, rfl⟩ | (cases d' <;> simp only [srcR, PostI_bad] at q3)
            obtain ⟨b, rfl⟩ : ∃ n, d' = .int n := by cases d' <;> first | exact ⟨_, rfl⟩ | simp only [srcR, PostI_bad] at q3
            simp only [srcR] at q3
            simp only [Rep] at ru rv
            subst ru rv
            split at q3
            · rename_i o
              exact ⟨a, b, rfl, ho o, q3 _ _ _ (Ext.refl z3) walk_rng fun _ Zx => walk_rng⟩
            · simp only [PostI_bad] at q3
          · rw [Bool.and_eq_true] at h; obtain ⟨h0, h⟩ := h
            rw [Bool.and_eq_true] at h; obtain ⟨h1, h⟩ := h
            rw [Bool.and_eq_true] at h; obtain ⟨h2, h⟩ := h
            rw [Bool.and_eq_true] at h; obtain ⟨h3, h⟩ := h
            rw [Bool.and_eq_true] at h; obtain ⟨h4, h⟩ := h
            rw [Bool.and_eq_true] at h; obtain ⟨h5, h⟩ := h
            have e := de h1
            subst e
            have hr : ("zip" : PySem.Str) ∈ bNames := by decide +kernel
            obtain ⟨elts, kk, tpos, rfl⟩ : ∃ elts kk tpos, t = .Tuple elts kk tpos := by
              unfold tgB at ht
              split at ht
              · simp at h0
              · exact ⟨_, _, _, rfl⟩
              · exact absurd ht Bool.false_ne_true
            refine imp (RZ.pi_zipA (gl_of G.hsc h2) (G.blt _ hr) (pa_cons (iha s List.mem_cons_self G tk h5) (pa_cons (iha s2 (List.mem_cons_of_mem _ List.mem_cons_self) G tk h) pa_nil (starEach_nst h4 _ _)) (starEach_nst h3 _ _)) (starEach_nst h3 _ _) (any_star (fun z hz => by rw [List.mem_singleton.mp hz]; exact h4) _ _)) fun σ H R q => ?_
            obtain ⟨Δ, Z, hE, hz, q⟩ := both q
            refine ⟨Δ, Z, hE, hz, q.imp fun u H1 ⟨Δ2, Z2, hE2, hz2, q2⟩ => ⟨Δ2, Z2, hE2, hz2, q2.imp fun v H2 ⟨d, d', Z3, z3, ru, rv, q3⟩ => ?_⟩⟩
            rw [G.hK]
            cases d <;> cases d' <;> simp only [srcR, PostI_bad] at q3
            · simp only [Rep] at ru rv
              obtain ⟨a, us, rfl, m1, m2⟩ := ru
              obtain ⟨b, vs, rfl, m3, m4⟩ := rv
              exact ⟨a, b, us, vs, rfl, .inr ⟨sqT_mono z3 m1, sqT_mono z3 m3, q3 _ _ _ (Ext.refl z3) (walk_zipT m1 m3 m2 m4) (fun e => absurd e Bool.false_ne_true)⟩⟩
            · simp only [Rep] at ru rv
              obtain ⟨a, us, rfl, m1, m2⟩ := ru
              obtain ⟨b, vs, rfl, m3, m4⟩ := rv
              exact ⟨a, b, us, vs, rfl, .inl ⟨SqL.of (z3 _ _ m1), SqL.of (z3 _ _ m3), q3 _ _ _ (Ext.refl z3) (walk_zipL m1 m3 m2 m4) (fun e => absurd e Bool.false_ne_true)⟩⟩
          · exact absurd h Bool.false_ne_true
        · exact absurd h Bool.false_ne_true
end
end R
end

section
set_option Elab.async false
set_option linter.all false
set_option maxRecDepth 100000
set_option maxHeartbeats 8000000
/-! R13: comprehensions; every expression. -/
namespace R
open PySem PySem.Spec PyProof.Rows L2
theorem Res.bind_assoc {α β γ : Type} (r : Res α) (f : α → Res β) (g : β → Res γ) : (r.bind f).bind g = r.bind fun a => (f a).bind g := by cases r <;> rfl
section
variable {T : Th} {W : Wo} {Φ : Or} {k : Nat} {N : List PySem.Str}
/-! ### targets -/
def gOf (K : PySem.W.Frag) : List Nat → TG
  | [i] => gName i
  | [i, j] => gTup K 2 (gCons (gName i) (gCons (gName j) gNil))
  | _ => fun _ _ _ _ => False
theorem storeB_of {scope sc' : Scope} {own : List (PySem.Str × Nat)} (h : storeB scope sc' own = true) {p : PySem.Str × Nat} (hp : p ∈ own) : Loc sc' p.1 ∧ (scope.names.lookup p.1 = some .cell ∨ sc'.names.lookup p.1 = some .local) := by
  have q := List.all_eq_true.mp h p hp
  rcases Bool.or_eq_true _ _ ▸ q with q | q
  · unfold lclB at q
    split at q
    · exact ⟨.inl (by assumption), .inr (by assumption)⟩
    · exact absurd q Bool.false_ne_true
  · obtain ⟨q1, q2⟩ := ba q
    unfold celB at q1 q2
    split at q1
    · split at q2
      · exact ⟨.inr (by assumption), .inl (by assumption)⟩
      · exact absurd q2 Bool.false_ne_true
    · exact absurd q1 Bool.false_ne_true
/-- the target's rule -/
theorem pg_of {X : Cx} {t : Expr} {tg : List Nat} {own : List (PySem.Str × Nat)} (hN : X.N = N) (nd : List.Nodup N) (hc : X.calm = true) (hK : X.K = W.K) (h : tgB N own t tg = true)
    (hl : ∀ p ∈ own, Loc X.env.scope p.1 ∧ (X.fn p.1 = true ∨ X.env.scope.names.lookup p.1 = some .local)) : PG X t (gOf W.K tg) := by
  unfold tgB at h
  split at h
  · rename_i x p i
    obtain ⟨h1, h2⟩ := ba h
    have e := de h1
    subst e
    obtain ⟨l1, l2⟩ := hl (x, i) List.mem_cons_self
    exact pg_name (by rw [hN]; exact nd) (by rw [hN]; exact de h2) l1 l2
  · rename_i x p y p2 kk p3 i j
    obtain ⟨h1, h2⟩ := ba h
    obtain ⟨h2, h3⟩ := ba h2
    have e := de h1
    subst e
    obtain ⟨l1, l2⟩ := hl (x, i) List.mem_cons_self
    obtain ⟨l3, l4⟩ := hl (y, j) (List.mem_cons_of_mem _ List.mem_cons_self)
    have q := pg_tup (k := kk) (pos := p3) hc (pgs_cons (pg_name (pos := p) (by rw [hN]; exact nd) (by rw [hN]; exact de h2) l1 l2) (pgs_cons (pg_name (pos := p2) (by rw [hN]; exact nd) (by rw [hN]; exact de h3) l3 l4) pgs_nil)) (n := 2)
    rw [hK] at q
    exact q
  · exact absurd h Bool.false_ne_true
/-- its reading -/
theorem tg_read {tg : List Nat} {d : D} {x : V} {Δ Δ' : List (Option D)} {σ : L2.St} {Z H : Hp} {R : L2.St → Hp → Prop} (h : bindT tg d Δ = some Δ') (hE : EnvOk W Z σ Δ) (r : Rep W Z d x) (z : Same Z H)
    (go : ∀ σ2, EnvOk W Z σ2 Δ' → (∀ vs : List Nat, (∀ i ∈ tg, i ∈ vs) → L2.wipe σ2 vs = L2.wipe σ vs) → R σ2 H) : gOf W.K tg x σ H R := by
  unfold bindT at h
  split at h
  · rename_i i
    injection h with h
    subst h
    exact go _ (hE.set i r) fun vs hv => wipe_set (hv i List.mem_cons_self)
  · rename_i i j
    split at h
    · rename_i a b
      injection h with h
      subst h
      simp only [Rep] at r
      obtain ⟨t, us, rfl, h1, h2⟩ := r
      obtain ⟨u, v, rfl, r1, r2⟩ := h2.two
      refine ⟨t, [u, v], rfl, sqT_mono z h1, rfl, u, [v], rfl, v, [], rfl, rfl, go _ ((hE.set i r1).set j r2) fun vs hv => ?_⟩
      rw [wipe_set (hv j (List.mem_cons_of_mem _ List.mem_cons_self)), wipe_set (hv i List.mem_cons_self)]
    · cases h
  · cases h
theorem own_snd {t : Expr} {tg : List Nat} (h : tgB N (ownOf t tg) t tg = true) : (ownOf t tg).map (·.2) = tg := by
  unfold tgB at h
  split at h
  · rfl
  · rfl
  · exact absurd h Bool.false_ne_true

/-! ### the list that grows -/
structure CSt (W : Wo) (Z1 H1 : Hp) (p : Addr) (Z H : Hp) (av : List V) (ad : List D) : Prop where
  zz : Same Z1 Z
  zh : Same Z H
  new : ∀ a o, Z a = some o → Z1 a = some o ∨ H1 a = none
  hh : Same H1 H
  at_ : H p = some (.lst av)
  zD : Z p = none
  rep : RepL W Z ad av
section
variable {Z1 H1 Z H Z' H' : Hp} {p : Addr} {av : List V} {ad : List D}
theorem CSt.ext (s : CSt W Z1 H1 p Z H av ad) (x : Ext Z H Z' H') : CSt W Z1 H1 p Z' H' av ad := by
  refine ⟨s.zz.trans x.zz, x.zh, fun a o e => ?_, s.hh.trans x.hh, x.hh _ _ s.at_, ?_, s.rep.mono x.zz⟩
  · rcases x.new a o e with h | h
    · exact s.new a o h
    · exact .inr (s.hh.free h)
  · cases e : Z' p with
    | none => rfl
    | some o =>
      rcases x.new p o e with h | h
      · rw [s.zD] at h; cases h
      · rw [s.at_] at h; cases h
theorem CSt.push (s : CSt W Z1 H1 p Z H av ad) (hp : H1 p = none) {y : D} {v : V} (r : Rep W Z y v) : CSt W Z1 H1 p Z (upd H p (.lst (av ++ [v]))) (av ++ [v]) (ad ++ [y]) := by
  refine ⟨s.zz, fun b o e => ?_, s.new, fun b o e => ?_, upd_same, s.zD, s.rep.append (.cons r .nil)⟩
  · rw [upd_ne (ne_of_none e s.zD)]
    exact s.zh _ _ e
  · rw [upd_ne (ne_of_none e hp)]
    exact s.hh _ _ e
theorem CSt.start (z : Same Z1 H1) (hp : H1 p = none) : CSt W Z1 H1 p Z1 (upd H1 p (.lst [])) [] [] := by
  have zp : Z1 p = none := by
    cases e : Z1 p with
    | none => rfl
    | some o => have := z _ _ e; rw [hp] at this; cases this
  exact ⟨Same.refl _, fun b o e => by rw [upd_ne (ne_of_none e zp)]; exact z _ _ e, fun a o e => .inl e, same_upd hp, upd_same, zp, .nil⟩
theorem CSt.fin (s : CSt W Z1 H1 p Z H av ad) (hp : H1 p = none) : Ext Z1 H1 (upd Z p (.lst av)) H ∧ Rep W (upd Z p (.lst av)) (.lst ad) (.ref p) := by
  refine ⟨⟨s.hh, s.zz.trans (same_upd s.zD), fun b o e => ?_, fun b o e => ?_⟩, ?_⟩
  · by_cases hb : b = p
    · subst hb; rw [upd_same] at e; rw [← e]; exact s.at_
    · rw [upd_ne hb] at e; exact s.zh _ _ e
  · by_cases hb : b = p
    · subst hb; exact .inr hp
    · rw [upd_ne hb] at e; exact s.new _ _ e
  · simp only [Rep]
    exact ⟨p, av, rfl, upd_same, s.rep.mono (same_upd s.zD)⟩
end
def prO {α : Type} (pr : α → List D) : Option α → List D
  | some a => pr a
  | none => []
theorem mapR_cons {α : Type} {f : D → Res (Option α)} {d : D} {ds : List D} {ys : List α} (h : mapR f (d :: ds) = .ok ys) : ∃ o zs, f d = .ok o ∧ mapR f ds = .ok zs ∧ ∀ pr : α → List D, ys.flatMap pr = prO pr o ++ zs.flatMap pr := by
  unfold mapR at h
  cases e : f d with
  | ok o =>
    rw [e] at h
    cases e2 : mapR f ds with
    | ok zs =>
      rw [e2] at h
      refine ⟨o, zs, rfl, rfl, fun pr => ?_⟩
      cases o with
      | none =>
        have h' : Res.ok zs = Res.ok ys := h
        injection h' with h'
        rw [← h']
        rfl
      | some y =>
        have h' : Res.ok (y :: zs) = Res.ok ys := h
        injection h' with h'
        rw [← h', List.flatMap_cons]
        rfl
    | ex c fs => rw [e2] at h; cases h
    | bad => rw [e2] at h; cases h
  | ex c fs => rw [e] at h; cases h
  | bad => rw [e] at h; cases h
/-- a loop that fills the list -/
theorem loop_core {α : Type} {J : It} {Zw Z1 H1 : Hp} {p : Addr} {items : List D} {f : D → Res (Option α)} {pr : α → List D} {total ad0 : List D} {av0 : List V} {Z0 H0 : Hp} {os0 : List α} {Fin : Hp → Prop} {Body : V → Hp → (Hp → Prop) → Prop}
    (wk : Walk W J Zw items) (hw : Same Zw Z0) (hf : mapR f items = .ok os0) (ht : total = ad0 ++ os0.flatMap pr) (hL : total.length ≤ LINE) (s0 : CSt W Z1 H1 p Z0 H0 av0 ad0)
    (turn : ∀ (d : D) (o : Option α), f d = .ok o → ∀ Z H av ad, CSt W Z1 H1 p Z H av ad → Same Zw Z → ad.length + (prO pr o).length ≤ LINE → ∀ x H' Z', Ext Z H Z' H' → Rep W Z' d x → ∀ Nx : Hp → Prop,
      (∀ Z3 H3 av3, CSt W Z1 H1 p Z3 H3 av3 (ad ++ prO pr o) → Same Zw Z3 → Nx H3) → Body x H' Nx)
    (fin : ∀ Z H av, CSt W Z1 H1 p Z H av total → Fin H) :
    ∃ Wd : Nat → Nat → Hp → Prop, (∃ m, Wd 0 m H0) ∧ ∀ i m H, Wd i m H → (J.stop i H ∧ Fin H) ∨ (J.go i H ∧ ∃ Nx : Hp → Prop, (∀ H', Nx H' → ∃ m', m' < m ∧ Wd (i + 1) m' H') ∧ ∀ x H', J.yld i H x H' → Body x H' Nx) := by
  refine ⟨fun i m H => m = items.length - i ∧ i ≤ items.length ∧ ∃ Z av ad os, CSt W Z1 H1 p Z H av ad ∧ Same Zw Z ∧ mapR f (items.drop i) = .ok os ∧ total = ad ++ os.flatMap pr, ⟨items.length, rfl, Nat.zero_le _, Z0, av0, ad0, os0, s0, hw, hf, ht⟩, ?_⟩
  rintro i m H ⟨rfl, hi, Z, av, ad, os, s, zw, hm, hT⟩
  by_cases hlt : i < items.length
  · have hd : items[i]? = some items[i] := List.getElem?_eq_getElem hlt
    rw [List.drop_eq_getElem_cons hlt] at hm
    obtain ⟨o, zs, e1, e2, e3⟩ := mapR_cons hm
    refine .inr ⟨wk.go i H _ (zw.trans s.zh) hd, fun H' => ∃ Z av, CSt W Z1 H1 p Z H' av (ad ++ prO pr o) ∧ Same Zw Z, fun H' ⟨Z', av', s', zw'⟩ => ⟨items.length - (i + 1), by omega, rfl, hlt, Z', av', _, zs, s', zw', e2, ?_⟩, fun x H' y => ?_⟩
    · rw [hT, e3, List.append_assoc]
    · obtain ⟨Z2, x2, r2⟩ := wk.yld i H _ x H' Z zw s.zh hd y
      refine turn _ o e1 Z H av ad s zw ?_ x H' Z2 x2 r2 _ fun Z3 H3 av3 s3 z3 => ⟨Z3, av3, s3, z3⟩
      have : total.length = ad.length + ((prO pr o).length + (zs.flatMap pr).length) := by rw [hT, e3, List.length_append, List.length_append]
      omega
  · have e : i = items.length := by omega
    subst e
    rw [List.drop_length] at hm
    have e0 : os = [] := by
      have h' : (Res.ok [] : Res (List α)) = .ok os := hm
      injection h' with h'
      exact h'.symm
    subst e0
    rw [List.flatMap_nil, List.append_nil] at hT
    subst hT
    exact .inl ⟨wk.stop _ H (zw.trans s.zh) (Nat.le_refl _), fin Z H av s⟩

theorem noEx_ok {α : Type} {r : Res α} {a : α} (h : noEx r = .ok a) : r = .ok a := by
  cases r with
  | ok b => exact h
  | ex c fs => cases h
  | bad => cases h
abbrev W0 : WX := fun _ _ _ _ => False
theorem snd_conds {conds : List E} (ih : ∀ c ∈ conds, SndT T W Φ k N c) {sc : Scope} {ifs : List Expr} {X : Cx} {Wx : WX} (G : Good T W Φ k N sc X) (tk : Takes X Wx) (h : chkC T N sc ifs conds = true) : PTs X ifs (tTs W Φ conds Wx) := by
  cases conds with
  | nil =>
    rw [chkC_l0] at h
    rw [List.isEmpty_iff.mp h]
    exact ⟨fun pins s σ H Q I ⟨Δ, Z, hE, hz, q⟩ => pts_nil.run pins s σ H Q I (PostE.ret (W := W) (Rp := RepB) (d := true) q hz rfl)⟩
  | cons c r =>
    cases r with
    | cons _ _ => rw [chkC_cons2] at h; exact absurd h Bool.false_ne_true
    | nil =>
      rw [chkC_l1] at h
      split at h
      · obtain ⟨h1, h2⟩ := ba h
        refine ⟨fun pins s σ H Q I ⟨Δ, Z, hE, hz, q⟩ => (pts_one (ih c List.mem_cons_self G tk h1 h2)).run pins s σ H Q I ⟨Δ, Z, hE, hz, ?_⟩⟩
        rw [evc_cons1, evc_l0] at q
        cases e : tob (ev Φ c Δ) with
        | ok b =>
          rw [e] at q
          cases b <;> exact q
        | ex cc fs => rw [e] at q; exact q
        | bad => rw [e] at q; exact q
      · exact absurd h Bool.false_ne_true
theorem Good.blkOk {sc scope : Scope} {own : List (PySem.Str × Nat)} {X : Cx} (G : Good T W Φ k N sc X) (h : blkC N sc scope own = true) : BlkOk X.N X.env.scope scope own := by
  rw [G.hN, G.hsc]
  exact blkOk_by h
/-- in the block -/
theorem pg_blk {sc scope : Scope} {own ow1 : List (PySem.Str × Nat)} {t : Expr} {tg : List Nat} {X : Cx} (G : Good T W Φ k N sc X) (h : tgB N ow1 t tg = true) (hs : storeB scope (relS scope sc) own = true) (hsub : ∀ p ∈ ow1, p ∈ own) (s : Shared) (H : Hp) (C : Addr) (cl : List (PySem.Str × Addr)) (fp : List Addr) :
    PG (X.blk s H scope (compEnvC scope cl C X.env) fp) t (gOf W.K tg) := by
  have B := G.blk s H scope C cl fp
  refine pg_of B.hN B.nd B.calm B.hK h fun p hp => ?_
  obtain ⟨l1, l2⟩ := storeB_of hs (hsub p hp)
  refine ⟨by rw [B.hsc]; exact l1, ?_⟩
  rcases l2 with l2 | l2
  · refine .inl ?_
    show (scope.names.lookup p.1 == some .cell) = true
    rw [l2]
    rfl
  · refine .inr ?_
    rw [B.hsc]
    exact l2
/-- what is wanted behind a comprehension: the list as it was filled, not yet read -/
def PostC (W : Wo) (Z H : Hp) (r : Res (List D)) (Q : VK) (E : XK) : Prop := match r with
  | .ok ys => ∀ Z1 H1 p av Z' H', Ext Z H Z1 H1 → H1 p = none → CSt W Z1 H1 p Z' H' av ys → Q (.ref p) H'
  | .ex c fs => ∀ dx Z' H', Ext Z H Z' H' → ExcR W Z' H' c fs dx → E (.ref (W.xA c)) dx H'
  | .bad => False
theorem PostC_bad {Z H : Hp} {Q : VK} {E : XK} : PostC W Z H .bad Q E = False := rfl
theorem PostC.ext {Z H Z1 H1 : Hp} {r : Res (List D)} {Q : VK} {E : XK} (h : PostC W Z H r Q E) (x : Ext Z H Z1 H1) : PostC W Z1 H1 r Q E := by
  cases r with
  | ok d => exact fun Z2 H2 p av Z' H' y hp s => h Z2 H2 p av Z' H' (x.trans y) hp s
  | ex c fs => exact fun dx Z' H' y q => h dx Z' H' (x.trans y) q
  | bad => exact h
/-- the list that a comprehension fills -/
def evC (Φ : Or) (sk : Sk) (tg : List Nat) (srcs conds : List E) (elt : E) (Δ : List (Option D)) : Res (List D) := ((evs Φ srcs Δ).bind (srcR sk)).bind fun items =>
    (noEx (mapR (fun x => match bindT tg x (wipe Δ tg) with
      | none => .bad
      | some Δ' => (evc Φ conds Δ').bind fun b => if b then (ev Φ elt Δ').bind fun d => .ok (some d) else .ok none) items)).bind fun ys => if ys.length ≤ LINE then .ok ys else .bad
theorem ev_compC {sk : Sk} {tg : List Nat} {srcs conds : List E} {elt : E} {Δ : List (Option D)} : ev Φ (.comp sk tg srcs conds elt) Δ = (evC Φ sk tg srcs conds elt Δ).bind fun ys => .ok (.lst ys) := by
  rw [ev_comp, ← Res.bind_assoc]
  unfold evC
  cases (evs Φ srcs Δ).bind (srcR sk) with
  | ok items =>
    simp only [Res.bind_ok]
    generalize noEx _ = mr
    cases mr with
    | ok ys => simp only [Res.bind_ok]; split <;> rfl
    | ex c fs => rfl
    | bad => rfl
  | ex c fs => rfl
  | bad => rfl
def tC (W : Wo) (Φ : Or) (sk : Sk) (tg : List Nat) (srcs conds : List E) (elt : E) (Wx : WX) : TE := fun σ H Q => ∃ Δ Z, EnvOk W Z σ Δ ∧ Same Z H ∧ PostC W Z H (evC Φ sk tg srcs conds elt Δ) Q fun c d H' => Wx c d σ H'
/-- the comprehension's rule, read -/
theorem comp_read {sk : Sk} {tg : List Nat} {srcs conds : List E} {elt : E} {Wx : WX} {σ : L2.St} {H : Hp} {Q : VK} (h : tC W Φ sk tg srcs conds elt Wx σ H Q) : tLc (tI W Φ sk srcs Wx) (gOf W.K tg) (tTs W Φ conds W0) (tE W Φ elt W0) tg σ H Q := by
  obtain ⟨Δ, Z, hE, hz, q⟩ := h
  unfold evC at q
  refine ⟨Δ, Z, hE, hz, ?_⟩
  cases e : (evs Φ srcs Δ).bind (srcR sk) with
  | ex c fs => rw [e] at q; exact q
  | bad => rw [e] at q; exact q
  | ok items =>
    rw [e] at q
    intro J Z1 H1 x1 wk _ p hp
    have q := PostC.ext q x1
    simp only [Res.bind_ok] at q
    revert q
    generalize hm : noEx (mapR _ items) = mr
    intro q
    cases mr with
    | ex c fs => cases hh : mapR _ items <;> rw [hh] at hm <;> cases hm
    | bad => exact q.elim
    | ok ys =>
      have hm := noEx_ok hm
      simp only [Res.bind_ok] at q
      split at q
      · rename_i hl
        have ef : ys.flatMap (fun y => [y]) = ys := by simp
        refine loop_core (total := ys) (ad0 := []) (av0 := []) (pr := fun y => [y]) (p := p) wk (Same.refl _) hm (by rw [ef]; rfl) hl (CSt.start x1.zh hp) ?_ fun Z2 H2 av s => ?_
        · intro d o hfd Z2 H2 av ad s zw hlen x H' Z' x2 rx Nx nx
          have s' := s.ext x2
          cases eb : bindT tg d (wipe Δ tg) with
          | none => rw [eb] at hfd; cases hfd
          | some Δ' =>
            rw [eb] at hfd
            simp only at hfd
            refine tg_read eb ((((hE.mono x1.zz).mono s.zz).mono x2.zz).wipe tg) rx x2.zh fun σ2 hE2 hw => ⟨?_, ?_⟩
            · rw [hw tg (fun _ h => h)]
              exact wipe_wipe fun _ h => h
            · refine ⟨Δ', Z', hE2, x2.zh, ?_⟩
              cases ec : evc Φ conds Δ' with
              | ex c fs => rw [ec] at hfd; cases hfd
              | bad => rw [ec] at hfd; cases hfd
              | ok b =>
                rw [ec] at hfd
                intro c Z3 H3 x3 rc
                obtain rfl : c = b := rc
                have s3 := s'.ext x3
                cases c with
                | false =>
                  simp only [Res.bind_ok, Bool.false_eq_true, if_false] at hfd
                  injection hfd with hfd
                  subst hfd
                  exact nx Z3 H3 av (by simpa [prO] using s3) ((zw.trans x2.zz).trans x3.zz)
                | true =>
                  simp only [Res.bind_ok, if_true] at hfd
                  refine ⟨Δ', Z3, hE2.mono x3.zz, x3.zh, ?_⟩
                  cases ed : ev Φ elt Δ' with
                  | ex c fs => rw [ed] at hfd; cases hfd
                  | bad => rw [ed] at hfd; cases hfd
                  | ok y =>
                    rw [ed] at hfd
                    simp only [Res.bind_ok] at hfd
                    injection hfd with hfd
                    subst hfd
                    intro v Z4 H4 x4 rv
                    have s4 := s3.ext x4
                    refine ⟨av, s4.at_, ?_, nx Z4 _ _ (s4.push hp rv) (((zw.trans x2.zz).trans x3.zz).trans x4.zz)⟩
                    have l1 := s4.rep.length
                    rw [LINE_eq] at hlen
                    simp only [prO, List.length_singleton] at hlen
                    omega
        · exact q _ _ _ _ _ _ (Ext.refl x1.zh) hp s
      · simp only [PostC_bad] at q
theorem gen_comp {sk : Sk} {tg : List Nat} {srcs conds : List E} {elt : E} (ihs : SndA T W Φ k N srcs) (ihc : ∀ c ∈ conds, SndT T W Φ k N c) (ihe : SndE T W Φ k N elt) {sc : Scope} {ex : Expr} {X : Cx} {Wx : WX} (G : Good T W Φ k N sc X) (tk : Takes X Wx)
    (h : chkE T N sc (.comp sk tg srcs conds elt) ex = true) : PE X ex (tC W Φ sk tg srcs conds elt Wx) := by
  rw [chkE_comp] at h
  split at h
  · rename_i el t i ifs scope pos
    rw [Bool.and_eq_true] at h; obtain ⟨h1, h⟩ := h
    rw [Bool.and_eq_true] at h; obtain ⟨h2, h⟩ := h
    rw [Bool.and_eq_true] at h; obtain ⟨h3, h⟩ := h
    rw [Bool.and_eq_true] at h; obtain ⟨h4, h⟩ := h
    rw [Bool.and_eq_true] at h; obtain ⟨h5, h⟩ := h
    rw [Bool.and_eq_true] at h; obtain ⟨h6, h⟩ := h
    have hv := own_snd h1
    have hpe := pe_lc (pos := pos) G.calm (by rw [G.hN]; exact G.nd) (snd_src ihs G tk h1 h4) (G.blkOk h2) (fun s H C cl fp => pg_blk G h1 h3 (fun p hp => hp) s H C cl fp)
      (fun s H C cl fp => snd_conds ihc (G.blk s H scope C cl fp) (takes0 : Takes _ W0) h5) (fun s H C cl fp => ihe (G.blk s H scope C cl fp) (takes0 : Takes _ W0) h) (fun x => noFold h6 _ x)
    rw [hv] at hpe
    exact hpe.imp fun σ H Q q => comp_read q
  · exact absurd h Bool.false_ne_true
theorem snd_comp {sk : Sk} {tg : List Nat} {srcs conds : List E} {elt : E} (ihs : SndA T W Φ k N srcs) (ihc : ∀ c ∈ conds, SndT T W Φ k N c) (ihe : SndE T W Φ k N elt) : SndE T W Φ k N (.comp sk tg srcs conds elt) := by
  intro sc ex X Wx G tk h
  refine (gen_comp ihs ihc ihe G tk h).imp fun σ H Q ⟨Δ, Z, hE, hz, q⟩ => ⟨Δ, Z, hE, hz, ?_⟩
  rw [ev_compC] at q
  cases e : evC Φ sk tg srcs conds elt Δ with
  | ok ys =>
    rw [e] at q
    intro Z1 H1 p av Z' H' x hp s
    obtain ⟨m1, m2⟩ := s.fin hp
    exact q _ _ _ (x.trans m1) m2
  | ex c fs => rw [e] at q; exact q
  | bad => rw [e] at q; exact q
end
end R
end

section
set_option Elab.async false
set_option linter.all false
set_option maxRecDepth 100000
set_option maxHeartbeats 8000000
/-! R14: every expression. -/
namespace R
open PySem PySem.Spec PyProof.Rows L2
def plainT : Expr → Bool
  | .Name _ _ => true | .Constant _ _ _ => true | .Tuple _ _ _ => true | .List _ _ => true | .BinOp _ _ _ _ => true | .Subscript _ _ _ => true | .Call _ _ _ _ => true | .Attribute _ _ _ => true | .ListComp _ _ _ _ => true
  | _ => false
theorem plainT_is {e : Expr} (h : plainT e = true) (env : Env) (whole : Sem Value) : isTrue e env whole = (do let v ← whole; standAt e.pos; holding [v] (truthy v)) := by
  cases e <;> first | rfl | exact absurd h Bool.false_ne_true
/-- its text is of those forms -/
def leafE : E → Bool
  | .op _ _ _ => false | .un _ _ => false | .not _ => false | .and _ _ => false | .or _ _ => false | .ite _ _ _ => false | .meth _ _ _ _ => false | .prop _ _ _ => false | .comp2 _ _ _ _ _ _ _ _ _ => false
  | _ => true
section
variable {T : Th} {W : Wo} {Φ : Or} {k : Nat} {N : List PySem.Str}
theorem leaf_plain {sc : Scope} {e : E} {ex : Expr} (hl : leafE e = true) (h : chkE T N sc e ex = true) : plainT ex = true := by
  cases e <;> first | exact absurd hl Bool.false_ne_true | skip
  case bi b es =>
    rw [chkE_bi] at h
    cases b <;> cases ex <;> first | rfl | exact absurd h Bool.false_ne_true
  all_goals cases ex <;> first | rfl | exact absurd h Bool.false_ne_true
theorem leaf_noBool {sc : Scope} {e : E} (hl : (match e with | .and _ _ => false | .or _ _ => false | _ => true) = true) (o : BoolOp) (xs : List Expr) (p : Pos) : chkE T N sc e (.BoolOp o xs p) = false := by
  cases e <;> first | exact absurd hl Bool.false_ne_true | skip
  case bi b es => cases b <;> rfl
  all_goals rfl
theorem sndT_leaf {e : E} (hl : leafE e = true) (h : SndE T W Φ k N e) : SndT T W Φ k N e := fun G tk _ hc => pt_of (h G tk hc) (plainT_is (leaf_plain hl hc) _)
theorem sndW_none {e : E} (hl : (match e with | .and _ _ => false | .or _ _ => false | _ => true) = true) : SndW T W Φ k N e := fun {sc o xs p X Wx} _ _ _ hc => by
  rw [leaf_noBool hl] at hc
  exact absurd hc Bool.false_ne_true
structure Snd (T : Th) (W : Wo) (Φ : Or) (k : Nat) (N : List PySem.Str) (x : E) : Prop where
  e : SndE T W Φ k N x
  t : SndT T W Φ k N x
  w : SndW T W Φ k N x
theorem Snd.leaf {e : E} (hl : leafE e = true) (h : SndE T W Φ k N e) : Snd T W Φ k N e := ⟨h, sndT_leaf hl h, sndW_none (by cases e <;> first | rfl | exact hl)⟩
theorem Snd.none {e : E} (h : ∀ (sc : Scope) (ex : Expr), chkE T N sc e ex = false) : Snd T W Φ k N e :=
  ⟨fun {sc ex X Wx} _ _ hc => by rw [h] at hc; exact absurd hc Bool.false_ne_true, fun {sc ex X Wx} _ _ _ hc => by rw [h] at hc; exact absurd hc Bool.false_ne_true, fun {sc o xs p X Wx} _ _ _ hc => by rw [h] at hc; exact absurd hc Bool.false_ne_true⟩
mutual
theorem snd : ∀ e : E, Snd T W Φ k N e
  | .var i => .leaf rfl (snd_var i)
  | .non => .leaf rfl snd_non
  | .bl b => .leaf rfl (snd_bl b)
  | .int z => .leaf rfl (snd_int z)
  | .str s => .leaf rfl (snd_str s)
  | .tup es => .leaf rfl (snd_tup (SndA.es fun e h => (snds es e h).e))
  | .lst es => .leaf rfl (snd_lst (SndA.es fun e h => (snds es e h).e))
  | .op o a b => ⟨snd_op (snd a).e (snd b).e, sndT_op (snd a).e (snd b).e, sndW_none rfl⟩
  | .un o a => ⟨snd_un (snd a).e, sndT_un (snd a).e, sndW_none rfl⟩
  | .not a => ⟨snd_not (snd a).e, sndT_not (snd a).t, sndW_none rfl⟩
  | .and a b => ⟨snd_and (snd a).e (snd b).e, sndT_and (sndW_and (snd a).t (snd b).t (snd b).w), sndW_and (snd a).t (snd b).t (snd b).w⟩
  | .or a b => ⟨snd_or (snd a).e (snd b).e, sndT_or (sndW_or (snd a).t (snd b).t (snd b).w), sndW_or (snd a).t (snd b).t (snd b).w⟩
  | .ite c a b => ⟨snd_ite (snd c).t (snd a).e (snd b).e, fun {sc ex X Wx} _ _ hc => absurd hc Bool.false_ne_true, sndW_none rfl⟩
  | .idx a i => .leaf rfl (snd_idx (snd a).e (snd i).e)
  | .slc a l h => .leaf rfl (snd_slc (snd a).e (snd l).e (snd h).e)
  | .slo a l => .leaf rfl (snd_slo (snd a).e (snd l).e)
  | .shi a h => .leaf rfl (snd_shi (snd a).e (snd h).e)
  | .bi b es => .leaf rfl (snd_bi fun e h => (snds es e h).e)
  | .call f es => .leaf rfl (snd_call fun e h => (snds es e h).e)
  | .mk c f es df => .leaf rfl (snd_mk fun e h => (snds es e h).e)
  | .fld a c p => .leaf rfl (snd_fld (snd a).e)
  | .meth a c f es => .none fun _ _ => rfl
  | .prop a c f => .none fun _ _ => rfl
  | .bits a => .leaf rfl (snd_bits (snd a).e)
  | .comp sk tg srcs conds elt => .leaf rfl (snd_comp (fun e h => (snds srcs e h).e) (fun e h => (snds conds e h).t) (snd elt).e)
  | .comp2 sk tg srcs conds sk2 tg2 srcs2 conds2 elt => .none fun _ _ => rfl
theorem snds : ∀ es : List E, ∀ e ∈ es, Snd T W Φ k N e
  | [], e, h => by cases h
  | x :: xs, e, h => (List.mem_cons.mp h).elim (fun q => q ▸ snd x) fun q => snds xs e q
end

/-! ### a list of the frame's own -/
/-- what is wanted behind a display or a comprehension that is bound as the frame's own list -/
def PostO (W : Wo) (Z H : Hp) (r : Res (List D)) (Q : VK) (E : XK) : Prop := match r with
  | .ok ds => ∀ p vs Z' H', Ext Z H Z' H' → Z' p = none → H p = none → H' p = some (.lst vs) → RepL W Z' ds vs → Q (.ref p) H'
  | .ex c fs => ∀ dx Z' H', Ext Z H Z' H' → ExcR W Z' H' c fs dx → E (.ref (W.xA c)) dx H'
  | .bad => False
theorem PostO_bad {Z H : Hp} {Q : VK} {E : XK} : PostO W Z H .bad Q E = False := rfl
/-- the list that e makes -/
def evO (Φ : Or) : E → List (Option D) → Res (List D)
  | .lst es, Δ => (evs Φ es Δ).bind fun ds => if ds.length ≤ LINE then .ok ds else .bad
  | .comp sk tg srcs conds elt, Δ => evC Φ sk tg srcs conds elt Δ
  | .bi .listR1 es, Δ => (evs Φ es Δ).bind fun ds => match ds with
    | [.int n] => if rngOk 0 n then .ok (rng 0 n) else .bad
    | _ => .bad
  | _, _ => .bad
def tO (W : Wo) (Φ : Or) (e : E) (Wx : WX) : TE := fun σ H Q => ∃ Δ Z, EnvOk W Z σ Δ ∧ Same Z H ∧ PostO W Z H (evO Φ e Δ) Q fun c d H' => Wx c d σ H'
theorem post_new {Z H : Hp} {ds : List D} {Q : VK} {E : XK} {vs : List V} {p : Addr} (h : PostO W Z H (.ok ds) Q E) (z : Same Z H) (r : RepL W Z ds vs) (hp : H p = none) : Q (.ref p) (upd H p (.lst vs)) := by
  have zp : Z p = none := (Ext.refl z).none hp
  refine h p vs Z _ ⟨same_upd hp, Same.refl _, fun b o e => ?_, fun b o e => .inl e⟩ zp hp upd_same r
  rw [upd_ne (ne_of_none e zp)]
  exact z _ _ e
theorem PostO.ext {Z H Z1 H1 : Hp} {r : Res (List D)} {Q : VK} {E : XK} (h : PostO W Z H r Q E) (x : Ext Z H Z1 H1) : PostO W Z1 H1 r Q E := by
  cases r with
  | ok d => exact fun p vs Z' H' y hp hq ha r => h p vs Z' H' (x.trans y) hp (x.hh.free hq) ha r
  | ex c fs => exact fun dx Z' H' y q => h dx Z' H' (x.trans y) q
  | bad => exact h
theorem PostO.bind {γ : Type} {Rp : Hp → List D → List V → Prop} {Z H : Hp} {r : Res (List D)} {f : List D → Res (List D)} {Q : VK} {E : XK} (h : PostO W Z H (r.bind f) Q E) : PostE W Rp Z H r (fun v H1 => ∃ d Z1, r = .ok d ∧ Ext Z H Z1 H1 ∧ Rp Z1 d v ∧ PostO W Z1 H1 (f d) Q E) E := by
  cases r with
  | ok d => exact fun v Z' H' x q => ⟨d, Z', rfl, x, q, h.ext x⟩
  | ex c fs => exact h
  | bad => exact h
theorem own {e : E} {sc : Scope} {ex : Expr} {X : Cx} {Wx : WX} (G : Good T W Φ k N sc X) (tk : Takes X Wx) (h : chkE T N sc e ex = true) : PE X ex (tO W Φ e Wx) := by
  have none : (∀ Δ, evO Φ e Δ = .bad) → PE X ex (tO W Φ e Wx) := fun q => ((snd (T := T) (W := W) (Φ := Φ) (k := k) (N := N) e).e G tk h).imp fun σ H Q ⟨Δ, Z, _, _, r⟩ => by
    rw [q, PostO_bad] at r
    exact r.elim
  cases e <;> first | exact none fun _ => rfl | skip
  case lst es =>
    rw [chkE_lst] at h
    split at h
    · refine (pe_lst ((SndA.es fun e h => (snds es e h).e) G tk h).1).imp fun σ H Q ⟨Δ, Z, hE, hz, q⟩ => ?_
      unfold evO at q
      refine ⟨Δ, Z, hE, hz, (PostO.bind (γ := Unit) (Rp := RepL W) q).imp fun vs H1 ⟨ds, Z1, _, x, r, q1⟩ => ?_⟩
      split at q1
      · rename_i hl
        exact ⟨by rw [r.length]; exact sum_le_line hl, fun p hp => post_new q1 x.zh r hp⟩
      · exact q1.elim
    · exact absurd h Bool.false_ne_true
  case comp sk tg srcs conds elt =>
    refine (gen_comp (fun e h => (snds srcs e h).e) (fun e h => (snds conds e h).t) (snd elt).e G tk h).imp fun σ H Q ⟨Δ, Z, hE, hz, q⟩ => ⟨Δ, Z, hE, hz, ?_⟩
    have q : PostO W Z H (evC Φ sk tg srcs conds elt Δ) Q fun c d H' => Wx c d σ H' := q
    cases e : evC Φ sk tg srcs conds elt Δ with
    | ok ys =>
      rw [e] at q
      intro Z1 H1 p av Z' H' x hp s
      refine q p av Z' H' (x.trans ⟨s.hh, s.zz, s.zh, s.new⟩) s.zD (x.hh.free hp) s.at_ s.rep
    | ex c fs => rw [e] at q; exact q
    | bad => rw [e] at q; exact q
  case bi b es =>
    cases b <;> first | exact none fun _ => rfl | skip
    rw [chkE_bi] at h
    simp only at h
    split at h
    · rename_i f p g p2 x pos2 pos
      rw [Bool.and_eq_true] at h; obtain ⟨h1, h⟩ := h
      rw [Bool.and_eq_true] at h; obtain ⟨h2, h⟩ := h
      rw [Bool.and_eq_true] at h; obtain ⟨h3, h⟩ := h
      rw [Bool.and_eq_true] at h; obtain ⟨h4, h⟩ := h
      have e := de h1
      subst e
      have e := de h2
      subst e
      obtain ⟨e, rfl, hx, hc⟩ := chk_one h
      have px := (snd e).e G tk hc
      have hb : ("list" : PySem.Str) ∈ bNames := by decide +kernel
      have hr : ("range" : PySem.Str) ∈ bNames := by decide +kernel
      refine (pe_listRg G.calm (gl_of G.hsc h3) (G.blt _ hb) (prg_1 (gl_of G.hsc h4) (G.blt _ hr) px (starEach_nst hx _ _)) (starEach_nst rfl _ _)).imp fun σ H Q ⟨Δ, Z, hE, hz, q⟩ => ?_
      have q : PostO W Z H ((evs Φ [e] Δ).bind fun ds => match ds with
        | [.int n] => if rngOk 0 n then .ok (rng 0 n) else .bad
        | _ => .bad) Q fun c d H' => Wx c d σ H' := q
      refine ⟨Δ, Z, hE, hz, ?_⟩
      rw [evs_cons1, evs_l0] at q
      cases r : ev Φ e Δ with
      | ex c fs => rw [r] at q; exact q
      | bad => rw [r] at q; exact q
      | ok d =>
        rw [r] at q
        intro u Z1 H1 x1 rv
        have q1 := PostO.ext q x1
        simp only [Res.bind_ok] at q1
        cases d <;> simp only [PostO_bad] at q1
        rename_i n
        simp only [Rep] at rv
        refine ⟨n, rv, ?_⟩
        split at q1
        · rename_i ho
          simp only [rngOk, Bool.and_eq_true, decide_eq_true_eq] at ho
          obtain ⟨o1, o2, o3, o4, o5⟩ := ho
          refine ⟨⟨o1, o2, o3, o4, by rw [LINE_eq] at o5; exact o5⟩, fun p hp => post_new q1 x1.zh ?_ hp⟩
          have e3 : rng 0 n = ((List.range (n - 0).toNat).map fun i => (0 : Int) + (i : Nat)).map D.int := by unfold rng; rw [List.map_map]; rfl
          have e4 : rgV 0 n = ((List.range (n - 0).toNat).map fun i => (0 : Int) + (i : Nat)).map V.int := by unfold rgV; rw [List.map_map]; rfl
          rw [e3, e4]
          exact RepL.ofInts _
        · exact q1.elim
    · exact absurd h Bool.false_ne_true
end
end R
end

section
set_option Elab.async false
set_option linter.all false
set_option maxRecDepth 100000
set_option maxHeartbeats 4000000
/-! R15: statements: the compact form, its plain meaning, the check against the text. -/
namespace R
open PySem PySem.Spec PyProof.Rows L2

/-! ### the state: slots, and the frame's own lists -/
inductive SV where
  | sh (d : D) | loc (n : Nat)
inductive Cell where
  | ls (xs : List SV) | dead
structure PSt where
  g : List (Option SV)
  m : List Cell
def optL {α β : Type} (f : α → Option β) : List α → Option (List β)
  | [] => some []
  | x :: xs => match f x with
    | some y => match optL f xs with
      | some ys => some (y :: ys)
      | none => none
    | none => none
/-- what a value is, read now -/
def den (m : List Cell) : Nat → SV → Option D
  | _, .sh d => some d
  | 0, .loc _ => none
  | n + 1, .loc k => match m[k]? with
    | some (.ls xs) => match optL (den m n) xs with
      | some ds => some (.lst ds)
      | none => none
    | _ => none
def snapO (m : List Cell) : Option SV → Option D
  | some v => den m 4 v
  | none => none
def snap (s : PSt) : List (Option D) := s.g.map (snapO s.m)
def maskO : Option SV → Option D
  | some (.sh d) => some d
  | _ => none
def mask (s : PSt) : List (Option D) := s.g.map maskO
/-- the value goes out of the frame (or is read only from then on): its cells are given up -/
def foldT {α β : Type} (f : List Cell → α → Option (β × List Cell)) (m : List Cell) : List α → Option (List β × List Cell)
  | [] => some ([], m)
  | x :: xs => match f m x with
    | some (t, m') => match foldT f m' xs with
      | some (ts, m2) => some (t :: ts, m2)
      | none => none
    | none => none
def toT : Nat → List Cell → SV → Option (T × List Cell)
  | _, m, .sh d => some (.sh d, m)
  | 0, _, .loc _ => none
  | n + 1, m, .loc k => match m[k]? with
    | some (.ls xs) => match foldT (toT n) (m.set k .dead) xs with
      | some (ts, m') => some (.ow ts, m')
      | none => none
    | _ => none
/- a value comes in -/
mutual
def alT (m : List Cell) : T → SV × List Cell
  | .sh d => (.sh d, m)
  | .ow ts => (.loc (alTs m ts).2.length, (alTs m ts).2 ++ [.ls (alTs m ts).1])
def alTs (m : List Cell) : List T → List SV × List Cell
  | [] => ([], m)
  | t :: ts => ((alT m t).1 :: (alTs (alT m t).2 ts).1, (alTs (alT m t).2 ts).2)
end

inductive Out where
  | nx (s : PSt) | bk (s : PSt) | ct (s : PSt) | rt (t : T) | ex (c : Nat) (fs : List D) (s : PSt) | bad
def onR {α : Type} (r : Res α) (s : PSt) (f : α → Out) : Out := match r with
  | .ok a => f a
  | .ex c fs => .ex c fs s
  | .bad => .bad
def Out.nxt (o : Out) (f : PSt → Out) : Out := match o with
  | .nx s => f s
  | o => o
@[simp] theorem onR_ok {α : Type} (a : α) (s : PSt) (f : α → Out) : onR (.ok a) s f = f a := rfl
@[simp] theorem Out.nxt_nx (s : PSt) (f : PSt → Out) : (Out.nx s).nxt f = f s := rfl
@[simp] theorem Out.nxt_rt (t : T) (f : PSt → Out) : (Out.rt t).nxt f = .rt t := rfl
@[simp] theorem Out.nxt_bk (s : PSt) (f : PSt → Out) : (Out.bk s).nxt f = .bk s := rfl
@[simp] theorem Out.nxt_ct (s : PSt) (f : PSt → Out) : (Out.ct s).nxt f = .ct s := rfl
@[simp] theorem Out.nxt_bad (f : PSt → Out) : Out.bad.nxt f = .bad := rfl
@[simp] theorem Out.nxt_ex (c : Nat) (fs : List D) (s : PSt) (f : PSt → Out) : (Out.ex c fs s).nxt f = .ex c fs s := rfl

inductive S where
  /-- x = e, the frame's own lists out of sight -/
  | set (i : Nat) (e : E)
  /-- x = e, no list within the value -/
  | setc (i : Nat) (e : E)
  /-- x = [..], the frame's own -/
  | own (i : Nat) (e : E)
  /-- x = f(..), its lists the frame's own -/
  | ownT (i f : Nat) (es : List E)
  /-- x = y -/
  | mv (i j : Nat)
  /-- x = y[e], a list in an own list -/
  | al (i j : Nat) (e : E)
  | frz (i : Nat)
  | app (j : Nat) (e : E) | appV (j i : Nat) | setI (j : Nat) (ie e : E) | aug (i : Nat) (o : O2) (e : E)
  | unp (i j : Nat) (e : E)
  | ret (e : E) | retN | retV (i : Nat)
  | ifs (c : E) (a b : List S) | whl (c : E) (b : List S) (vs : List Nat) | fr (sk : Sk) (tg : List Nat) (srcs : List E) (b : List S) (vs : List Nat)
  | expr (e : E) | pass | brk | cnt | never

def setS (s : PSt) (i : Nat) (v : SV) : PSt := ⟨s.g.set i (some v), s.m⟩
def wipeS (g : List (Option SV)) : List Nat → List (Option SV)
  | [] => g
  | v :: vs => (wipeS g vs).set v none
def SV.lt (n : Nat) : SV → Bool
  | .sh _ => true
  | .loc k => decide (k < n)
def ltO (n : Nat) : Option SV → Bool
  | some v => v.lt n
  | none => true
def Cell.lt (n : Nat) : Cell → Bool
  | .ls xs => xs.all (SV.lt n)
  | .dead => true
/-- a turn's end: the names vs are forgotten, and the cells behind the first n -/
def tidy (vs : List Nat) (n : Nat) (s : PSt) : Option PSt :=
  if s.m.length = n then some ⟨wipeS s.g vs, s.m⟩
  else if (wipeS s.g vs).all (ltO n) && (s.m.take n).all (Cell.lt n) then some ⟨wipeS s.g vs, s.m.take n⟩ else none
def bindS (tg : List Nat) (d : D) (s : PSt) : Option PSt := match tg with
  | [i] => some (setS s i (.sh d))
  | [i, j] => match d with
    | .tup [a, b] => some (setS (setS s i (.sh a)) j (.sh b))
    | _ => none
  | _ => none
/-- a turn's end, then on -/
def nextTurn (vs : List Nat) (n : Nat) (o : Out) (f : PSt → Out) : Out := match o with
  | .nx s => match tidy vs n s with
    | some s' => f s'
    | none => .bad
  | .ct s => match tidy vs n s with
    | some s' => f s'
    | none => .bad
  | .bk s => .nx s
  | .rt t => .rt t
  | .ex c fs s => .ex c fs s
  | .bad => .bad
def forR (vs : List Nat) (n : Nat) (b : D → PSt → Out) : List D → PSt → Out
  | [], s => .nx s
  | x :: xs, s => nextTurn vs n (b x s) (forR vs n b xs)
def whlR (vs : List Nat) (n : Nat) (c : PSt → Res Bool) (b : PSt → Out) : Nat → PSt → Out
  | 0, _ => .bad
  | k + 1, s => onR (c s) s fun t => if t then nextTurn vs n (b s) (whlR vs n c b k) else .nx s
open Classical in
noncomputable def whlO (vs : List Nat) (n : Nat) (c : PSt → Res Bool) (b : PSt → Out) (s : PSt) : Out := if h : ∃ k, whlR vs n c b k s ≠ .bad then whlR vs n c b (choose h) s else .bad
def augR : O2 → Option D → D → Res D
  | o, some d, y => op2 o d y
  | _, none, _ => .bad
def slotV (s : PSt) (i : Nat) : Option SV := match s.g[i]? with
  | some (some v) => some v
  | _ => none
/-- the own list that the slot names -/
def cellOf (s : PSt) (j : Nat) : Option (Nat × List SV) := match slotV s j with
  | some (.loc k) => match s.m[k]? with
    | some (.ls xs) => some (k, xs)
    | _ => none
  | _ => none
def setM (s : PSt) (k : Nat) (xs : List SV) : PSt := ⟨s.g, s.m.set k (.ls xs)⟩
def isAug : O2 → Bool
  | .add => true | .sub => true | .mul => true
  | _ => false
def isInt : D → Bool
  | .int _ => true
  | _ => false
variable (Φ : Or)
mutual
noncomputable def exS : S → PSt → Out
  | .set i e, s => onR (ev Φ e (mask s)) s fun d => .nx (setS s i (.sh d))
  | .setc i e, s => onR (ev Φ e (snap s)) s fun d => if d.noL then .nx (setS s i (.sh d)) else .bad
  | .own i e, s => onR (evO Φ e (snap s)) s fun ds => if D.noL.noLs ds then .nx ⟨s.g.set i (some (.loc s.m.length)), s.m ++ [.ls (ds.map .sh)]⟩ else .bad
  | .ownT i f es, s => onR ((evs Φ es (snap s)).bind (Φ f)) s fun t => if t.noL then .nx ⟨s.g.set i (some (alT s.m t).1), (alT s.m t).2⟩ else .bad
  | .mv i j, s => match slotV s j with
    | some v => .nx (setS s i v)
    | none => .bad
  | .al i j e, s => match cellOf s j with
    | some (_, xs) => onR (ev Φ e (snap s)) s fun d => (match d with
      | .int z => match atI xs z with
        | some v => .nx (setS s i v)
        | none => .bad
      | _ => .bad)
    | none => .bad
  | .frz i, s => match slotV s i with
    | some v => match toT 4 s.m v with
      | some (t, m') => .nx ⟨s.g.set i (some (.sh t.d)), m'⟩
      | none => .bad
    | none => .bad
  | .app j e, s => match cellOf s j with
    | some (k, xs) => onR (ev Φ e (snap s)) s fun d => if d.noL && decide (xs.length < LINE) then .nx (setM s k (xs ++ [.sh d])) else .bad
    | none => .bad
  | .appV j i, s => match cellOf s j with
    | some (k, xs) => match slotV s i with
      | some v => if xs.length < LINE then .nx (setM s k (xs ++ [v])) else .bad
      | none => .bad
    | none => .bad
  | .setI j ie e, s => onR (ev Φ e (snap s)) s fun d => match cellOf s j with
    | some (k, xs) => onR (ev Φ ie (snap s)) s fun z => (match z with
      | .int z => if d.noL then (match ixN xs.length z with
        | some p => .nx (setM s k (xs.set p (.sh d)))
        | none => .bad) else .bad
      | _ => .bad)
    | none => .bad
  | .aug i o e, s => match slotV s i with
    | some (.sh (.int x)) => onR (ev Φ e (snap s)) s fun d => (match d with
      | .int y => onR (op2 o (.int x) (.int y)) s fun r => if isInt r then .nx (setS s i (.sh r)) else .bad
      | _ => .bad)
    | _ => .bad
  | .unp i j e, s => onR (ev Φ e (mask s)) s fun d => match d with
    | .tup [a, b] => .nx (setS (setS s i (.sh a)) j (.sh b))
    | _ => .bad
  | .ret e, s => onR (ev Φ e (snap s)) s fun d => .rt (.sh d)
  | .retN, _ => .rt (.sh .non)
  | .retV i, s => match slotV s i with
    | some v => match toT 4 s.m v with
      | some (t, _) => .rt t
      | none => .bad
    | none => .bad
  | .ifs c a b, s => onR (tob (ev Φ c (snap s))) s fun t => if t then exSs a s else exSs b s
  | .whl c b vs, s => whlO vs s.m.length (fun s => tob (ev Φ c (snap s))) (exSs b) ⟨wipeS s.g vs, s.m⟩
  | .fr sk tg srcs b vs, s => onR ((evs Φ srcs (match sk with | .r1 => snap s | .r2 => snap s | _ => mask s)).bind (srcR sk)) s fun items =>
    forR vs s.m.length (fun x s => match bindS tg x s with | some s' => exSs b s' | none => .bad) items ⟨wipeS s.g vs, s.m⟩
  | .expr e, s => onR (ev Φ e (snap s)) s fun _ => .nx s
  | .pass, s => .nx s
  | .brk, s => .bk s
  | .cnt, s => .ct s
  | .never, _ => .bad
noncomputable def exSs : List S → PSt → Out
  | [], s => .nx s
  | x :: xs, s => (exS x s).nxt (exSs xs)
end

/-! ### a def by its number, calls nested at most n deep -/
structure Def where
  /-- the parameters -/
  np : Nat
  /-- all names -/
  ns : Nat
  body : List S
def endR : Out → Res T
  | .nx _ => .ok (.sh .non)
  | .rt t => .ok t
  | .ex c fs _ => .ex c fs
  | _ => .bad
def enter (ns : Nat) (ds : List D) : PSt := ⟨ds.map (fun d => some (.sh d)) ++ List.replicate (ns - ds.length) none, []⟩
noncomputable def run (prog : List Def) : Nat → Or
  | 0, _, _ => .bad
  | n + 1, f, ds => match prog[f]? with
    | some D => if ds.length = D.np then endR (exSs (run prog n) D.body (enter D.ns ds)) else .bad
    | none => .bad
end R
end

section
set_option autoImplicit true
set_option linter.all false
/-! printed by eqs.py R15 -/
namespace R
open PySem PySem.Spec PyProof.Rows L2
theorem exS_set : exS Φ (.set i e) s = onR (ev Φ e (mask s)) s fun d => .nx (setS s i (.sh d)) := rfl
theorem exS_setc : exS Φ (.setc i e) s = onR (ev Φ e (snap s)) s fun d => if d.noL then .nx (setS s i (.sh d)) else .bad := rfl
theorem exS_own : exS Φ (.own i e) s = onR (evO Φ e (snap s)) s fun ds => if D.noL.noLs ds then .nx ⟨s.g.set i (some (.loc s.m.length)), s.m ++ [.ls (ds.map .sh)]⟩ else .bad := rfl
theorem exS_ownT : exS Φ (.ownT i f es) s = onR ((evs Φ es (snap s)).bind (Φ f)) s fun t => if t.noL then .nx ⟨s.g.set i (some (alT s.m t).1), (alT s.m t).2⟩ else .bad := rfl
theorem exS_mv : exS Φ (.mv i j) s = match slotV s j with
      | some v => .nx (setS s i v)
      | none => .bad := rfl
theorem exS_al : exS Φ (.al i j e) s = match cellOf s j with
      | some (_, xs) => onR (ev Φ e (snap s)) s fun d => (match d with
        | .int z => match atI xs z with
          | some v => .nx (setS s i v)
          | none => .bad
        | _ => .bad)
      | none => .bad := rfl
theorem exS_frz : exS Φ (.frz i) s = match slotV s i with
      | some v => match toT 4 s.m v with
        | some (t, m') => .nx ⟨s.g.set i (some (.sh t.d)), m'⟩
        | none => .bad
      | none => .bad := rfl
theorem exS_app : exS Φ (.app j e) s = match cellOf s j with
      | some (k, xs) => onR (ev Φ e (snap s)) s fun d => if d.noL && decide (xs.length < LINE) then .nx (setM s k (xs ++ [.sh d])) else .bad
      | none => .bad := rfl
theorem exS_appV : exS Φ (.appV j i) s = match cellOf s j with
      | some (k, xs) => match slotV s i with
        | some v => if xs.length < LINE then .nx (setM s k (xs ++ [v])) else .bad
        | none => .bad
      | none => .bad := rfl
theorem exS_setI : exS Φ (.setI j ie e) s = onR (ev Φ e (snap s)) s fun d => match cellOf s j with
      | some (k, xs) => onR (ev Φ ie (snap s)) s fun z => (match z with
        | .int z => if d.noL then (match ixN xs.length z with
          | some p => .nx (setM s k (xs.set p (.sh d)))
          | none => .bad) else .bad
        | _ => .bad)
      | none => .bad := rfl
theorem exS_aug : exS Φ (.aug i o e) s = match slotV s i with
      | some (.sh (.int x)) => onR (ev Φ e (snap s)) s fun d => (match d with
        | .int y => onR (op2 o (.int x) (.int y)) s fun r => if isInt r then .nx (setS s i (.sh r)) else .bad
        | _ => .bad)
      | _ => .bad := rfl
theorem exS_unp : exS Φ (.unp i j e) s = onR (ev Φ e (mask s)) s fun d => match d with
      | .tup [a, b] => .nx (setS (setS s i (.sh a)) j (.sh b))
      | _ => .bad := rfl
theorem exS_ret : exS Φ (.ret e) s = onR (ev Φ e (snap s)) s fun d => .rt (.sh d) := rfl
theorem exS_retN : exS Φ .retN u1 = .rt (.sh .non) := rfl
theorem exS_retV : exS Φ (.retV i) s = match slotV s i with
      | some v => match toT 4 s.m v with
        | some (t, _) => .rt t
        | none => .bad
      | none => .bad := rfl
theorem exS_ifs : exS Φ (.ifs c a b) s = onR (tob (ev Φ c (snap s))) s fun t => if t then exSs Φ a s else exSs Φ b s := rfl
theorem exS_whl : exS Φ (.whl c b vs) s = whlO vs s.m.length (fun s => tob (ev Φ c (snap s))) (exSs Φ b) ⟨wipeS s.g vs, s.m⟩ := rfl
theorem exS_fr : exS Φ (.fr sk tg srcs b vs) s = onR ((evs Φ srcs (match sk with | .r1 => snap s | .r2 => snap s | _ => mask s)).bind (srcR sk)) s fun items =>
      forR vs s.m.length (fun x s => match bindS tg x s with | some s' => exSs Φ b s' | none => .bad) items ⟨wipeS s.g vs, s.m⟩ := rfl
theorem exS_expr : exS Φ (.expr e) s = onR (ev Φ e (snap s)) s fun _ => .nx s := rfl
theorem exS_pass : exS Φ .pass s = .nx s := rfl
theorem exS_brk : exS Φ .brk s = .bk s := rfl
theorem exS_cnt : exS Φ .cnt s = .ct s := rfl
theorem exS_never : exS Φ .never u1 = .bad := rfl
theorem exSs_l0 : exSs Φ [] s = .nx s := rfl
theorem exSs_cons1 : exSs Φ (x :: xs) s = (exS Φ x s).nxt (exSs Φ xs) := rfl
end R
end

section
set_option Elab.async false
set_option linter.all false
set_option maxRecDepth 100000
set_option maxHeartbeats 4000000
/-! R16: how a state stands in the slots and in the heap. -/
namespace R
open PySem PySem.Spec PyProof.Rows L2

def RepS (W : Wo) (Z : Hp) (as : List Addr) : SV → V → Prop
  | .sh d, v => Rep W Z d v
  | .loc k, v => ∃ a, as[k]? = some a ∧ v = .ref a
def RepSs (W : Wo) (Z : Hp) (as : List Addr) : List SV → List V → Prop
  | [], vs => vs = []
  | x :: xs, vs => ∃ v us, vs = v :: us ∧ RepS W Z as x v ∧ RepSs W Z as xs us
section
variable {W : Wo} {Z Z' H H' Z0 H0 : Hp} {as bs : List Addr}
theorem RepS.mono (z : Same Z Z') {x : SV} {v : V} (h : RepS W Z as x v) : RepS W Z' as x v := by
  cases x with
  | sh d => exact Rep.mono z h
  | loc k => exact h
theorem RepSs.mono (z : Same Z Z') : ∀ {xs : List SV} {vs : List V}, RepSs W Z as xs vs → RepSs W Z' as xs vs
  | [], _, h => h
  | x :: xs, _, ⟨v, us, e, h, t⟩ => ⟨v, us, e, h.mono z, t.mono z⟩
theorem get_app {α : Type} {l l' : List α} {k : Nat} {a : α} (h : l[k]? = some a) : (l ++ l')[k]? = some a := by
  obtain ⟨hl, e⟩ := List.getElem?_eq_some_iff.mp h
  rw [List.getElem?_append_left hl]
  exact h
theorem RepS.more {x : SV} {v : V} (h : RepS W Z as x v) : RepS W Z (as ++ bs) x v := by
  cases x with
  | sh d => exact h
  | loc k =>
    obtain ⟨a, e, r⟩ := h
    exact ⟨a, get_app e, r⟩
theorem RepSs.more : ∀ {xs : List SV} {vs : List V}, RepSs W Z as xs vs → RepSs W Z (as ++ bs) xs vs
  | [], _, h => h
  | x :: xs, _, ⟨v, us, e, h, t⟩ => ⟨v, us, e, h.more, t.more⟩
theorem RepSs.ofL : ∀ {ds : List D} {vs : List V}, RepL W Z ds vs → RepSs W Z as (ds.map .sh) vs
  | [], _, h => h.unnil
  | d :: ds, _, h => by
    obtain ⟨v, us, rfl, h1, h2⟩ := h.uncons
    exact ⟨v, us, rfl, h1, RepSs.ofL h2⟩
theorem RepSs.length : ∀ {xs : List SV} {vs : List V}, RepSs W Z as xs vs → vs.length = xs.length
  | [], _, h => by rw [show _ = [] from h]; rfl
  | x :: xs, _, ⟨v, us, e, h, t⟩ => by rw [e, List.length_cons, List.length_cons, t.length]
theorem RepSs.get : ∀ {xs : List SV} {vs : List V} {i : Nat} {x : SV}, RepSs W Z as xs vs → xs[i]? = some x → ∃ v, vs[i]? = some v ∧ RepS W Z as x v
  | [], _, _, _, _, e => by simp at e
  | y :: xs, _, i, x, ⟨v, us, e1, h, t⟩, e => by
    subst e1
    cases i with
    | zero =>
      simp at e
      subst e
      exact ⟨v, rfl, h⟩
    | succ i =>
      obtain ⟨w, e1, e2⟩ := RepSs.get (i := i) t (by simpa using e)
      exact ⟨w, by simpa using e1, e2⟩
theorem RepSs.append : ∀ {xs : List SV} {vs : List V} {ys : List SV} {us : List V}, RepSs W Z as xs vs → RepSs W Z as ys us → RepSs W Z as (xs ++ ys) (vs ++ us)
  | [], _, _, _, h, t => by rw [show _ = [] from h]; exact t
  | x :: xs, _, _, _, ⟨v, us, e, h, t⟩, q => by
    subst e
    exact ⟨v, _, rfl, h, t.append q⟩
theorem RepSs.set {y : SV} {w : V} (r : RepS W Z as y w) : ∀ {xs : List SV} {vs : List V} (i : Nat), RepSs W Z as xs vs → RepSs W Z as (xs.set i y) (vs.set i w)
  | [], _, i, h => by rw [show _ = [] from h]; rfl
  | x :: xs, _, 0, ⟨v, us, e, h, t⟩ => by
    subst e
    exact ⟨w, us, rfl, r, t⟩
  | x :: xs, _, i + 1, ⟨v, us, e, h, t⟩ => by
    subst e
    exact ⟨v, _, rfl, h, t.set r i⟩
/-- the own lists' addresses -/
def lv : List Cell → List Addr → List Addr
  | [], _ => []
  | _ :: _, [] => []
  | .ls _ :: m, a :: as => a :: lv m as
  | .dead :: m, _ :: as => lv m as
theorem mem_lv {b : Addr} : ∀ {m : List Cell} {as : List Addr}, b ∈ lv m as ↔ ∃ (k : Nat) (xs : List SV), m[k]? = some (Cell.ls xs) ∧ as[k]? = some b
  | [], _ => by simp [lv]
  | _ :: _, [] => by simp [lv]
  | .ls xs :: m, a :: as => by
    rw [lv, List.mem_cons, mem_lv (m := m) (as := as)]
    constructor
    · rintro (rfl | ⟨k, ys, h1, h2⟩)
      · exact ⟨0, xs, rfl, rfl⟩
      · exact ⟨k + 1, ys, h1, h2⟩
    · rintro ⟨k, ys, h1, h2⟩
      cases k with
      | zero => left; simpa using h2.symm
      | succ k => right; exact ⟨k, ys, by simpa using h1, by simpa using h2⟩
  | .dead :: m, a :: as => by
    rw [lv, mem_lv (m := m) (as := as)]
    constructor
    · rintro ⟨k, ys, h1, h2⟩
      exact ⟨k + 1, ys, h1, h2⟩
    · rintro ⟨k, ys, h1, h2⟩
      cases k with
      | zero => simp at h1
      | succ k => exact ⟨k, ys, by simpa using h1, by simpa using h2⟩
structure Rel (W : Wo) (Z0 H0 : Hp) (s : PSt) (σ : L2.St) (H Z : Hp) (as : List Addr) : Prop where
  x : Ext Z0 H0 Z H
  len : s.g.length ≤ σ.length
  nd : as.Nodup
  al : as.length = s.m.length
  ne : ∀ a ∈ as, H a ≠ none ∧ H0 a = none
  slot : ∀ (i : Nat) (v : SV), s.g[i]? = some (some v) → ∃ u : V, σ[i]? = some (some u) ∧ RepS W Z as v u
  cell : ∀ (k : Nat) (xs : List SV), s.m[k]? = some (.ls xs) → ∀ a : Addr, as[k]? = some a → Z a = none ∧ ∃ vs, H a = some (.lst vs) ∧ RepSs W Z as xs vs
def cutZ (Z : Hp) (L : List Addr) : Hp := fun b => if b ∈ L then none else Z b
theorem cutZ_in {L : List Addr} {b : Addr} (h : b ∈ L) : cutZ Z L b = none := if_pos h
theorem cutZ_out {L : List Addr} {b : Addr} (h : b ∉ L) : cutZ Z L b = Z b := if_neg h
theorem cutZ_sub {L : List Addr} : Same (cutZ Z L) Z := fun b o e => by
  by_cases h : b ∈ L
  · rw [cutZ_in h] at e; cases e
  · rw [cutZ_out h] at e; exact e
variable {s : PSt} {σ : L2.St}
/-- an own list's address -/
theorem Rel.addr (R : Rel W Z0 H0 s σ H Z as) {k : Nat} {xs : List SV} (h : s.m[k]? = some (.ls xs)) : ∃ a, as[k]? = some a := by
  obtain ⟨hl, e⟩ := List.getElem?_eq_some_iff.mp h
  exact ⟨_, List.getElem?_eq_getElem (by rw [R.al]; exact hl)⟩
theorem Rel.live (R : Rel W Z0 H0 s σ H Z as) {b : Addr} (h : b ∈ lv s.m as) : Z b = none ∧ H0 b = none ∧ ∃ vs, H b = some (.lst vs) := by
  obtain ⟨k, xs, h1, h2⟩ := mem_lv.mp h
  obtain ⟨z, vs, e, _⟩ := R.cell k xs h1 b h2
  exact ⟨z, (R.ne b (List.mem_of_getElem? h2)).2, vs, e⟩
/-- what is read now -/
def Rel.zs (_ : Rel W Z0 H0 s σ H Z as) : Hp := addZ Z H (lv s.m as)
theorem optL_rep (R : Rel W Z0 H0 s σ H Z as) {f : SV → Option D} {Y : Hp} (hf : ∀ v u d, f v = some d → RepS W Z as v u → Rep W Y d u) : ∀ {xs : List SV} {vs : List V} {ds : List D}, optL f xs = some ds → RepSs W Z as xs vs → RepL W Y ds vs
  | [], vs, ds, h, r => by
    simp only [optL, Option.some.injEq] at h
    subst h
    rw [show vs = [] from r]
    exact .nil
  | x :: xs, vs, ds, h, ⟨v, us, e, r, t⟩ => by
    subst e
    unfold optL at h
    split at h
    · rename_i y e1
      split at h
      · rename_i ys e2
        injection h with h
        subst h
        exact .cons (hf _ _ _ e1 r) (optL_rep R hf e2 t)
      · cases h
    · cases h
theorem den_rep (R : Rel W Z0 H0 s σ H Z as) : ∀ (n : Nat) (v : SV) (u : V) (d : D), den s.m n v = some d → RepS W Z as v u → Rep W (addZ Z H (lv s.m as)) d u
  | 0, .sh d, u, d', h, r => by
    simp only [den, Option.some.injEq] at h
    subst h
    exact Rep.mono (addZ_same R.x.zh _) r
  | n + 1, .sh d, u, d', h, r => by
    simp only [den, Option.some.injEq] at h
    subst h
    exact Rep.mono (addZ_same R.x.zh _) r
  | 0, .loc k, u, d', h, r => by simp [den] at h
  | n + 1, .loc k, u, d', h, ⟨a, e, e2⟩ => by
    subst e2
    unfold den at h
    split at h
    · rename_i xs e1
      split at h
      · rename_i ds e2
        injection h with h
        subst h
        obtain ⟨z, vs, h1, h2⟩ := R.cell k xs e1 a e
        simp only [Rep]
        refine ⟨a, vs, rfl, ?_, optL_rep R (fun v u d => den_rep R n v u d) e2 h2⟩
        rw [addZ_in (mem_lv.mpr ⟨k, xs, e1, e⟩)]
        exact h1
      · cases h
    · cases h
theorem Rel.env (R : Rel W Z0 H0 s σ H Z as) : EnvOk W (addZ Z H (lv s.m as)) σ (snap s) := by
  refine ⟨by unfold snap; rw [List.length_map]; exact R.len, fun i d h => ?_⟩
  unfold snap at h
  rw [List.getElem?_map] at h
  cases e : s.g[i]? with
  | none => rw [e] at h; cases h
  | some o =>
    rw [e] at h
    cases o with
    | none => cases h
    | some v =>
      have h : den s.m 4 v = some d := by
        injection h
      obtain ⟨u, e1, r⟩ := R.slot i v e
      exact ⟨u, e1, den_rep R 4 v u d h r⟩
theorem Rel.envM (R : Rel W Z0 H0 s σ H Z as) : EnvOk W Z σ (mask s) := by
  refine ⟨by unfold mask; rw [List.length_map]; exact R.len, fun i d h => ?_⟩
  unfold mask at h
  rw [List.getElem?_map] at h
  cases e : s.g[i]? with
  | none => rw [e] at h; cases h
  | some o =>
    rw [e] at h
    cases o with
    | none => cases h
    | some v =>
      cases v with
      | loc k => cases h
      | sh d' =>
        injection h with h
        injection h with h
        subst h
        exact R.slot i _ e
theorem Rel.zsH (R : Rel W Z0 H0 s σ H Z as) : Same (addZ Z H (lv s.m as)) H := addZ_H R.x.zh _
/-- nothing but new objects: the slots, the lists are as they were -/
theorem Rel.grow (R : Rel W Z0 H0 s σ H Z as) (hh : Same H H') (zz : Same Z Z') (zh : Same Z' H') (new : ∀ a o, Z' a = some o → Z a = some o ∨ H a = none) (out : ∀ b ∈ lv s.m as, Z' b = none) : Rel W Z0 H0 s σ H' Z' as := by
  refine ⟨R.x.trans ⟨hh, zz, zh, new⟩, R.len, R.nd, R.al, fun a ha => ⟨fun e => ?_, (R.ne a ha).2⟩, fun i v e => ?_, fun k xs e a ha => ?_⟩
  · cases h : H a with
    | none => exact (R.ne a ha).1 h
    | some o => rw [hh _ _ h] at e; cases e
  · obtain ⟨u, e1, r⟩ := R.slot i v e
    exact ⟨u, e1, r.mono zz⟩
  · obtain ⟨z, vs, h1, h2⟩ := R.cell k xs e a ha
    exact ⟨out a (mem_lv.mpr ⟨k, xs, e, ha⟩), vs, hh _ _ h1, h2.mono zz⟩
theorem Rel.stepM (R : Rel W Z0 H0 s σ H Z as) (x : Ext Z H Z' H') : Rel W Z0 H0 s σ H' Z' as := by
  refine R.grow x.hh x.zz x.zh x.new fun b hb => ?_
  obtain ⟨z, _, vs, e⟩ := R.live hb
  cases h : Z' b with
  | none => rfl
  | some o =>
    rcases x.new b o h with q | q
    · rw [z] at q; cases q
    · rw [e] at q; cases q
theorem Rel.cutSame (R : Rel W Z0 H0 s σ H Z as) (x : Ext (addZ Z H (lv s.m as)) H Z' H') : Same Z (cutZ Z' (lv s.m as)) := fun b o e => by
  have hb : b ∉ lv s.m as := fun hb => by rw [(R.live hb).1] at e; cases e
  rw [cutZ_out hb]
  exact x.zz _ _ (addZ_same R.x.zh _ _ _ e)
theorem Rel.step (R : Rel W Z0 H0 s σ H Z as) (x : Ext (addZ Z H (lv s.m as)) H Z' H') : Rel W Z0 H0 s σ H' (cutZ Z' (lv s.m as)) as := by
  refine R.grow x.hh (R.cutSame x) (cutZ_sub.trans x.zh) (fun b o e => ?_) fun b hb => cutZ_in hb
  by_cases hb : b ∈ lv s.m as
  · rw [cutZ_in hb] at e; cases e
  · rw [cutZ_out hb] at e
    rcases x.new b o e with q | q
    · rw [addZ_out hb] at q; exact .inl q
    · exact .inr q
mutual
theorem noL_cut (zh : Same Z H) {L : List Addr} (hL : ∀ b ∈ L, ∃ vs, H b = some (.lst vs)) : ∀ {d : D} {v : V}, Rep W Z d v → d.noL = true → Rep W (cutZ Z L) d v
  | .non, _, h, _ => by simpa only [Rep] using h
  | .bl _, _, h, _ => by simpa only [Rep] using h
  | .int _, _, h, _ => by simpa only [Rep] using h
  | .str _, _, h, _ => by simpa only [Rep] using h
  | .lst _, _, _, e => absurd e Bool.false_ne_true
  | .fz _, _, _, e => absurd e Bool.false_ne_true
  | .tup ds, _, h, e => by
    simp only [Rep] at h ⊢
    obtain ⟨a, vs, h1, h2, h3⟩ := h
    refine ⟨a, vs, h1, ?_, noLs_cut zh hL h3 e⟩
    have out : ∀ o : HO, Z a = some o → (∀ us, o ≠ .lst us) → cutZ Z L a = some o := fun o h q => by
      have hb : a ∉ L := fun hb => by
        obtain ⟨us, e⟩ := hL a hb
        rw [zh _ _ h] at e
        injection e with e
        exact q us e
      rw [cutZ_out hb]
      exact h
    rcases h2 with (h2 | ⟨o, h2⟩) | h2
    · exact .inl (.inl (out _ h2 fun us => by intro e; cases e))
    · exact .inl (.inr ⟨o, out _ h2 fun us => by intro e; cases e⟩)
    · exact .inr h2
  | .obj c ds, _, h, e => by
    simp only [Rep] at h ⊢
    obtain ⟨a, dx, vs, h1, h0, h2, h3, h4⟩ := h
    refine ⟨a, dx, vs, h1, h0, ?_, h3, noLs_cut zh hL h4 e⟩
    have hb : a ∉ L := fun hb => by
      obtain ⟨us, e⟩ := hL a hb
      rw [zh _ _ h2] at e
      cases e
    rw [cutZ_out hb]
    exact h2
theorem noLs_cut (zh : Same Z H) {L : List Addr} (hL : ∀ b ∈ L, ∃ vs, H b = some (.lst vs)) : ∀ {ds : List D} {vs : List V}, RepL W Z ds vs → D.noL.noLs ds = true → RepL W (cutZ Z L) ds vs
  | [], _, h, _ => by rw [h.unnil]; exact .nil
  | d :: ds, _, h, e => by
    obtain ⟨v, us, rfl, h1, h2⟩ := h.uncons
    unfold D.noL.noLs at e
    rw [Bool.and_eq_true] at e
    exact .cons (noL_cut zh hL h1 e.1) (noLs_cut zh hL h2 e.2)
end
/-- a value without lists goes on -/
theorem Rel.keep (R : Rel W Z0 H0 s σ H Z as) (x : Ext (addZ Z H (lv s.m as)) H Z' H') {d : D} {v : V} (r : Rep W Z' d v) (h : d.noL = true) : Rep W (cutZ Z' (lv s.m as)) d v :=
  noL_cut x.zh (fun b hb => by
    obtain ⟨_, _, vs, e⟩ := R.live hb
    exact ⟨vs, x.hh _ _ e⟩) r h
theorem Rel.keepL (R : Rel W Z0 H0 s σ H Z as) (x : Ext (addZ Z H (lv s.m as)) H Z' H') {ds : List D} {vs : List V} (r : RepL W Z' ds vs) (h : D.noL.noLs ds = true) : RepL W (cutZ Z' (lv s.m as)) ds vs :=
  noLs_cut x.zh (fun b hb => by
    obtain ⟨_, _, vs, e⟩ := R.live hb
    exact ⟨vs, x.hh _ _ e⟩) r h
theorem Rel.set (R : Rel W Z0 H0 s σ H Z as) {i : Nat} {v : SV} {u : V} (r : RepS W Z as v u) : Rel W Z0 H0 (setS s i v) (σ.set i (some u)) H Z as := by
  refine ⟨R.x, by unfold setS; rw [List.length_set, List.length_set]; exact R.len, R.nd, R.al, R.ne, fun j w e => ?_, R.cell⟩
  simp only [setS] at e
  rw [List.getElem?_set] at e
  rw [List.getElem?_set]
  split at e
  · rename_i hj
    subst hj
    split at e
    · rename_i hl
      injection e with e
      injection e with e
      subst e
      rw [if_pos rfl, if_pos (Nat.lt_of_lt_of_le hl R.len)]
      exact ⟨u, rfl, r⟩
    · cases e
  · rename_i hj
    rw [if_neg hj]
    exact R.slot j w e
theorem Rel.wipe (R : Rel W Z0 H0 s σ H Z as) : ∀ vs : List Nat, Rel W Z0 H0 ⟨wipeS s.g vs, s.m⟩ σ H Z as
  | [] => R
  | v :: vs => by
    have R' := Rel.wipe R vs
    refine ⟨R.x, ?_, R.nd, R.al, R.ne, fun j w e => ?_, R.cell⟩
    · unfold wipeS
      rw [List.length_set]
      exact R'.len
    · simp only [wipeS] at e
      rw [List.getElem?_set] at e
      split at e
      · split at e <;> cases e
      · exact R'.slot j w e
/-- a new list of the frame's own -/
theorem Rel.alloc (R : Rel W Z0 H0 s σ H Z as) {p : Addr} {vs : List V} {xs : List SV} (hp : H p = some (.lst vs)) (zp : Z p = none) (h0 : H0 p = none) (hn : p ∉ as) (r : RepSs W Z as xs vs) : Rel W Z0 H0 ⟨s.g, s.m ++ [.ls xs]⟩ σ H Z (as ++ [p]) := by
  refine ⟨R.x, R.len, ?_, by rw [List.length_append, List.length_append, R.al]; rfl, fun a ha => ?_, fun i v e => ?_, fun k ys e a ha => ?_⟩
  · rw [List.nodup_append]
    refine ⟨R.nd, by simp, fun a ha b hb => ?_⟩
    rw [List.mem_singleton] at hb
    subst hb
    intro e
    subst e
    exact hn ha
  · rcases List.mem_append.mp ha with ha | ha
    · exact R.ne a ha
    · rw [List.mem_singleton] at ha
      subst ha
      exact ⟨by rw [hp]; simp, h0⟩
  · obtain ⟨u, e1, q⟩ := R.slot i v e
    exact ⟨u, e1, q.more⟩
  · by_cases hk : k < s.m.length
    · rw [List.getElem?_append_left hk] at e
      rw [List.getElem?_append_left (by rw [R.al]; exact hk)] at ha
      obtain ⟨z, us, h1, h2⟩ := R.cell k ys e a ha
      exact ⟨z, us, h1, h2.more⟩
    · rw [List.getElem?_append_right (Nat.le_of_not_lt hk)] at e
      rw [List.getElem?_append_right (by rw [R.al]; exact Nat.le_of_not_lt hk), R.al] at ha
      cases hq : k - s.m.length with
      | zero =>
        rw [hq] at e ha
        simp at e ha
        subst e; subst ha
        exact ⟨zp, vs, hp, r.more⟩
      | succ n => rw [hq] at e; simp at e
/-- an own list is written -/
theorem Rel.write (R : Rel W Z0 H0 s σ H Z as) {k : Nat} {a : Addr} {xs ys : List SV} {vs : List V} (hk : s.m[k]? = some (.ls xs)) (ha : as[k]? = some a) (r : RepSs W Z as ys vs) : Rel W Z0 H0 (setM s k ys) σ (upd H a (.lst vs)) Z as := by
  obtain ⟨z, us, h1, h2⟩ := R.cell k xs hk a ha
  have h0 := (R.ne a (List.mem_of_getElem? ha)).2
  refine ⟨⟨fun b o e => ?_, R.x.zz, fun b o e => ?_, R.x.new⟩, R.len, R.nd, by rw [R.al]; unfold setM; rw [List.length_set], fun b hb => ⟨?_, (R.ne b hb).2⟩, R.slot, fun j zs e b hb => ?_⟩
  · rw [upd_ne (ne_of_none e h0)]
    exact R.x.hh _ _ e
  · rw [upd_ne (ne_of_none e z)]
    exact R.x.zh _ _ e
  · by_cases q : b = a
    · subst q; rw [upd_same]; simp
    · rw [upd_ne q]; exact (R.ne b hb).1
  · simp only [setM] at e
    rw [List.getElem?_set] at e
    split at e
    · rename_i hj
      subst hj
      split at e
      · rw [ha] at hb
        injection hb with hb
        subst hb
        injection e with e
        injection e with e
        subst e
        exact ⟨z, vs, upd_same, r⟩
      · cases e
    · rename_i hj
      obtain ⟨z', us', q1, q2⟩ := R.cell j zs e b hb
      have hne : b ≠ a := fun e => by
        subst e
        have l1 := (List.getElem?_eq_some_iff.mp ha).1
        have l2 := (List.getElem?_eq_some_iff.mp hb).1
        exact hj ((List.getElem?_inj l1 R.nd).mp (by rw [ha, hb]))
      exact ⟨z', us', by rw [upd_ne hne]; exact q1, q2⟩
theorem RepS.cut {n : Nat} {x : SV} {v : V} (h : RepS W Z as x v) (hx : x.lt n = true) : RepS W Z (as.take n) x v := by
  cases x with
  | sh d => exact h
  | loc k =>
    obtain ⟨a, e, r⟩ := h
    exact ⟨a, by rw [List.getElem?_take_of_lt (of_decide_eq_true hx)]; exact e, r⟩
theorem RepSs.cut {n : Nat} : ∀ {xs : List SV} {vs : List V}, RepSs W Z as xs vs → xs.all (SV.lt n) = true → RepSs W Z (as.take n) xs vs
  | [], _, h, _ => h
  | x :: xs, _, ⟨v, us, e, h, t⟩, q => by
    rw [List.all_cons, Bool.and_eq_true] at q
    exact ⟨v, us, e, h.cut q.1, t.cut q.2⟩
theorem Rel.tidy (R : Rel W Z0 H0 s σ H Z as) {vs : List Nat} {n : Nat} {s' : PSt} (h : tidy vs n s = some s') : ∃ bs, Rel W Z0 H0 s' σ H Z bs := by
  unfold _root_.R.tidy at h
  have R1 := R.wipe vs
  split at h
  · injection h with h
    subst h
    exact ⟨as, R1⟩
  · split at h
    · rename_i hq
      injection h with h
      subst h
      rw [Bool.and_eq_true, List.all_eq_true, List.all_eq_true] at hq
      refine ⟨as.take n, R.x, R1.len, R.nd.sublist (List.take_sublist _ _), by rw [List.length_take, List.length_take, R.al], fun a ha => R.ne a (List.mem_of_mem_take ha), fun i v e => ?_, fun k xs e a ha => ?_⟩
      · obtain ⟨u, e1, r⟩ := R1.slot i v e
        exact ⟨u, e1, r.cut (hq.1 _ (List.mem_of_getElem? e))⟩
      · have hk : k < n := by
          rcases Nat.lt_or_ge k n with q | q
          · exact q
          · have e : (s.m.take n)[k]? = _ := e
            rw [List.getElem?_take_eq_none q] at e
            cases e
        have e' : (s.m.take n)[k]? = some (.ls xs) := e
        have e2 := e'
        rw [List.getElem?_take_of_lt hk] at e2 ha
        obtain ⟨z, us, h1, h2⟩ := R.cell k xs e2 a ha
        exact ⟨z, us, h1, h2.cut (hq.2 _ (List.mem_of_getElem? e'))⟩
    · cases h
end
end R
end

section
set_option Elab.async false
set_option linter.all false
set_option maxRecDepth 100000
set_option maxHeartbeats 8000000
/-! R17: the check of statements; what is wanted behind one. -/
namespace R
open PySem PySem.Spec PyProof.Rows L2

def isCall : Expr → Bool
  | .Call _ _ _ _ => true
  | _ => false
def ghost : S → Bool
  | _ => false
def nTup : Expr → Bool
  | .Call _ _ _ _ => true | .Name _ _ => true | .Subscript _ _ _ => true | .Attribute _ _ _ => true
  | _ => false
section
variable (T : Th) (N : List PySem.Str) (sc : Scope)
def nmB (i : Nat) (x : PySem.Str) : Bool := decide (N[i]? = some x) && (visB sc x && plainNm x)
mutual
def chkS : S → Stmt → Bool
  | .set i e, st => match st with
    | .Assign [.Name x _] ex _ => decide (N[i]? = some x) && (locB sc x && chkE T N sc e ex)
    | _ => false
  | .setc i e, st => match st with
    | .Assign [.Name x _] ex _ => decide (N[i]? = some x) && (locB sc x && chkE T N sc e ex)
    | _ => false
  | .own i e, st => match st with
    | .Assign [.Name x _] ex _ => decide (N[i]? = some x) && (locB sc x && chkE T N sc e ex)
    | _ => false
  | .ownT _ _ _, _ => false
  | .mv i j, st => match st with
    | .Assign [.Name x _] (.Name y _) _ => decide (N[i]? = some x) && (locB sc x && nmB N sc j y)
    | _ => false
  | .al _ _ _, _ => false
  | .frz _, _ => false
  | .app j e, st => match st with
    | .Expr (.Call (.Attribute (.Name y _) m p) [x] [] q) _ => decide (m = "append") && (nmB N sc j y && (p.endLine == q.line && (nst x && chkE T N sc e x)))
    | _ => false
  | .appV _ _, _ => false
  | .setI j ie e, st => match st with
    | .Assign [.Subscript (.Name y _) ix _] ex _ => nmB N sc j y && (nsl ix && (chkE T N sc ie ix && chkE T N sc e ex))
    | _ => false
  | .aug _ _ _, _ => false
  | .unp i j e, st => match st with
    | .Assign [.Tuple [.Name x _, .Name y _] _ _] ex _ => decide (N[i]? = some x) && (decide (N[j]? = some y) && (locB sc x && (locB sc y && (nTup ex && chkE T N sc e ex))))
    | _ => false
  | .ret e, st => match st with
    | .Return (some ex) _ => chkE T N sc e ex
    | _ => false
  | .retN, st => match st with
    | .Return none _ => true
    | _ => false
  | .retV _, _ => false
  | .ifs c a b, st => match st with
    | .If t x y _ => tok c && (chkE T N sc c t && (chkSs a x && chkSs b y))
    | _ => false
  | .whl c b _, st => match st with
    | .While t x [] _ => tok c && (chkE T N sc c t && chkSs b x)
    | _ => false
  | .fr sk tg srcs b _, st => match st with
    | .For t i x [] _ => tgB N (ownOf t tg) t tg && ((ownOf t tg).all (fun p => locB sc p.1) && (chkI T N sc sk tg i srcs && (nset i && chkSs b x)))
    | _ => false
  | .expr e, st => match st with
    | .Expr ex _ => isCall ex && chkE T N sc e ex
    | _ => false
  | .pass, st => match st with
    | .Pass _ => true
    | _ => false
  | .brk, st => match st with
    | .Break _ => true
    | _ => false
  | .cnt, st => match st with
    | .Continue _ => true
    | _ => false
  | .never, _ => true
def chkSs : List S → List Stmt → Bool
  | [], sts => sts.isEmpty
  | x :: xs, sts => if ghost x then chkSs xs sts else match sts with
    | st :: r => chkS x st && chkSs xs r
    | [] => false
end
end

/-! ### what is wanted behind a statement -/
def PostS (W : Wo) (Z0 H0 Zi : Hp) (r : Out) (D : Ends) (Wx : WX) : Prop := match r with
  | .nx s => ∀ σ H Z as, Rel W Z0 H0 s σ H Z as → Same Zi Z → D.nx σ H
  | .bk s => ∀ σ H Z as, Rel W Z0 H0 s σ H Z as → Same Zi Z → D.bk σ H
  | .ct s => ∀ σ H Z as, Rel W Z0 H0 s σ H Z as → Same Zi Z → D.ct σ H
  | .rt t => ∀ v Z' H' bs, Ext Z0 H0 Z' H' → RepT W Z' H' t v bs → (∀ b ∈ bs, H0 b = none ∧ Z' b = none) → bs.Nodup → D.rt v H'
  | .ex c fs s => ∀ dx σ H Z as Zx, Rel W Z0 H0 s σ H Z as → Ext Z0 H0 Zx H → ExcR W Zx H c fs dx → Wx (.ref (W.xA c)) dx σ H
  | .bad => False
def tS (W : Wo) (f : PSt → Out) (Wx : WX) : TS := fun D σ H => ∃ Z0 H0 s Z as, Rel W Z0 H0 s σ H Z as ∧ PostS W Z0 H0 Z (f s) D Wx
section
variable {W : Wo} {Z0 H0 Zi Zj Z H Z' H' : Hp} {D D' : Ends} {Wx : WX} {s : PSt} {σ : L2.St} {as : List Addr}
theorem PostS_bad : PostS W Z0 H0 Zi .bad D Wx = False := rfl
theorem PostS.weak {r : Out} (h : PostS W Z0 H0 Zi r D Wx) (z : Same Zi Zj) : PostS W Z0 H0 Zj r D Wx := by
  cases r with
  | nx s => exact fun σ H Z as R q => h σ H Z as R (z.trans q)
  | bk s => exact fun σ H Z as R q => h σ H Z as R (z.trans q)
  | ct s => exact fun σ H Z as R q => h σ H Z as R (z.trans q)
  | rt t => exact h
  | ex c fs s => exact h
  | bad => exact h
/-- the next statement -/
theorem PostS.nxt {r : Out} {f : PSt → Out} (h : PostS W Z0 H0 Zi (r.nxt f) D Wx) : PostS W Z0 H0 Zi r { D with nx := tS W f Wx D } Wx := by
  cases r with
  | nx s => exact fun σ H Z as R q => ⟨Z0, H0, s, Z, as, R, PostS.weak h q⟩
  | bk s => exact h
  | ct s => exact h
  | rt t => exact h
  | ex c fs s => exact h
  | bad => exact h
theorem Rel.extZ (R : Rel W Z0 H0 s σ H Z as) (x : Ext (addZ Z H (lv s.m as)) H Z' H') : Ext Z0 H0 Z' H' :=
  ⟨R.x.hh.trans x.hh, (R.x.zz.trans (addZ_same R.x.zh _)).trans x.zz, x.zh, fun b o e => by
    rcases x.new b o e with q | q
    · by_cases hb : b ∈ lv s.m as
      · exact .inr (R.live hb).2.1
      · rw [addZ_out hb] at q
        exact R.x.new b o q
    · exact .inr (R.x.hh.free q)⟩
/-- an expression that sees all -/
theorem read_snap {α β : Type} {Rp : Hp → α → β → Prop} (R : Rel W Z0 H0 s σ H Z as) {r : Res α} {f : α → Out} (q : PostS W Z0 H0 Z (onR r s f) D Wx) {Q : β → Hp → Prop}
    (k : ∀ a v Z' H', r = .ok a → Ext (addZ Z H (lv s.m as)) H Z' H' → Rp Z' a v → PostS W Z0 H0 Z (f a) D Wx → Q v H') : PostE W Rp (addZ Z H (lv s.m as)) H r Q fun c d H' => Wx c d σ H' := by
  cases r with
  | ok a => exact fun v Z' H' x rv => k a v Z' H' rfl x rv q
  | ex c fs => exact fun dx Z' H' x e => q dx σ H' _ as Z' (R.step x) (R.extZ x) e
  | bad => exact q
/-- one that sees no own list -/
theorem read_mask {α β : Type} {Rp : Hp → α → β → Prop} (R : Rel W Z0 H0 s σ H Z as) {r : Res α} {f : α → Out} (q : PostS W Z0 H0 Z (onR r s f) D Wx) {Q : β → Hp → Prop}
    (k : ∀ a v Z' H', r = .ok a → Ext Z H Z' H' → Rp Z' a v → PostS W Z0 H0 Z (f a) D Wx → Q v H') : PostE W Rp Z H r Q fun c d H' => Wx c d σ H' := by
  cases r with
  | ok a => exact fun v Z' H' x rv => k a v Z' H' rfl x rv q
  | ex c fs => exact fun dx Z' H' x e => q dx σ H' _ as Z' (R.stepM x) (R.x.trans x) e
  | bad => exact q
end
theorem _root_.L2.PS.imp {X : Cx} {st : Stmt} {t t' : TS} (h : PS X st t) (i : ∀ D σ H, t' D σ H → t D σ H) : PS X st t' := ⟨fun pins s σ H D I q => h.run pins s σ H D I (i D σ H q)⟩
theorem _root_.L2.PSs.imp {X : Cx} {st : List Stmt} {t t' : TS} (h : PSs X st t) (i : ∀ D σ H, t' D σ H → t D σ H) : PSs X st t' := ⟨fun pins s σ H D I q => h.run pins s σ H D I (i D σ H q)⟩

/-! ### name = value -/
def swB (sc : Scope) (ex : Expr) (x : PySem.Str) (p : Pos) : Bool := match ex with
  | .ListComp _ _ s q => (sc.names.lookup x == some .local) && ((p.line == q.line) && !(s.names.any fun (n, k) => n == x && (k == .local || k == .cell)))
  | _ => false
theorem loc_of {sc : Scope} {x : PySem.Str} (h : locB sc x = true) : Loc sc x := by
  unfold locB at h
  split at h
  · exact .inl (by assumption)
  · exact .inr (by assumption)
  · exact absurd h Bool.false_ne_true
theorem kind_eq {a : Option NameKind} (h : (a == some .local) = true) : a = some .local := by
  cases a with
  | none => cases h
  | some k => cases k <;> first | rfl | cases h
section
variable {T : Th} {W : Wo} {Φ : Or} {k : Nat} {N : List PySem.Str} {sc : Scope} {X : Cx} {Wx : WX}
/-- a def's body -/
structure Body (X : Cx) (sc : Scope) : Prop where
  fn : ∀ x, X.fn x = true
  own : PassesOwn (model X.prog X.w) X.A X.env X.xe
  kind : sc.kind = .function
theorem sw_false {e : E} {ex : Expr} {x : PySem.Str} {p : Pos} {l : Nat} (hsc : X.env.scope = sc) (hk : sc.kind = .function) (hc : chkE T N sc e ex = true) (h : swB sc ex x p = false) : swapsWith ex (some (.Name x p)) l X.env = pure false := by
  have no : ∀ {b : Bool}, b = false → b = true → False := fun h q => by rw [h] at q; cases q
  cases ex <;> first | rfl | skip
  case ListComp elt gs s q =>
    have hb : X.env.blockKind = .function := by unfold Env.blockKind; rw [hsc, hk]; rfl
    unfold swB at h
    unfold swapsWith
    simp only [hb]
    show pure (((_ : Bool) && (X.env.scope.names.lookup x == some NameKind.local) && (p.line == q.line) && !(s.names.any _)) : Bool) = _
    rw [hsc]
    have e : ((ScopeKind.function == ScopeKind.function && (sc.names.lookup x == some NameKind.local) && (p.line == q.line) && !(s.names.any fun (n, k) => n == x && (k == .local || k == .cell))) : Bool) = false := by
      have h' : ((sc.names.lookup x == some NameKind.local) && ((p.line == q.line) && !(s.names.any fun (n, k) => n == x && (k == .local || k == .cell)))) = false := h
      rw [← Bool.and_assoc] at h'
      rw [show (ScopeKind.function == ScopeKind.function) = true from rfl, Bool.true_and]
      exact h'
    first | rw [e] | exact congrArg pure e
  all_goals
    exfalso
    cases e <;> first | exact Bool.false_ne_true hc | skip
    rename_i b es
    cases b <;> exact Bool.false_ne_true hc
theorem sw_true' {ex : Expr} {x : PySem.Str} {p : Pos} {l : Nat} (hsc : X.env.scope = sc) (hk : sc.kind = .function) (h : swB sc ex x p = true) : ∃ elt gs s q, ex = .ListComp elt gs s q ∧ sc.names.lookup x = some .local ∧ swapsWith ex (some (.Name x p)) l X.env = pure true := by
  unfold swB at h
  split at h
  · rename_i elt gs s q
    rw [Bool.and_eq_true, Bool.and_eq_true, Bool.not_eq_true'] at h
    obtain ⟨h1, h2, h3⟩ := h
    have h1 := kind_eq h1
    exact ⟨elt, gs, s, q, rfl, h1, sw_true (by rw [hsc]; exact hk) (by rw [hsc]; exact h1) h2 h3⟩
  · cases h
/-- the general case: te reads e as a value that is bound -/
theorem asg_gen {e : E} {ex : Expr} {i : Nat} {x : PySem.Str} {p pos : Pos} {te : TE} (G : Good T W Φ k N sc X) (tk : Takes X Wx) (B : Body X sc) (hi : N[i]? = some x) (hl : locB sc x = true) (hc : chkE T N sc e ex = true) (he : PE X ex te)
    (hr : ∀ sk tg srcs conds elt, e = .comp sk tg srcs conds elt → ∀ σ H Q, te σ H Q → tC W Φ sk tg srcs conds elt Wx σ H Q) : PS X (.Assign [.Name x p] ex pos) (tAsg te (gName i)) := by
  cases h : swB sc ex x p with
  | false => exact ps_set (by rw [G.hN]; exact G.nd) (by rw [G.hN]; exact hi) (by rw [G.hsc]; exact loc_of hl) he (sw_false G.hsc B.kind hc h) (.inl (B.fn x))
  | true =>
    obtain ⟨el, gs, scope, q, rfl, hx, hw⟩ := sw_true' (X := X) (l := pos.line) G.hsc B.kind h
    obtain ⟨sk, tg, srcs, conds, elt, rfl⟩ : ∃ sk tg srcs conds elt, e = .comp sk tg srcs conds elt := by
      cases e <;> first | exact ⟨_, _, _, _, _, rfl⟩ | exact absurd hc Bool.false_ne_true | skip
      rename_i b es
      cases b <;> exact absurd hc Bool.false_ne_true
    have h0 := hc
    rw [chkE_comp] at h0
    split at h0
    · rename_i el2 t i2 ifs scope2 q2 eq
      cases eq
      rw [Bool.and_eq_true] at h0; obtain ⟨h1, h0⟩ := h0
      rw [Bool.and_eq_true] at h0; obtain ⟨h2, h0⟩ := h0
      rw [Bool.and_eq_true] at h0; obtain ⟨h3, h0⟩ := h0
      rw [Bool.and_eq_true] at h0; obtain ⟨h4, h0⟩ := h0
      rw [Bool.and_eq_true] at h0; obtain ⟨h5, h0⟩ := h0
      rw [Bool.and_eq_true] at h0; obtain ⟨h6, h0⟩ := h0
      have hv := own_snd h1
      have hpe := ps_setLc (pos := q) (spos := pos) G.calm (by rw [G.hN]; exact G.nd) (by rw [G.hN]; exact hi) (by rw [G.hsc]; exact hx) hw (snd_src (fun e h => (snds srcs e h).e) G tk h1 h4) (G.blkOk h2) (fun s H C cl fp => pg_blk G h1 h3 (fun p hp => hp) s H C cl fp)
        (fun s H C cl fp => snd_conds (fun e h => (snds conds e h).t) (G.blk s H scope C cl fp) (takes0 : Takes _ W0) h5) (fun s H C cl fp => (snd elt).e (G.blk s H scope C cl fp) (takes0 : Takes _ W0) h0) (fun x => noFold h6 _ x)
      rw [hv] at hpe
      exact hpe.imp fun D σ H q => comp_read (hr _ _ _ _ _ rfl _ _ _ q)
    · exact absurd h0 Bool.false_ne_true
/-- the values of a comprehension, read from then on -/
theorem tE_tC {sk : Sk} {tg : List Nat} {srcs conds : List E} {elt : E} {σ : L2.St} {H : Hp} {Q : VK} (h : tE W Φ (.comp sk tg srcs conds elt) Wx σ H Q) : tC W Φ sk tg srcs conds elt Wx σ H Q := by
  obtain ⟨Δ, Z, hE, hz, q⟩ := h
  refine ⟨Δ, Z, hE, hz, ?_⟩
  rw [ev_compC] at q
  cases e : evC Φ sk tg srcs conds elt Δ with
  | ok ys =>
    rw [e] at q
    intro Z1 H1 p av Z' H' x hp s
    obtain ⟨m1, m2⟩ := s.fin hp
    exact q _ _ _ (x.trans m1) m2
  | ex c fs => rw [e] at q; exact q
  | bad => rw [e] at q; exact q
theorem tO_tC {sk : Sk} {tg : List Nat} {srcs conds : List E} {elt : E} {σ : L2.St} {H : Hp} {Q : VK} (h : tO W Φ (.comp sk tg srcs conds elt) Wx σ H Q) : tC W Φ sk tg srcs conds elt Wx σ H Q := by
  obtain ⟨Δ, Z, hE, hz, q⟩ := h
  have q : PostO W Z H (evC Φ sk tg srcs conds elt Δ) Q fun c d H' => Wx c d σ H' := q
  refine ⟨Δ, Z, hE, hz, ?_⟩
  cases e : evC Φ sk tg srcs conds elt Δ with
  | ok ys =>
    rw [e] at q
    intro Z1 H1 p av Z' H' x hp s
    exact q p av Z' H' (x.trans ⟨s.hh, s.zz, s.zh, s.new⟩) s.zD (x.hh.free hp) s.at_ s.rep
  | ex c fs => rw [e] at q; exact q
  | bad => rw [e] at q; exact q
end
end R
end

section
set_option autoImplicit true
set_option linter.all false
/-! printed by eqs.py R17 -/
namespace R
open PySem PySem.Spec PyProof.Rows L2
variable {T : Th} {N : List PySem.Str} {sc : Scope} {st : Stmt}
theorem chkS_set : chkS T N sc (.set i e) st = match st with
      | .Assign [.Name x _] ex _ => decide (N[i]? = some x) && (locB sc x && chkE T N sc e ex)
      | _ => false := rfl
theorem chkS_setc : chkS T N sc (.setc i e) st = match st with
      | .Assign [.Name x _] ex _ => decide (N[i]? = some x) && (locB sc x && chkE T N sc e ex)
      | _ => false := rfl
theorem chkS_own : chkS T N sc (.own i e) st = match st with
      | .Assign [.Name x _] ex _ => decide (N[i]? = some x) && (locB sc x && chkE T N sc e ex)
      | _ => false := rfl
theorem chkS_ownT : chkS T N sc (.ownT u1 u2 u3) u4 = false := rfl
theorem chkS_mv : chkS T N sc (.mv i j) st = match st with
      | .Assign [.Name x _] (.Name y _) _ => decide (N[i]? = some x) && (locB sc x && nmB N sc j y)
      | _ => false := rfl
theorem chkS_al : chkS T N sc (.al u1 u2 u3) u4 = false := rfl
theorem chkS_frz : chkS T N sc (.frz u1) u2 = false := rfl
theorem chkS_app : chkS T N sc (.app j e) st = match st with
      | .Expr (.Call (.Attribute (.Name y _) m p) [x] [] q) _ => decide (m = "append") && (nmB N sc j y && (p.endLine == q.line && (nst x && chkE T N sc e x)))
      | _ => false := rfl
theorem chkS_appV : chkS T N sc (.appV u1 u2) u3 = false := rfl
theorem chkS_setI : chkS T N sc (.setI j ie e) st = match st with
      | .Assign [.Subscript (.Name y _) ix _] ex _ => nmB N sc j y && (nsl ix && (chkE T N sc ie ix && chkE T N sc e ex))
      | _ => false := rfl
theorem chkS_aug : chkS T N sc (.aug u1 u2 u3) u4 = false := rfl
theorem chkS_unp : chkS T N sc (.unp i j e) st = match st with
      | .Assign [.Tuple [.Name x _, .Name y _] _ _] ex _ => decide (N[i]? = some x) && (decide (N[j]? = some y) && (locB sc x && (locB sc y && (nTup ex && chkE T N sc e ex))))
      | _ => false := rfl
theorem chkS_ret : chkS T N sc (.ret e) st = match st with
      | .Return (some ex) _ => chkE T N sc e ex
      | _ => false := rfl
theorem chkS_retN : chkS T N sc .retN st = match st with
      | .Return none _ => true
      | _ => false := rfl
theorem chkS_retV : chkS T N sc (.retV u1) u2 = false := rfl
theorem chkS_ifs : chkS T N sc (.ifs c a b) st = match st with
      | .If t x y _ => tok c && (chkE T N sc c t && (chkSs T N sc a x && chkSs T N sc b y))
      | _ => false := rfl
theorem chkS_whl : chkS T N sc (.whl c b u1) st = match st with
      | .While t x [] _ => tok c && (chkE T N sc c t && chkSs T N sc b x)
      | _ => false := rfl
theorem chkS_fr : chkS T N sc (.fr sk tg srcs b u1) st = match st with
      | .For t i x [] _ => tgB N (ownOf t tg) t tg && ((ownOf t tg).all (fun p => locB sc p.1) && (chkI T N sc sk tg i srcs && (nset i && chkSs T N sc b x)))
      | _ => false := rfl
theorem chkS_expr : chkS T N sc (.expr e) st = match st with
      | .Expr ex _ => isCall ex && chkE T N sc e ex
      | _ => false := rfl
theorem chkS_pass : chkS T N sc .pass st = match st with
      | .Pass _ => true
      | _ => false := rfl
theorem chkS_brk : chkS T N sc .brk st = match st with
      | .Break _ => true
      | _ => false := rfl
theorem chkS_cnt : chkS T N sc .cnt st = match st with
      | .Continue _ => true
      | _ => false := rfl
theorem chkS_never : chkS T N sc .never u1 = true := rfl
theorem chkSs_l0 : chkSs T N sc [] sts = sts.isEmpty := rfl
theorem chkSs_cons1 : chkSs T N sc (x :: xs) sts = if ghost x then chkSs T N sc xs sts else match sts with
      | st :: r => chkS T N sc x st && chkSs T N sc xs r
      | [] => false := rfl
end R
end

section
set_option Elab.async false
set_option linter.all false
set_option maxRecDepth 100000
set_option maxHeartbeats 8000000
/-! R18: a statement that passes the check does what the compact form says. -/
namespace R
open PySem PySem.Spec PyProof.Rows L2
section
variable {T : Th} {W : Wo} {Φ : Or} {k : Nat} {N : List PySem.Str} {sc : Scope} {X : Cx} {Wx : WX} {D : Ends} {σ : L2.St} {H : Hp}
theorem sset {i : Nat} {e : E} {st : Stmt} (G : Good T W Φ k N sc X) (tk : Takes X Wx) (B : Body X sc) (h : chkS T N sc (.set i e) st = true) : PS X st (tS W (exS Φ (.set i e)) Wx) := by
  rw [chkS_set] at h
  split at h
  · rename_i x p ex pos
    obtain ⟨h1, h2⟩ := ba h
    obtain ⟨h2, h3⟩ := ba h2
    refine (asg_gen G tk B (de h1) h2 h3 ((snd e).e G tk h3) fun sk tg srcs conds elt q σ H Q r => by subst q; exact tE_tC r).imp fun D σ H ⟨Z0, H0, s, Z, as, R, q⟩ => ?_
    rw [exS_set] at q
    refine ⟨mask s, Z, R.envM, R.x.zh, read_mask R q fun d v Z' H' _ x r q => ?_⟩
    exact q _ _ _ as ((R.stepM x).set (v := .sh d) r) x.zz
  · exact absurd h Bool.false_ne_true
theorem ssetc {i : Nat} {e : E} {st : Stmt} (G : Good T W Φ k N sc X) (tk : Takes X Wx) (B : Body X sc) (h : chkS T N sc (.setc i e) st = true) : PS X st (tS W (exS Φ (.setc i e)) Wx) := by
  rw [chkS_setc] at h
  split at h
  · rename_i x p ex pos
    obtain ⟨h1, h2⟩ := ba h
    obtain ⟨h2, h3⟩ := ba h2
    refine (asg_gen G tk B (de h1) h2 h3 ((snd e).e G tk h3) fun sk tg srcs conds elt q σ H Q r => by subst q; exact tE_tC r).imp fun D σ H ⟨Z0, H0, s, Z, as, R, q⟩ => ?_
    rw [exS_setc] at q
    refine ⟨snap s, _, R.env, R.zsH, read_snap R q fun d v Z' H' _ x r q => ?_⟩
    split at q
    · rename_i hn
      exact q _ _ _ as ((R.step x).set (v := .sh d) (R.keep x r hn)) (R.cutSame x)
    · rw [PostS_bad] at q; exact q.elim
  · exact absurd h Bool.false_ne_true
theorem sown {i : Nat} {e : E} {st : Stmt} (G : Good T W Φ k N sc X) (tk : Takes X Wx) (B : Body X sc) (h : chkS T N sc (.own i e) st = true) : PS X st (tS W (exS Φ (.own i e)) Wx) := by
  rw [chkS_own] at h
  split at h
  · rename_i x p ex pos
    obtain ⟨h1, h2⟩ := ba h
    obtain ⟨h2, h3⟩ := ba h2
    refine (asg_gen G tk B (de h1) h2 h3 (own G tk h3) fun sk tg srcs conds elt q σ H Q r => by subst q; exact tO_tC r).imp fun D σ H ⟨Z0, H0, s, Z, as, R, q⟩ => ?_
    rw [exS_own] at q
    refine ⟨snap s, _, R.env, R.zsH, ?_⟩
    cases r : evO Φ e (snap s) with
    | ex c fs =>
      rw [r] at q
      exact fun dx Z' H' x e => q dx σ H' _ as Z' (R.step x) (R.extZ x) e
    | bad => rw [r] at q; exact q
    | ok ds =>
      rw [r] at q
      intro a vs Z' H' x zp hp hq rv
      simp only [onR_ok] at q
      split at q
      · rename_i hn
        have R2 := R.step x
        have np : a ∉ as := fun m => (R.ne a m).1 hp
        have R3 := R2.alloc (p := a) hq (by
          unfold cutZ
          split
          · rfl
          · exact zp) (R.x.hh.free hp) np (RepSs.ofL (R.keepL x rv hn))
        refine q _ _ _ _ (R3.set (i := i) (v := .loc s.m.length) (u := .ref a) ⟨a, ?_, rfl⟩) (R.cutSame x)
        rw [← R.al, List.getElem?_append_right (Nat.le_refl _), Nat.sub_self]
        rfl
      · rw [PostS_bad] at q; exact q.elim
  · exact absurd h Bool.false_ne_true
/-- a name is read -/
theorem nm_pe {j : Nat} {y : PySem.Str} {p : Pos} (G : Good T W Φ k N sc X) (h : nmB N sc j y = true) : PE X (.Name y p) (tVar j) := by
  unfold nmB at h
  obtain ⟨h1, h2⟩ := ba h
  obtain ⟨h2, h3⟩ := ba h2
  obtain ⟨h3, h4⟩ := plainNm_of h3
  exact pe_var (i := j) (by rw [G.hN]; exact de h1) (by rw [G.hsc]; exact vis_of h2) h3 h4
theorem slotV_get {s : PSt} {i : Nat} {v : SV} (h : slotV s i = some v) : s.g[i]? = some (some v) := by
  unfold slotV at h
  split at h
  · rename_i w e
    injection h with h
    subst h
    exact e
  · cases h
theorem cellOf_get {s : PSt} {j kk : Nat} {xs : List SV} (h : cellOf s j = some (kk, xs)) : s.g[j]? = some (some (.loc kk)) ∧ s.m[kk]? = some (.ls xs) := by
  unfold cellOf at h
  split at h
  · rename_i n e
    split at h
    · rename_i ys e2
      injection h with h
      injection h with h1 h2
      subst h1; subst h2
      exact ⟨slotV_get e, e2⟩
    · cases h
  · cases h
theorem smv {i j : Nat} {st : Stmt} (G : Good T W Φ k N sc X) (tk : Takes X Wx) (B : Body X sc) (h : chkS T N sc (.mv i j) st = true) : PS X st (tS W (exS Φ (.mv i j)) Wx) := by
  rw [chkS_mv] at h
  split at h
  · rename_i x p y p2 pos
    obtain ⟨h1, h2⟩ := ba h
    obtain ⟨h2, h3⟩ := ba h2
    refine (ps_set (by rw [G.hN]; exact G.nd) (by rw [G.hN]; exact de h1) (by rw [G.hsc]; exact loc_of h2) (nm_pe G h3) rfl (.inl (B.fn x))).imp fun D σ H ⟨Z0, H0, s, Z, as, R, q⟩ => ?_
    rw [exS_mv] at q
    split at q
    · rename_i v e
      obtain ⟨u, e1, r⟩ := R.slot j v (slotV_get e)
      exact ⟨u, e1, q _ _ _ as (R.set r) (Same.refl _)⟩
    · rw [PostS_bad] at q; exact q.elim
  · exact absurd h Bool.false_ne_true
theorem sapp {j : Nat} {e : E} {st : Stmt} (G : Good T W Φ k N sc X) (tk : Takes X Wx) (B : Body X sc) (h : chkS T N sc (.app j e) st = true) : PS X st (tS W (exS Φ (.app j e)) Wx) := by
  rw [chkS_app] at h
  split at h
  · rename_i y p1 m p x cp pos
    obtain ⟨h1, h2⟩ := ba h
    obtain ⟨h2, h3⟩ := ba h2
    obtain ⟨h3, h4⟩ := ba h3
    obtain ⟨h4, h5⟩ := ba h4
    have e0 := de h1
    subst e0
    have hst := starEach_nst h4 [] X.env
    have hm := pe_bm (apos := p) (cpos := cp) PySem.F.plainAttrs_list PySem.F.slot_list_append PySem.F.type_list_append mt_append (nm_pe (p := p1) G h2) (pa_cons ((snd e).e G tk h5) pa_nil hst) rfl (by rw [hst]; rfl) h3 hst rfl
    refine (ps_expr hm rfl).imp fun D σ H ⟨Z0, H0, s, Z, as, R, q⟩ => ?_
    rw [exS_app] at q
    split at q
    · rename_i kk xs ec
      obtain ⟨c1, c2⟩ := cellOf_get ec
      obtain ⟨u, e1, a, ha, rfl⟩ := R.slot j _ c1
      obtain ⟨z, vs, hv, rv⟩ := R.cell kk xs c2 a ha
      refine ⟨_, e1, .inl ⟨rfl, vs, SqL.of hv⟩, snap s, _, R.env, R.zsH, read_snap R q fun d v Z' H' _ x r q => ?_⟩
      split at q
      · rename_i hn
        obtain ⟨hn1, hn2⟩ := ba hn
        have hn2 := de hn2
        have R2 := R.step x
        obtain ⟨z2, vs2, hv2, rv2⟩ := R2.cell kk xs c2 a ha
        refine ⟨a, vs2, v, rfl, rfl, hv2, ?_, ?_⟩
        · rw [rv2.length, ← LINE_eq]
          exact hn2
        · exact q _ _ _ as (R2.write c2 ha (rv2.append ⟨v, [], rfl, R.keep x r hn1, rfl⟩)) (R.cutSame x)
      · rw [PostS_bad] at q; exact q.elim
    · rw [PostS_bad] at q; exact q.elim
  · exact absurd h Bool.false_ne_true
theorem ssetI {j : Nat} {ie e : E} {st : Stmt} (G : Good T W Φ k N sc X) (tk : Takes X Wx) (B : Body X sc) (h : chkS T N sc (.setI j ie e) st = true) : PS X st (tS W (exS Φ (.setI j ie e)) Wx) := by
  rw [chkS_setI] at h
  split at h
  · rename_i y p1 ix p ex pos
    obtain ⟨h1, h2⟩ := ba h
    obtain ⟨h2, h3⟩ := ba h2
    obtain ⟨h3, h4⟩ := ba h3
    have hsw : swapsWithSole [.Subscript (.Name y p1) ix p] ex pos.line X.env = pure false := by
      show swapsWith ex (some (.Subscript (.Name y p1) ix p)) pos.line X.env = pure false
      cases ex <;> rfl
    have hst : swappedStores [.Subscript (.Name y p1) ix p] ex X.env = pure none := by cases ex <;> rfl
    have has : ∀ v, assign (.Subscript (.Name y p1) ix p) X.env v = (do
      let ov ← holding [v] (eval (.Name y p1) X.env)
      let iv ← holding [v, ov] (eval ix X.env)
      standAt p
      holding [v, ov, iv] (setItem ov iv v)
      release [v, ov, iv] []) := fun v => by
      cases ix <;> first | rfl | exact absurd h2 Bool.false_ne_true
    refine (ps_asg ((snd e).e G tk h4) (pg_sub (nm_pe G h1) ((snd ie).e G tk h3) set_list has) hsw hst rfl).imp fun D σ H ⟨Z0, H0, s, Z, as, R, q⟩ => ?_
    rw [exS_setI] at q
    refine ⟨snap s, _, R.env, R.zsH, read_snap R q fun d v Z' H' _ x r q => ?_⟩
    split at q
    · rename_i kk xs ec
      obtain ⟨c1, c2⟩ := cellOf_get ec
      have R2 := R.step x
      obtain ⟨u, e1, a, ha, rfl⟩ := R2.slot j _ c1
      have q := PostS.weak q (R.cutSame x)
      refine ⟨_, e1, snap s, _, R2.env, R2.zsH, read_snap R2 q fun z w Z2 H2 _ x2 r2 q => ?_⟩
      split at q
      · rename_i zz _
        simp only [Rep] at r2
        subst r2
        split at q
        · rename_i hn
          split at q
          · rename_i pp hp
            have R3 := R2.step x2
            obtain ⟨z3, vs3, hv3, rv3⟩ := R3.cell kk xs c2 a ha
            refine ⟨a, vs3, zz, pp, rfl, rfl, hv3, by rw [rv3.length]; exact hp, ?_⟩
            exact q _ _ _ as (R3.write c2 ha (rv3.set (y := .sh d) ((R.keep x r hn).mono (R2.cutSame x2)) pp)) (R2.cutSame x2)
          · rw [PostS_bad] at q; exact q.elim
        · rw [PostS_bad] at q; exact q.elim
      · rw [PostS_bad] at q; exact q.elim
    · rw [PostS_bad] at q; exact q.elim
  · exact absurd h Bool.false_ne_true
theorem sunp {i j : Nat} {e : E} {st : Stmt} (G : Good T W Φ k N sc X) (tk : Takes X Wx) (B : Body X sc) (h : chkS T N sc (.unp i j e) st = true) : PS X st (tS W (exS Φ (.unp i j e)) Wx) := by
  rw [chkS_unp] at h
  split at h
  · rename_i x p1 y p2 kk p ex pos
    rw [Bool.and_eq_true] at h; obtain ⟨h1, h⟩ := h
    rw [Bool.and_eq_true] at h; obtain ⟨h2, h⟩ := h
    rw [Bool.and_eq_true] at h; obtain ⟨h3, h⟩ := h
    rw [Bool.and_eq_true] at h; obtain ⟨h4, h⟩ := h
    rw [Bool.and_eq_true] at h; obtain ⟨h5, h⟩ := h
    have nd : X.N.Nodup := by rw [G.hN]; exact G.nd
    have hsw : swapsWithSole [.Tuple [.Name x p1, .Name y p2] kk p] ex pos.line X.env = pure false := by
      show swapsWith ex (some (.Tuple [.Name x p1, .Name y p2] kk p)) pos.line X.env = pure false
      cases ex <;> rfl
    have hst : swappedStores [.Tuple [.Name x p1, .Name y p2] kk p] ex X.env = pure none := by cases ex <;> first | rfl | exact absurd h5 Bool.false_ne_true
    have pg := pg_tup (k := kk) (pos := p) G.calm (pgs_cons (pg_name (pos := p1) nd (by rw [G.hN]; exact de h1) (by rw [G.hsc]; exact loc_of h3) (.inl (B.fn x))) (pgs_cons (pg_name (pos := p2) nd (by rw [G.hN]; exact de h2) (by rw [G.hsc]; exact loc_of h4) (.inl (B.fn y))) pgs_nil)) (n := 2)
    refine (ps_asg ((snd e).e G tk h) pg hsw hst rfl).imp fun D σ H ⟨Z0, H0, s, Z, as, R, q⟩ => ?_
    rw [exS_unp] at q
    refine ⟨mask s, Z, R.envM, R.x.zh, read_mask R q fun d v Z' H' _ x r q => ?_⟩
    split at q
    · rename_i a b _
      simp only [Rep] at r
      obtain ⟨t, us, rfl, r1, r2⟩ := r
      obtain ⟨u, w, rfl, q1, q2⟩ := r2.two
      rw [G.hK]
      refine ⟨t, [u, w], rfl, sqT_mono x.zh r1, rfl, u, [w], rfl, w, [], rfl, rfl, ?_⟩
      exact q _ _ _ as (((R.stepM x).set (v := .sh a) q1).set (v := .sh b) q2) x.zz
    · rw [PostS_bad] at q; exact q.elim
  · exact absurd h Bool.false_ne_true
theorem sret {e : E} {st : Stmt} (G : Good T W Φ k N sc X) (tk : Takes X Wx) (B : Body X sc) (h : chkS T N sc (.ret e) st = true) : PS X st (tS W (exS Φ (.ret e)) Wx) := by
  rw [chkS_ret] at h
  split at h
  · refine (ps_ret ((snd e).e G tk h)).imp fun D σ H ⟨Z0, H0, s, Z, as, R, q⟩ => ?_
    rw [exS_ret] at q
    refine ⟨snap s, _, R.env, R.zsH, read_snap R q fun d v Z' H' _ x r q => ?_⟩
    exact q v Z' H' [] (R.extZ x) (by simp only [RepT]; exact ⟨r, trivial⟩) (fun b hb => by cases hb) List.nodup_nil
  · exact absurd h Bool.false_ne_true
theorem sretN {st : Stmt} (G : Good T W Φ k N sc X) (tk : Takes X Wx) (B : Body X sc) (h : chkS T N sc .retN st = true) : PS X st (tS W (exS Φ .retN) Wx) := by
  rw [chkS_retN] at h
  split at h
  · refine ps_retN.imp fun D σ H ⟨Z0, H0, s, Z, as, R, q⟩ => ?_
    rw [exS_retN] at q
    exact q .non Z H [] R.x (by simp only [RepT, Rep]; trivial) (fun b hb => by cases hb) List.nodup_nil
  · exact absurd h Bool.false_ne_true
theorem sexpr {e : E} {st : Stmt} (G : Good T W Φ k N sc X) (tk : Takes X Wx) (B : Body X sc) (h : chkS T N sc (.expr e) st = true) : PS X st (tS W (exS Φ (.expr e)) Wx) := by
  rw [chkS_expr] at h
  split at h
  · rename_i ex pos
    obtain ⟨h1, h2⟩ := ba h
    have hsw : swapsWith ex none pos.line X.env = pure false := by cases ex <;> first | rfl | exact absurd h1 Bool.false_ne_true
    refine (ps_expr ((snd e).e G tk h2) hsw).imp fun D σ H ⟨Z0, H0, s, Z, as, R, q⟩ => ?_
    rw [exS_expr] at q
    refine ⟨snap s, _, R.env, R.zsH, read_snap R q fun d v Z' H' _ x r q => ?_⟩
    exact q _ _ _ as (R.step x) (R.cutSame x)
  · exact absurd h Bool.false_ne_true
theorem sif {c : E} {a b : List S} {st : Stmt} (G : Good T W Φ k N sc X) (tk : Takes X Wx) (B : Body X sc) (h : chkS T N sc (.ifs c a b) st = true)
    (ha : ∀ {sts : List Stmt}, chkSs T N sc a sts = true → PSs X sts (tS W (exSs Φ a) Wx)) (hb : ∀ {sts : List Stmt}, chkSs T N sc b sts = true → PSs X sts (tS W (exSs Φ b) Wx)) : PS X st (tS W (exS Φ (.ifs c a b)) Wx) := by
  rw [chkS_ifs] at h
  split at h
  · obtain ⟨h1, h2⟩ := ba h
    obtain ⟨h2, h3⟩ := ba h2
    obtain ⟨h3, h4⟩ := ba h3
    refine (ps_if ((snd c).t G tk h1 h2) (ha h3) (hb h4)).imp fun D σ H ⟨Z0, H0, s, Z, as, R, q⟩ => ?_
    rw [exS_ifs] at q
    refine ⟨snap s, _, R.env, R.zsH, read_snap R q fun d v Z' H' _ x r q => ?_⟩
    have e : v = d := r
    subst e
    cases v with
    | true => exact ⟨Z0, H0, s, _, as, R.step x, PostS.weak q (R.cutSame x)⟩
    | false => exact ⟨Z0, H0, s, _, as, R.step x, PostS.weak q (R.cutSame x)⟩
  · exact absurd h Bool.false_ne_true
/-- behind a turn -/
theorem turn_end {vs : List Nat} {n : Nat} {o : Out} {f : PSt → Out} {Z0 H0 Zi : Hp} {Nn : L2.St → Hp → Prop} (q : PostS W Z0 H0 Zi (nextTurn vs n o f) D Wx)
    (nn : ∀ σ H s Z as, Rel W Z0 H0 s σ H Z as → Same Zi Z → PostS W Z0 H0 Zi (f s) D Wx → Nn σ H) : PostS W Z0 H0 Zi o { D with nx := Nn, ct := Nn, bk := D.nx } Wx := by
  have go : ∀ s, PostS W Z0 H0 Zi (match tidy vs n s with | some s' => f s' | none => .bad) D Wx → ∀ σ H Z as, Rel W Z0 H0 s σ H Z as → Same Zi Z → Nn σ H := fun s q σ H Z as R z => by
    cases e : tidy vs n s with
    | none => rw [e] at q; exact False.elim q
    | some s' =>
      rw [e] at q
      obtain ⟨bs, R'⟩ := R.tidy e
      exact nn _ _ _ _ _ R' z q
  cases o with
  | nx s => exact go s q
  | ct s => exact go s q
  | bk s => exact q
  | rt t => exact q
  | ex c fs s => exact q
  | bad => exact q
theorem swhl {c : E} {b : List S} {vs : List Nat} {st : Stmt} (G : Good T W Φ k N sc X) (tk : Takes X Wx) (B : Body X sc) (h : chkS T N sc (.whl c b vs) st = true)
    (hb : ∀ {sts : List Stmt}, chkSs T N sc b sts = true → PSs X sts (tS W (exSs Φ b) Wx)) : PS X st (tS W (exS Φ (.whl c b vs)) Wx) := by
  rw [chkS_whl] at h
  split at h
  · obtain ⟨h1, h2⟩ := ba h
    obtain ⟨h2, h3⟩ := ba h2
    refine (ps_while B.own ((snd c).t G tk h1 h2) (hb h3)).imp fun D σ H ⟨Z0, H0, s, Z, as, R, q⟩ => ?_
    rw [exS_whl] at q
    unfold whlO at q
    split at q
    · rename_i hh
      refine ⟨fun m σ H => ∃ s' Z' as', Rel W Z0 H0 s' σ H Z' as' ∧ PostS W Z0 H0 Z' (whlR vs s.m.length (fun s => tob (ev Φ c (snap s))) (exSs Φ b) m s') D Wx, ⟨_, _, Z, as, R.wipe vs, q⟩, ?_⟩
      rintro m σ H ⟨s', Z', as', R', q'⟩
      cases m with
      | zero => rw [whlR, PostS_bad] at q'; exact q'.elim
      | succ m =>
        rw [whlR] at q'
        refine ⟨snap s', _, R'.env, R'.zsH, read_snap R' q' fun d v Z2 H2 _ x r q2 => ?_⟩
        have e : v = d := r
        subst e
        have R2 := R'.step x
        have z2 := R'.cutSame x
        cases v with
        | false =>
          simp only [Bool.false_eq_true, if_false] at q2 ⊢
          exact q2 _ _ _ _ R2 z2
        | true =>
          simp only [if_true] at q2 ⊢
          refine ⟨fun σ H => ∃ s' Z' as', Rel W Z0 H0 s' σ H Z' as' ∧ PostS W Z0 H0 Z' (whlR vs s.m.length (fun s => tob (ev Φ c (snap s))) (exSs Φ b) m s') D Wx, fun σ' H' w => ⟨m, Nat.lt_succ_self m, w⟩, Z0, H0, s', _, as', R2, ?_⟩
          exact turn_end (PostS.weak q2 z2) fun σ H s Z as R z q => ⟨s, Z, as, R, PostS.weak q z⟩
    · rw [PostS_bad] at q; exact q.elim
  · exact absurd h Bool.false_ne_true
theorem bind_tg {tg : List Nat} {d : _root_.R.D} {x : V} {s s' : PSt} {σ : L2.St} {H Z Z0 H0 : Hp} {as : List Addr} {Rr : L2.St → Hp → Prop} (h : bindS tg d s = some s') (R : Rel W Z0 H0 s σ H Z as) (r : Rep W Z d x)
    (go : ∀ σ2, Rel W Z0 H0 s' σ2 H Z as → Rr σ2 H) : gOf W.K tg x σ H Rr := by
  unfold bindS at h
  split at h
  · injection h with h
    subst h
    exact go _ (R.set (v := .sh d) r)
  · split at h
    · rename_i a b
      injection h with h
      subst h
      simp only [Rep] at r
      obtain ⟨t, us, rfl, h1, h2⟩ := r
      obtain ⟨u, v, rfl, r1, r2⟩ := h2.two
      exact ⟨t, [u, v], rfl, sqT_mono R.x.zh h1, rfl, u, [v], rfl, v, [], rfl, rfl, go _ ((R.set (v := .sh a) r1).set (v := .sh b) r2)⟩
    · cases h
  · cases h
theorem sfr {sk : Sk} {tg : List Nat} {srcs : List E} {b : List S} {vs : List Nat} {st : Stmt} (G : Good T W Φ k N sc X) (tk : Takes X Wx) (B : Body X sc) (h : chkS T N sc (.fr sk tg srcs b vs) st = true)
    (hb : ∀ {sts : List Stmt}, chkSs T N sc b sts = true → PSs X sts (tS W (exSs Φ b) Wx)) : PS X st (tS W (exS Φ (.fr sk tg srcs b vs)) Wx) := by
  rw [chkS_fr] at h
  split at h
  · rename_i t it body pos
    rw [Bool.and_eq_true] at h; obtain ⟨h1, h⟩ := h
    rw [Bool.and_eq_true] at h; obtain ⟨h2, h⟩ := h
    rw [Bool.and_eq_true] at h; obtain ⟨h3, h⟩ := h
    rw [Bool.and_eq_true] at h; obtain ⟨h4, h⟩ := h
    have pg := pg_of G.hN G.nd G.calm G.hK h1 fun p hp => ⟨by rw [G.hsc]; exact loc_of (List.all_eq_true.mp h2 p hp), .inl (B.fn p.1)⟩
    refine (ps_for B.own G.calm (snd_src (fun e h => (snds srcs e h).e) G tk h1 h3) pg (hb h) (fun x => noFold h4 _ x)).imp fun D σ H ⟨Z0, H0, s, Z, as, R, q⟩ => ?_
    rw [exS_fr] at q
    -- the loop
    have loop : ∀ (items : List _root_.R.D) (J : It) (Zw Z1 : Hp) (H1 : Hp), (∀ Zx, (isRg sk = true ∨ Same Zw Zx) → Walk W J Zx items) → Same Zw Z1 → Rel W Z0 H0 s σ H1 Z1 as → PostS W Z0 H0 Z1 (forR vs s.m.length (fun x s => match bindS tg x s with | some s' => exSs Φ b s' | none => .bad) items ⟨wipeS s.g vs, s.m⟩) D Wx →
        ∃ Wd : Nat → Nat → L2.St → Hp → Prop, (∃ m, Wd 0 m σ H1) ∧ ∀ i m σ H, Wd i m σ H → (J.stop i H ∧ D.nx σ H) ∨ (J.go i H ∧ ∃ Nn : L2.St → Hp → Prop, (∀ σ' H', Nn σ' H' → ∃ m', m' < m ∧ Wd (i + 1) m' σ' H') ∧
          ∀ x H', J.yld i H x H' → gOf W.K tg x σ H' fun σ2 H2 => tS W (exSs Φ b) Wx { D with nx := Nn, ct := Nn, bk := D.nx } σ2 H2) := by
      intro items J Zw Z1 H1 wk zw R1 q1
      refine ⟨fun i m σ H => m = items.length - i ∧ i ≤ items.length ∧ ∃ s' Z' as', Rel W Z0 H0 s' σ H Z' as' ∧ Same Zw Z' ∧ PostS W Z0 H0 Z' (forR vs s.m.length (fun x s => match bindS tg x s with | some s' => exSs Φ b s' | none => .bad) (items.drop i) s') D Wx,
        ⟨_, rfl, Nat.zero_le _, _, Z1, as, R1.wipe vs, zw, q1⟩, ?_⟩
      rintro i m σ H ⟨rfl, hi, s', Z', as', R', zw', q'⟩
      have wk' := wk Z' (.inr zw')
      by_cases hlt : i < items.length
      · have hd : items[i]? = some items[i] := List.getElem?_eq_getElem hlt
        rw [List.drop_eq_getElem_cons hlt, forR] at q'
        refine .inr ⟨wk'.go i H _ R'.x.zh hd, fun σ H => ∃ s' Z' as', Rel W Z0 H0 s' σ H Z' as' ∧ Same Zw Z' ∧ PostS W Z0 H0 Z' (forR vs s.m.length (fun x s => match bindS tg x s with | some s' => exSs Φ b s' | none => .bad) (items.drop (i + 1)) s') D Wx, fun σ' H' w => ⟨items.length - (i + 1), by omega, rfl, hlt, w⟩, fun x H' y => ?_⟩
        obtain ⟨Z2, x2, r2⟩ := wk'.yld i H _ x H' Z' (Same.refl _) R'.x.zh hd y
        have R2 := R'.stepM x2
        cases eb : bindS tg items[i] s' with
        | none => rw [eb] at q'; exact False.elim q'
        | some s2 =>
          rw [eb] at q'
          refine bind_tg eb R2 r2 fun σ2 R3 => ⟨Z0, H0, s2, Z2, as', R3, ?_⟩
          exact turn_end (PostS.weak q' x2.zz) fun σ H s Z as R z q => ⟨s, Z, as, R, (zw'.trans x2.zz).trans z, PostS.weak q z⟩
      · have e : i = items.length := by omega
        subst e
        rw [List.drop_length, forR] at q'
        exact .inl ⟨wk'.stop _ H R'.x.zh (Nat.le_refl _), q' _ _ _ _ R' (Same.refl _)⟩
    have done : ∀ {a : Res (List _root_.R.D)}, isRg sk = true → (∀ r, a = r → PostS W Z0 H0 Z (onR r s fun items => forR vs s.m.length (fun x s => match bindS tg x s with | some s' => exSs Φ b s' | none => .bad) items ⟨wipeS s.g vs, s.m⟩) D Wx) → a = (evs Φ srcs (snap s)).bind (srcR sk) → tI W Φ sk srcs Wx σ H fun J H1 => ∃ Wd : Nat → Nat → L2.St → Hp → Prop, (∃ m, Wd 0 m σ H1) ∧ ∀ i m σ H, Wd i m σ H → (J.stop i H ∧ D.nx σ H) ∨ (J.go i H ∧ ∃ Nn : L2.St → Hp → Prop, (∀ σ' H', Nn σ' H' → ∃ m', m' < m ∧ Wd (i + 1) m' σ' H') ∧
          ∀ x H', J.yld i H x H' → gOf W.K tg x σ H' fun σ2 H2 => tS W (exSs Φ b) Wx { D with nx := Nn, ct := Nn, bk := D.nx } σ2 H2) := by
      intro a hr q ha
      refine ⟨snap s, _, R.env, R.zsH, ?_⟩
      have q := q _ rfl
      rw [← ha]
      cases a with
      | ok items => exact fun J Z1 H1 x wk wr => loop items J Z _ H1 (fun Zx _ => wr hr Zx) (R.cutSame x) (R.step x) (PostS.weak q (R.cutSame x))
      | ex c fs => exact fun dx Z' H' x e => q dx σ H' _ as Z' (R.step x) (R.extZ x) e
      | bad => exact q
    have done2 : ∀ {a : Res (List _root_.R.D)}, (∀ r, a = r → PostS W Z0 H0 Z (onR r s fun items => forR vs s.m.length (fun x s => match bindS tg x s with | some s' => exSs Φ b s' | none => .bad) items ⟨wipeS s.g vs, s.m⟩) D Wx) → a = (evs Φ srcs (mask s)).bind (srcR sk) → tI W Φ sk srcs Wx σ H fun J H1 => ∃ Wd : Nat → Nat → L2.St → Hp → Prop, (∃ m, Wd 0 m σ H1) ∧ ∀ i m σ H, Wd i m σ H → (J.stop i H ∧ D.nx σ H) ∨ (J.go i H ∧ ∃ Nn : L2.St → Hp → Prop, (∀ σ' H', Nn σ' H' → ∃ m', m' < m ∧ Wd (i + 1) m' σ' H') ∧
          ∀ x H', J.yld i H x H' → gOf W.K tg x σ H' fun σ2 H2 => tS W (exSs Φ b) Wx { D with nx := Nn, ct := Nn, bk := D.nx } σ2 H2) := by
      intro a q ha
      refine ⟨mask s, Z, R.envM, R.x.zh, ?_⟩
      have q := q _ rfl
      rw [← ha]
      cases a with
      | ok items =>
        refine fun J Z1 H1 x wk wr => loop items J Z1 Z1 H1 (fun Zx hz => ?_) (Same.refl _) (R.stepM x) (PostS.weak q x.zz)
        rcases hz with hz | hz
        · exact wr hz Zx
        · exact wk.mono hz
      | ex c fs => exact fun dx Z' H' x e => q dx σ H' _ as Z' (R.stepM x) (R.x.trans x) e
      | bad => exact q
    cases sk with
    | r1 => exact done rfl (fun r e => by rw [← e]; exact q) rfl
    | r2 => exact done rfl (fun r e => by rw [← e]; exact q) rfl
    | seq => exact done2 (fun r e => by rw [← e]; exact q) rfl
    | zip => exact done2 (fun r e => by rw [← e]; exact q) rfl
  · exact absurd h Bool.false_ne_true
mutual
theorem sS (G : Good T W Φ k N sc X) (tk : Takes X Wx) (B : Body X sc) : ∀ (x : S) {st : Stmt}, chkS T N sc x st = true → PS X st (tS W (exS Φ x) Wx)
  | .set i e, _, h => sset G tk B h
  | .setc i e, _, h => ssetc G tk B h
  | .own i e, _, h => sown G tk B h
  | .ownT i f es, _, h => absurd h Bool.false_ne_true
  | .mv i j, _, h => smv G tk B h
  | .al i j e, _, h => absurd h Bool.false_ne_true
  | .frz i, _, h => absurd h Bool.false_ne_true
  | .app j e, _, h => sapp G tk B h
  | .appV j i, _, h => absurd h Bool.false_ne_true
  | .setI j ie e, _, h => ssetI G tk B h
  | .aug i o e, _, h => absurd h Bool.false_ne_true
  | .unp i j e, _, h => sunp G tk B h
  | .ret e, _, h => sret G tk B h
  | .retN, _, h => sretN G tk B h
  | .retV i, _, h => absurd h Bool.false_ne_true
  | .ifs c a b, _, h => sif G tk B h (fun q => sSs G tk B a q) (fun q => sSs G tk B b q)
  | .whl c b vs, _, h => swhl G tk B h (fun q => sSs G tk B b q)
  | .fr sk tg srcs b vs, _, h => sfr G tk B h (fun q => sSs G tk B b q)
  | .expr e, _, h => sexpr G tk B h
  | .pass, st, h => by
    rw [chkS_pass] at h
    split at h
    · refine ps_pass.imp fun D σ H ⟨Z0, H0, s, Z, as, R, q⟩ => ?_
      rw [exS_pass] at q
      exact q _ _ _ _ R (Same.refl _)
    · exact absurd h Bool.false_ne_true
  | .brk, st, h => by
    rw [chkS_brk] at h
    split at h
    · refine ps_break.imp fun D σ H ⟨Z0, H0, s, Z, as, R, q⟩ => ?_
      rw [exS_brk] at q
      exact q _ _ _ _ R (Same.refl _)
    · exact absurd h Bool.false_ne_true
  | .cnt, st, h => by
    rw [chkS_cnt] at h
    split at h
    · refine ps_continue.imp fun D σ H ⟨Z0, H0, s, Z, as, R, q⟩ => ?_
      rw [exS_cnt] at q
      exact q _ _ _ _ R (Same.refl _)
    · exact absurd h Bool.false_ne_true
  | .never, st, h => ps_never.imp fun D σ H ⟨Z0, H0, s, Z, as, R, q⟩ => q
theorem sSs (G : Good T W Φ k N sc X) (tk : Takes X Wx) (B : Body X sc) : ∀ (xs : List S) {sts : List Stmt}, chkSs T N sc xs sts = true → PSs X sts (tS W (exSs Φ xs) Wx)
  | [], sts, h => by
    rw [List.isEmpty_iff.mp h]
    exact pss_nil.imp fun D σ H ⟨Z0, H0, s, Z, as, R, q⟩ => q _ _ _ _ R (Same.refl _)
  | x :: xs, sts, h => by
    rw [chkSs_cons1] at h
    split at h
    · rename_i hg
      refine (sSs G tk B xs h).imp fun D σ H ⟨Z0, H0, s, Z, as, R, q⟩ => ?_
      cases x <;> exact absurd hg Bool.false_ne_true
    · split at h
      · obtain ⟨h1, h2⟩ := ba h
        refine (pss_cons (sS G tk B x h1) (sSs G tk B xs h2)).imp fun D σ H ⟨Z0, H0, s, Z, as, R, q⟩ => ⟨Z0, H0, s, Z, as, R, PostS.nxt q⟩
      · exact absurd h Bool.false_ne_true
end
end
end R
end

section
set_option Elab.async false
set_option linter.all false
set_option maxRecDepth 100000
set_option maxHeartbeats 8000000
/-! R19: a text's defs, checked; each keeps its promise, however deep the calls. -/
namespace R
open PySem PySem.Spec PyProof.Rows L2
theorem lk_zip : ∀ {ps : List PySem.Str} {us : List Value} {p : PySem.Str × Value}, ps.Nodup → p ∈ ps.zip us → (ps.zip us).lookup p.1 = some p.2
  | [], _, _, _, h => by simp at h
  | x :: ps, [], _, _, h => by simp at h
  | x :: ps, u :: us, p, nd, h => by
    rw [List.zip_cons_cons] at h ⊢
    rw [List.lookup_cons]
    rcases List.mem_cons.mp h with h | h
    · subst h
      simp
    · have ne : p.1 ≠ x := fun e => (List.nodup_cons.mp nd).1 (e ▸ (List.of_mem_zip h).1)
      rw [show (p.1 == x) = false from beq_eq_false_iff_ne.mpr ne]
      exact lk_zip (List.nodup_cons.mp nd).2 h
theorem fm_zip : ∀ (ps : List PySem.Str) (us : List Value), ps.Nodup → us.length = ps.length → ∀ (g : PySem.Str → Option Value), (∀ p ∈ ps.zip us, g p.1 = some p.2) → (ps.filterMap fun n => (g n).map fun v => (n, v)) = ps.zip us
  | [], _, _, _, _, _ => by simp
  | x :: ps, [], _, hl, _, _ => by simp at hl
  | x :: ps, u :: us, nd, hl, g, h => by
    rw [List.zip_cons_cons] at h ⊢
    rw [List.filterMap_cons, h (x, u) List.mem_cons_self]
    simp only [Option.map_some]
    rw [fm_zip ps us (List.nodup_cons.mp nd).2 (by simpa using hl) g fun p hp => h p (List.mem_cons_of_mem _ hp)]
theorem fl_zip {ps : List PySem.Str} {us : List Value} (nd : ps.Nodup) (hl : us.length = ps.length) {l : List PySem.Str} (h : ∀ n ∈ l, n ∈ ps) : l.filter (fun n => ((ps.zip us).lookup n).isNone) = [] := by
  rw [List.filter_eq_nil_iff]
  intro n hn
  obtain ⟨i, hi, e⟩ := List.getElem_of_mem (h n hn)
  have m : (n, us[i]'(by omega)) ∈ ps.zip us := by
    rw [List.mem_iff_getElem]
    exact ⟨i, by rw [List.length_zip]; omega, by rw [List.getElem_zip, e]⟩
  rw [lk_zip nd m]
  simp
theorem bind_args (x qual : PySem.Str) (body : List Stmt) (scope : Scope) (kV doc pm : Value) (an : Option Addr) (cdv ct : Value) (as : List Arg) (us : List Value) (nd : (as.map (·.arg)).Nodup) (hl : us.length = as.length) : bindArgs (PySem.W.fnOf x qual ⟨[], as, none, [], [], none, []⟩ body scope .none kV doc pm an cdv ct) ⟨us, []⟩ = pure ((as.map (·.arg)).zip us) := by
  have hl' : us.length = (as.map (·.arg)).length := by rw [List.length_map]; exact hl
  have fm := fm_zip (as.map (·.arg)) us nd hl' ((((as.map (·.arg)).zip us)).lookup ·) fun p hp => lk_zip nd hp
  rw [List.filterMap_map] at fm
  unfold bindArgs
  simp [PySem.W.fnOf, seqItems?, hl]
  rw [show notAStandIn Value.none = pure () from rfl]
  simp only [pure_bind]
  rw [if_neg (by rw [fl_zip nd hl' fun n hn => by simpa using List.mem_of_mem_take hn]; simp)]
  exact congrArg pure fm

structure Fun where
  name : PySem.Str
  st : Stmt
  N : List PySem.Str
  d : Def
def argsB : Arguments → List PySem.Str → Bool
  | ⟨[], as, none, [], [], none, []⟩, ps => decide (as.map (·.arg) = ps)
  | _, _ => false
def scB (N ps : List PySem.Str) (sc : Scope) : Bool := (match sc.kind with | .function => true | _ => false) && (!sc.isCoroutine && (!sc.isGenerator && (decide (List.Nodup N) && (ps.all (locB sc) && sc.names.all fun y => match y.2 with | .free => false | _ => true))))
def Fun.ps (f : Fun) : List PySem.Str := f.N.take f.d.np
def chkF (T : Th) (f : Fun) : Bool := argsB (defArgs f.st) f.ps && (decide (f.d.np ≤ f.N.length) && (decide (f.d.ns = f.N.length) && (scB f.N f.ps (defScope f.st) && chkSs T f.N (defScope f.st) f.d.body (defBody f.st))))
theorem scope_of {N ps : List PySem.Str} {sc : Scope} (h : scB N ps sc = true) (hp : N.take ps.length = ps) : FnScope N ps sc := by
  unfold scB at h
  rw [Bool.and_eq_true] at h; obtain ⟨h1, h⟩ := h
  rw [Bool.and_eq_true] at h; obtain ⟨h2, h⟩ := h
  rw [Bool.and_eq_true] at h; obtain ⟨h3, h⟩ := h
  rw [Bool.and_eq_true] at h; obtain ⟨h4, h⟩ := h
  rw [Bool.and_eq_true] at h; obtain ⟨h5, h⟩ := h
  refine ⟨?_, by simpa using h2, by simpa using h3, de h4, hp, fun x hx => loc_of (List.all_eq_true.mp h5 x hx), fun y hy e => ?_⟩
  · split at h1
    · assumption
    · cases h1
  · have q := List.all_eq_true.mp h y hy
    rw [e] at q
    cases q
structure FunOk (K : PySem.W.Frag) (mg : PySem.Str → Option Value) (f : Fun) (a : Addr) (fd : FuncData) : Prop where
  g : mg f.name = some (.ref a)
  d : FunD K f.name f.name (defArgs f.st) (defBody f.st) (defScope f.st) [] [] a fd
theorem args_eq {st : Stmt} {ps : List PySem.Str} (h : argsB (defArgs st) ps = true) : ∃ as : List Arg, defArgs st = ⟨[], as, none, [], [], none, []⟩ ∧ as.map (·.arg) = ps := by
  unfold argsB at h
  split at h
  · rename_i as e
    exact ⟨as, e, de h⟩
  · cases h
theorem binds_of {K : PySem.W.Frag} {f : Fun} {a : Addr} {fd : FuncData} (F : FunD K f.name f.name (defArgs f.st) (defBody f.st) (defScope f.st) [] [] a fd) (h : argsB (defArgs f.st) f.ps = true) (nd : f.ps.Nodup) : Binds K fd f.ps [] := by
  obtain ⟨as, e, q⟩ := args_eq h
  refine FunD.bindsN F fun kV doc pm an cdv ct us hl => ?_
  rw [e, ← q]
  exact bind_args _ _ _ _ _ _ _ _ _ _ as us (by rw [q]; exact nd) (by rw [hl, ← q, List.length_map])
theorem binds_all {K : PySem.W.Frag} {f : Fun} {a : Addr} {fd : FuncData} (F : FunD K f.name f.name (defArgs f.st) (defBody f.st) (defScope f.st) [] [] a fd) (h : argsB (defArgs f.st) f.ps = true) (nd : f.ps.Nodup) (s : Shared) (us : List Value) (hl : us.length = f.ps.length) : BindsTo s fd ⟨us, []⟩ (f.ps.zip us) := by
  obtain ⟨as, e, q⟩ := args_eq h
  refine FunD.bindsA F (fun kV doc pm an cdv ct us hl => ?_) s us hl
  rw [e, ← q]
  exact bind_args _ _ _ _ _ _ _ _ _ _ as us (by rw [q]; exact nd) (by rw [hl, ← q, List.length_map])
theorem dc_ok (K : PySem.W.Frag) : PySem.W.specialIn K (.builtin "object.__class__") "__get__" = some (some (.builtin "getset_descriptor.__get__")) ∧ PySem.W.takesIn K (.builtin "object.__class__") = some true := ⟨by rfl, by rfl⟩
/-- the text's defs as the check names them -/
def thOf (funs : List Fun) (b : Bool) : Th := ⟨funs.map fun f => .glob f.name f.d.np, [], [], b⟩
section
variable {P : Program} {w : World} {K : PySem.W.Frag} {mg : PySem.Str → Option Value} {base : Heap}
theorem enter_rel {W : Wo} {Z H : Hp} {ds : List D} {vs : List V} {N : List PySem.Str} {ns : Nat} (z : Same Z H) (r : RepL W Z ds vs) (hn : ns = N.length) (hl : vs.length ≤ N.length) : Rel W Z H (enter ns ds) (start N vs) H Z [] := by
  have l := r.length
  refine ⟨Ext.refl z, ?_, List.nodup_nil, rfl, fun a ha => by (cases ha), fun i v e => ?_, fun k xs e => by (simp [enter] at e)⟩
  · unfold enter L2.start
    simp only [List.length_append, List.length_map, List.length_replicate]
    omega
  · unfold enter at e
    simp only at e
    by_cases hi : i < ds.length
    · rw [List.getElem?_append_left (by rw [List.length_map]; exact hi), List.getElem?_map, List.getElem?_eq_getElem hi] at e
      simp only [Option.map_some, Option.some.injEq] at e
      subst e
      obtain ⟨u, e1, r1⟩ := r.get (List.getElem?_eq_getElem hi)
      refine ⟨u, ?_, r1⟩
      unfold L2.start
      show (vs.map some ++ _)[i]? = _
      rw [List.getElem?_append_left (by rw [List.length_map]; omega), List.getElem?_map, e1]
      rfl
    · rw [List.getElem?_append_right (by rw [List.length_map]; omega), List.getElem?_replicate] at e
      split at e <;> cases e
theorem level (W : Wo) (hK : W.K = K) (h0 : W.nC = 0) (funs : List Fun) (b : Bool) (A : Nat → Addr) (FD : Nat → FuncData) (ff : ∀ i f, funs[i]? = some f → FunOk K mg f (A i) (FD i)) (blt : ∀ x ∈ bNames, mg x = none) (gcd : b = true → mg "gcd" = some (.builtin "math.gcd"))
    (chk : ∀ f ∈ funs, chkF (thOf funs b) f = true) : ∀ (n i : Nat) (f : Fun), funs[i]? = some f → FnOk P w K mg base (L2.CX P w) n (A i) (FD i) f.ps (spF W (run (funs.map (·.d)) n) i f.ps.length) := by
  intro n
  induction n with
  | zero =>
    intro i f hf
    refine ⟨fun vs H Q E h => h.1, fun A outer s H args us vs Q E _ _ _ _ h => ?_⟩
    obtain ⟨_, ds, Z, _, _, q⟩ := h
    exact q.elim
  | succ n ih =>
    intro i f hf
    have F := (ff i f hf).d
    have hc := chk f (List.mem_of_getElem? hf)
    unfold chkF at hc
    rw [Bool.and_eq_true] at hc; obtain ⟨h1, hc⟩ := hc
    rw [Bool.and_eq_true] at hc; obtain ⟨h2, hc⟩ := hc
    rw [Bool.and_eq_true] at hc; obtain ⟨h3, hc⟩ := hc
    rw [Bool.and_eq_true] at hc; obtain ⟨h4, hc⟩ := hc
    have h2 := de h2
    have h3 := de h3
    have hpl : f.ps.length = f.d.np := by unfold Fun.ps; rw [List.length_take]; omega
    have S := scope_of h4 (by rw [hpl]; rfl)
    refine F.ok S (fun vs H Q E h => h.1) fun cdv A' outer s H vs Q E hr h => ?_
    obtain ⟨hl, ds, Z, z, r, q⟩ := h
    have fnd : (funs.map (·.d))[i]? = some f.d := by rw [List.getElem?_map, hf]; rfl
    have hds : ds.length = f.d.np := by rw [← r.length, hl, hpl]
    rw [run, fnd] at q
    simp only at q
    rw [if_pos hds] at q
    refine ⟨tS W (exSs (run (funs.map (·.d)) n) f.d.body) fun cls d _ H => E cls d H, ?_, Z, H, enter f.d.ns ds, Z, [], enter_rel z r h3 (by rw [hl, hpl]; exact h2), ?_⟩
    · refine sSs (T := thOf funs b) (k := n) (N := f.N) ?_ (takes_of rfl rfl rfl rfl) ?_ f.d.body hc
      · refine ⟨rfl, S.nd, rfl, rfl, hr, hK.symm, blt, gcd, fun f' x m hf' => ?_, h0, fun c ci e => by (simp [thOf] at e), fun c ci e => by (simp [thOf] at e), by rw [hK]; exact dc_ok K, fun f' c m ci e1 e2 => by (simp [thOf] at e2)⟩
        unfold thOf at hf'
        simp only at hf'
        rw [List.getElem?_map] at hf'
        cases e : funs[f']? with
        | none => rw [e] at hf'; cases hf'
        | some g =>
          rw [e] at hf'
          simp only [Option.map_some, Option.some.injEq, FnN.glob.injEq] at hf'
          obtain ⟨rfl, rfl⟩ := hf'
          have hg := chk g (List.mem_of_getElem? e)
          unfold chkF at hg
          rw [Bool.and_eq_true] at hg; obtain ⟨g1, hg⟩ := hg
          rw [Bool.and_eq_true] at hg; obtain ⟨g2, hg⟩ := hg
          rw [Bool.and_eq_true] at hg; obtain ⟨g3, hg⟩ := hg
          rw [Bool.and_eq_true] at hg; obtain ⟨g4, hg⟩ := hg
          have g2 := de g2
          have gpl : g.ps.length = g.d.np := by unfold Fun.ps; rw [List.length_take]; omega
          have GS := scope_of g4 (by rw [gpl]; rfl)
          have GF := ff f' g e
          refine ⟨A f', FD f', g.ps, gpl, GF.g, ?_, ?_, ?_⟩
          · rw [hK]; exact GF.d.kp
          · rw [hK]; exact ih f' g e
          · rw [hK]; exact binds_of GF.d g1 (by rw [← GS.pre]; exact GS.nd.sublist (List.take_sublist _ _))
      · exact ⟨fun _ => rfl, passes_of (K := fun e s'' => L2.CX P w outer H s E e s'') rfl, S.kind⟩
    · cases e : exSs (run (funs.map (·.d)) n) f.d.body (enter f.d.ns ds) with
      | nx s' =>
        rw [e] at q
        exact fun σ H' Z' as R _ => q .non Z' H' [] R.x (by simp only [RepT, Rep]; trivial) (fun b hb => by cases hb) List.nodup_nil
      | bk s' => rw [e] at q; exact q.elim
      | ct s' => rw [e] at q; exact q.elim
      | rt t => rw [e] at q; exact q
      | ex c fs s' =>
        rw [e] at q
        exact fun dx σ H' Z' as Zx R x er => q dx Zx H' x er
      | bad => rw [e] at q; exact q.elim
end
end R
end

section
set_option Elab.async false
set_option linter.all false
set_option maxRecDepth 100000
set_option maxHeartbeats 8000000
/-! R20: what the head tells of a text; the law's def. -/
namespace R
open PySem PySem.Spec PyProof.Rows L2
/-- the head's facts with one Bool more -/
def hookG (n : Nat) (fa : List He.Fa) (fn : List He.DefD) (ex : PySem.W.Frag → Bool) : PySem.W.Hook where
  α := He.AlD × Bool
  obs := fun s => (He.obsDG n fa fn s.heap.get?, ex (He.frG s.heap.get? (He.asD s.heap.get? n)))
  val := fun _ => (He.valD fn, true)
  says := fun _ h => ∃ K : PySem.W.Frag, K.In h ∧ He.SaysD fa fn K ∧ ex K = true
  of := fun _ _ e => ⟨_, He.frG_in, congrArg (fun z : He.AlD × Bool => z.1) e, congrArg (fun z : He.AlD × Bool => z.2) e⟩
  keeps := fun _ _ _ ⟨K, hK, c⟩ k => ⟨K, PySem.W.Frag.In.keeps hK k, c⟩
def obsG (n : Nat) (fa : List He.Fa) (fn : List He.DefD) (ex : PySem.W.Frag → Bool) (g : Addr → Option Obj) : He.AlD × Bool := (He.obsDG n fa fn g, ex (He.frG g (He.asD g n)))
theorem obsG_eq {n : Nat} {fa : List He.Fa} {fn : List He.DefD} {ex : PySem.W.Frag → Bool} {g : Addr → Option Obj} {s : Shared} (h : ∀ a, g a = s.heap.get? a) : obsG n fa fn ex g = (hookG n fa fn ex).obs s := by
  have e : g = s.heap.get? := funext h
  rw [e] <;> rfl
def Fun.dd (f : Fun) : He.DefD := ⟨(f.name, none), f.name, f.name, defArgs f.st, defBody f.st, defScope f.st, [], []⟩
def faOf (funs : List Fun) : List He.Fa := (funs.map fun f => .glo f.name) ++ bNames.map .free
def exOf (b : Bool) (K : PySem.W.Frag) : Bool := !b || He.eqO (PySem.W.nsIn K mainGlobals "gcd") (some (some (.builtin "math.gcd")))
def woOf (K : PySem.W.Frag) : Wo := ⟨K, 0, fun _ => 0, fun _ => [], fun _ => 0, fun _ => []⟩
/-- what a def may let out, at some world -/
def CXa : CXT := fun outer H s E u s' => ∃ P w, L2.CX P w outer H s E u s'
theorem CXa_not {H : Hp} {s : Shared} {e : Value} {s' : Shared} (h : CXa [] H s (fun _ _ _ => False) e s') : False := by
  obtain ⟨P, w, _, _, _, _, _, _, _, _, _, _, _, _, z⟩ := h
  exact z
theorem fn_cxa {P : Program} {w : World} {K : PySem.W.Frag} {mg : PySem.Str → Option Value} {base : Heap} {k : Nat} {f : Addr} {fd : FuncData} {ps : List PySem.Str} {sp : Sp} (F : FnOk P w K mg base (L2.CX P w) k f fd ps sp) : FnOk P w K mg base CXa k f fd ps sp :=
  ⟨F.len, fun A outer s H args us vs Q E hr he hb hv hs => codeAny_mono (F.run A outer s H args us vs Q E hr he hb hv hs) fun r s' q => by
    cases r with
    | ok fl => cases fl <;> exact q
    | error e => exact ⟨P, w, q⟩⟩
theorem law_of {P : Program} {w : World} {K : PySem.W.Frag} {h : Heap} {mg : PySem.Str → Option Value} {fa : Addr} {funs : List Fun} {b : Bool} {i : Nat} {fl : Fun} {x : PySem.Str} {most n : Nat} (X : K.In h) (G : h.Ns mainGlobals mg) (c : He.SaysD (faOf funs) (funs.map Fun.dd) K) (ce : exOf b K = true)
    (chk : ∀ f ∈ funs, chkF (thOf funs b) f = true) (hi : funs[i]? = some fl) (hps : fl.ps = [x]) (hmg : mg fl.name = some (.ref fa)) (hrun : ∀ ns : List Int, ns.length ≤ most → run (funs.map (·.d)) n i [.fz (ns.map .int)] = .ok (.sh (.bl true))) :
    ∃ (K : PySem.W.Frag) (fd : FuncData) (sp : Sp), K.In h ∧ (∀ (s : Shared) (u : Value), BindsTo s fd ⟨[u], []⟩ [(x, u)]) ∧
        (∀ (H : Hp) (a : Addr) (ns : List Int), ns.length ≤ most → Only H → SqL K H a (ns.map V.int) → sp [.ref a] H (fun v _ => v = .bl true) fun _ _ _ => False) ∧
        ∀ base : Heap, K.In base → base.Ns mainGlobals mg → FnOk P w K mg base CXa n fa fd [x] sp := by
  have one : ∀ (j : Nat) (f : Fun), funs[j]? = some f → ∃ p : Addr × FuncData, FunOk K mg f p.1 p.2 := fun j f hf => by
    have hd : (funs.map Fun.dd)[j]? = some f.dd := by rw [List.getElem?_map, hf]; rfl
    obtain ⟨fd, F⟩ := c.def_ j hd
    have hl := (List.getElem?_eq_some_iff.mp hf).1
    have hg : (faOf funs)[j]? = some (.glo f.name) := by
      unfold faOf
      rw [List.getElem?_append_left (by rw [List.length_map]; exact hl), List.getElem?_map, hf]
      rfl
    exact ⟨(_, fd), He.glo_ok X G (c.fact j hg), F⟩
  obtain ⟨p0, h0⟩ := one i fl hi
  have all : ∀ j : Nat, ∃ p : Addr × FuncData, ∀ f : Fun, funs[j]? = some f → FunOk K mg f p.1 p.2 := fun j => by
    cases e : funs[j]? with
    | none => exact ⟨p0, fun f q => by cases q⟩
    | some f =>
      obtain ⟨p, hp⟩ := one j f e
      exact ⟨p, fun g q => by cases q; exact hp⟩
  obtain ⟨F, hF⟩ := Classical.axiomOfChoice all
  have blt : ∀ y ∈ bNames, mg y = none := fun y hy => by
    obtain ⟨j, hj, e⟩ := List.getElem_of_mem hy
    have hg : (faOf funs)[funs.length + j]? = some (.free y) := by
      unfold faOf
      rw [List.getElem?_append_right (by rw [List.length_map]; omega), List.length_map, Nat.add_sub_cancel_left, List.getElem?_map, List.getElem?_eq_getElem hj, e]
      rfl
    exact He.free_ok X G (c.fact _ hg)
  have gcd : b = true → mg "gcd" = some (.builtin "math.gcd") := fun hb => by
    unfold exOf at ce
    rw [hb] at ce
    exact PySem.W.mg_of X G (He.eqO_ok ce)
  have lv := fun base => level (P := P) (w := w) (base := base) (woOf K) rfl rfl funs b (fun j => (F j).1) (fun j => (F j).2) (fun j f q => hF j f q) blt gcd chk n i fl hi
  have ok := hF i fl hi
  have ea : (F i).1 = fa := by
    have q := ok.g
    rw [hmg] at q
    injection q with q
    injection q with q
    exact q.symm
  have hc := chk fl (List.mem_of_getElem? hi)
  unfold chkF at hc
  rw [Bool.and_eq_true] at hc; obtain ⟨h1, hc⟩ := hc
  refine ⟨K, (F i).2, spF (woOf K) (run (funs.map (·.d)) n) i 1, X, fun s u => ?_, fun H a ns hl hO hS => ?_, fun base _ _ => ?_⟩
  · have q := binds_all ok.d h1 (by rw [hps]; simp) s [u] (by rw [hps]; rfl)
    rw [hps] at q
    exact q
  · refine ⟨rfl, [.fz (ns.map .int)], H, Same.refl _, ?_, ?_⟩
    · refine .cons ?_ .nil
      simp only [Rep]
      exact ⟨a, ns.map V.int, rfl, hS, RepL.ofInts ns⟩
    · rw [hrun ns hl]
      intro v Z' H' as x r _ _
      simp only [RepT, Rep] at r
      exact r.1
  · have q := lv base
    rw [hps, ea] at q
    exact fn_cxa q
end R
end

section
set_option autoImplicit true
set_option linter.all false
/-! R21: the cases of ev, exS once more, for simp (printed by eqs.py) -/
namespace R
open PySem L2
@[simp] theorem p_ev_var : ev Φ (.var i) Δ = match Δ[i]? with
      | some (some d) => .ok d
      | _ => .bad := rfl
@[simp] theorem p_ev_non : ev Φ .non u1 = .ok .non := rfl
@[simp] theorem p_ev_bl : ev Φ (.bl b) u1 = .ok (.bl b) := rfl
@[simp] theorem p_ev_int : ev Φ (.int z) u1 = .ok (.int z) := rfl
@[simp] theorem p_ev_str : ev Φ (.str s) u1 = .ok (.str s) := rfl
@[simp] theorem p_ev_tup : ev Φ (.tup es) Δ = (evs Φ es Δ).bind fun ds => if ds.length ≤ LINE then .ok (.tup ds) else .bad := rfl
@[simp] theorem p_ev_lst : ev Φ (.lst es) Δ = (evs Φ es Δ).bind fun ds => if ds.length ≤ LINE then .ok (.lst ds) else .bad := rfl
@[simp] theorem p_ev_op : ev Φ (.op o a b) Δ = (ev Φ a Δ).bind fun x => (ev Φ b Δ).bind fun y => op2 o x y := rfl
@[simp] theorem p_ev_un : ev Φ (.un o a) Δ = (ev Φ a Δ).bind fun x => op1 o x := rfl
@[simp] theorem p_ev_not : ev Φ (.not a) Δ = (tob (ev Φ a Δ)).bind fun b => .ok (.bl !b) := rfl
@[simp] theorem p_ev_and : ev Φ (.and a b) Δ = (tob (ev Φ a Δ)).bind fun x => if x then (tob (ev Φ b Δ)).bind fun y => .ok (.bl y) else .ok (.bl false) := rfl
@[simp] theorem p_ev_or : ev Φ (.or a b) Δ = (tob (ev Φ a Δ)).bind fun x => if x then .ok (.bl true) else (tob (ev Φ b Δ)).bind fun y => .ok (.bl y) := rfl
@[simp] theorem p_ev_ite : ev Φ (.ite c a b) Δ = (tob (ev Φ c Δ)).bind fun x => if x then ev Φ a Δ else ev Φ b Δ := rfl
@[simp] theorem p_ev_idx : ev Φ (.idx a i) Δ = (ev Φ a Δ).bind fun x => (ev Φ i Δ).bind fun y => ixR x y := rfl
@[simp] theorem p_ev_slc : ev Φ (.slc a l h) Δ = (ev Φ a Δ).bind fun x => (ev Φ l Δ).bind fun y => match y with
      | .int i => (ev Φ h Δ).bind fun z => (match z with
        | .int j => slR x (some i) (some j)
        | _ => .bad)
      | _ => .bad := rfl
@[simp] theorem p_ev_slo : ev Φ (.slo a l) Δ = (ev Φ a Δ).bind fun x => (ev Φ l Δ).bind fun y => match y with
      | .int i => slR x (some i) none
      | _ => .bad := rfl
@[simp] theorem p_ev_shi : ev Φ (.shi a h) Δ = (ev Φ a Δ).bind fun x => (ev Φ h Δ).bind fun y => match y with
      | .int i => slR x none (some i)
      | _ => .bad := rfl
@[simp] theorem p_ev_bi : ev Φ (.bi b es) Δ = (evs Φ es Δ).bind fun ds => bi b ds := rfl
@[simp] theorem p_ev_call : ev Φ (.call f es) Δ = (evs Φ es Δ).bind fun ds => (Φ f ds).bind fun t => .ok t.d := rfl
@[simp] theorem p_ev_mk : ev Φ (.mk u1 f es df) Δ = (evs Φ es Δ).bind fun ds => (Φ f (ds ++ df)).bind fun t => match t with
      | .sh d => .ok d
      | .ow _ => .bad := rfl
@[simp] theorem p_ev_fld : ev Φ (.fld a c p) Δ = (ev Φ a Δ).bind fun x => match x with
      | .obj c' xs => if c' = c then (match xs[p]? with | some d => .ok d | none => .bad) else .bad
      | _ => .bad := rfl
@[simp] theorem p_ev_meth : ev Φ (.meth a c f es) Δ = (ev Φ a Δ).bind fun x => match x with
      | .obj c' xs => if c' = c then (evs Φ es Δ).bind fun ds => (Φ f (.obj c' xs :: ds)).bind fun t => .ok t.d else .bad
      | _ => .bad := rfl
@[simp] theorem p_ev_prop : ev Φ (.prop a c f) Δ = (ev Φ a Δ).bind fun x => match x with
      | .obj c' xs => if c' = c then (Φ f [.obj c' xs]).bind fun t => .ok t.d else .bad
      | _ => .bad := rfl
@[simp] theorem p_ev_bits : ev Φ (.bits a) Δ = (ev Φ a Δ).bind fun x => match x with
      | .int i => .ok (.int (bitsI i))
      | _ => .bad := rfl
@[simp] theorem p_ev_comp : ev Φ (.comp sk tg srcs conds elt) Δ = (evs Φ srcs Δ).bind fun ds => (srcR sk ds).bind fun items =>
      (noEx (mapR (fun x => match bindT tg x (wipe Δ tg) with
        | none => .bad
        | some Δ' => (evc Φ conds Δ').bind fun b => if b then (ev Φ elt Δ').bind fun d => .ok (some d) else .ok none) items)).bind fun ys => if ys.length ≤ LINE then .ok (.lst ys) else .bad := rfl
@[simp] theorem p_ev_comp2 : ev Φ (.comp2 sk tg srcs conds sk2 tg2 srcs2 conds2 elt) Δ = (evs Φ srcs Δ).bind fun ds => (srcR sk ds).bind fun items =>
      (noEx (mapR (fun x => match bindT tg x (wipe Δ (tg ++ tg2)) with
        | none => .bad
        | some Δ' => (evc Φ conds Δ').bind fun b => if b then ((evs Φ srcs2 Δ').bind fun ds2 => (srcR sk2 ds2).bind fun items2 =>
            (mapR (fun x2 => match bindT tg2 x2 (wipe Δ' tg2) with
              | none => .bad
              | some Δ2 => (evc Φ conds2 Δ2).bind fun b => if b then (ev Φ elt Δ2).bind fun d => .ok (some d) else .ok none) items2).bind fun ys => .ok (some ys)) else .ok none) items)).bind fun yss => if yss.flatten.length ≤ LINE then .ok (.lst yss.flatten) else .bad := rfl
@[simp] theorem p_evs_l0 : evs Φ [] u1 = .ok [] := rfl
@[simp] theorem p_evs_cons1 : evs Φ (e :: es) Δ = (ev Φ e Δ).bind fun d => (evs Φ es Δ).bind fun ds => .ok (d :: ds) := rfl
@[simp] theorem p_evc_l0 : evc Φ [] u1 = .ok true := rfl
@[simp] theorem p_evc_cons1 : evc Φ (e :: es) Δ = (tob (ev Φ e Δ)).bind fun b => if b then evc Φ es Δ else .ok false := rfl
@[simp] theorem p_exS_set : exS Φ (.set i e) s = onR (ev Φ e (mask s)) s fun d => .nx (setS s i (.sh d)) := rfl
@[simp] theorem p_exS_setc : exS Φ (.setc i e) s = onR (ev Φ e (snap s)) s fun d => if d.noL then .nx (setS s i (.sh d)) else .bad := rfl
@[simp] theorem p_exS_own : exS Φ (.own i e) s = onR (evO Φ e (snap s)) s fun ds => if D.noL.noLs ds then .nx ⟨s.g.set i (some (.loc s.m.length)), s.m ++ [.ls (ds.map .sh)]⟩ else .bad := rfl
@[simp] theorem p_exS_ownT : exS Φ (.ownT i f es) s = onR ((evs Φ es (snap s)).bind (Φ f)) s fun t => if t.noL then .nx ⟨s.g.set i (some (alT s.m t).1), (alT s.m t).2⟩ else .bad := rfl
@[simp] theorem p_exS_mv : exS Φ (.mv i j) s = match slotV s j with
      | some v => .nx (setS s i v)
      | none => .bad := rfl
@[simp] theorem p_exS_al : exS Φ (.al i j e) s = match cellOf s j with
      | some (_, xs) => onR (ev Φ e (snap s)) s fun d => (match d with
        | .int z => match atI xs z with
          | some v => .nx (setS s i v)
          | none => .bad
        | _ => .bad)
      | none => .bad := rfl
@[simp] theorem p_exS_frz : exS Φ (.frz i) s = match slotV s i with
      | some v => match toT 4 s.m v with
        | some (t, m') => .nx ⟨s.g.set i (some (.sh t.d)), m'⟩
        | none => .bad
      | none => .bad := rfl
@[simp] theorem p_exS_app : exS Φ (.app j e) s = match cellOf s j with
      | some (k, xs) => onR (ev Φ e (snap s)) s fun d => if d.noL && decide (xs.length < LINE) then .nx (setM s k (xs ++ [.sh d])) else .bad
      | none => .bad := rfl
@[simp] theorem p_exS_appV : exS Φ (.appV j i) s = match cellOf s j with
      | some (k, xs) => match slotV s i with
        | some v => if xs.length < LINE then .nx (setM s k (xs ++ [v])) else .bad
        | none => .bad
      | none => .bad := rfl
@[simp] theorem p_exS_setI : exS Φ (.setI j ie e) s = onR (ev Φ e (snap s)) s fun d => match cellOf s j with
      | some (k, xs) => onR (ev Φ ie (snap s)) s fun z => (match z with
        | .int z => if d.noL then (match ixN xs.length z with
          | some p => .nx (setM s k (xs.set p (.sh d)))
          | none => .bad) else .bad
        | _ => .bad)
      | none => .bad := rfl
@[simp] theorem p_exS_aug : exS Φ (.aug i o e) s = match slotV s i with
      | some (.sh (.int x)) => onR (ev Φ e (snap s)) s fun d => (match d with
        | .int y => onR (op2 o (.int x) (.int y)) s fun r => if isInt r then .nx (setS s i (.sh r)) else .bad
        | _ => .bad)
      | _ => .bad := rfl
@[simp] theorem p_exS_unp : exS Φ (.unp i j e) s = onR (ev Φ e (mask s)) s fun d => match d with
      | .tup [a, b] => .nx (setS (setS s i (.sh a)) j (.sh b))
      | _ => .bad := rfl
@[simp] theorem p_exS_ret : exS Φ (.ret e) s = onR (ev Φ e (snap s)) s fun d => .rt (.sh d) := rfl
@[simp] theorem p_exS_retN : exS Φ .retN u1 = .rt (.sh .non) := rfl
@[simp] theorem p_exS_retV : exS Φ (.retV i) s = match slotV s i with
      | some v => match toT 4 s.m v with
        | some (t, _) => .rt t
        | none => .bad
      | none => .bad := rfl
@[simp] theorem p_exS_ifs : exS Φ (.ifs c a b) s = onR (tob (ev Φ c (snap s))) s fun t => if t then exSs Φ a s else exSs Φ b s := rfl
theorem p_exS_whl : exS Φ (.whl c b vs) s = whlO vs s.m.length (fun s => tob (ev Φ c (snap s))) (exSs Φ b) ⟨wipeS s.g vs, s.m⟩ := rfl
theorem p_exS_fr : exS Φ (.fr sk tg srcs b vs) s = onR ((evs Φ srcs (match sk with | .r1 => snap s | .r2 => snap s | _ => mask s)).bind (srcR sk)) s fun items =>
      forR vs s.m.length (fun x s => match bindS tg x s with | some s' => exSs Φ b s' | none => .bad) items ⟨wipeS s.g vs, s.m⟩ := rfl
@[simp] theorem p_exS_expr : exS Φ (.expr e) s = onR (ev Φ e (snap s)) s fun _ => .nx s := rfl
@[simp] theorem p_exS_pass : exS Φ .pass s = .nx s := rfl
@[simp] theorem p_exS_brk : exS Φ .brk s = .bk s := rfl
@[simp] theorem p_exS_cnt : exS Φ .cnt s = .ct s := rfl
@[simp] theorem p_exS_never : exS Φ .never u1 = .bad := rfl
@[simp] theorem p_exSs_l0 : exSs Φ [] s = .nx s := rfl
@[simp] theorem p_exSs_cons1 : exSs Φ (x :: xs) s = (exS Φ x s).nxt (exSs Φ xs) := rfl
end R
end

section
set_option Elab.async false
set_option linter.all false
set_option maxRecDepth 100000
/-! R22: plain evaluation. -/
namespace R
open PySem
@[simp] theorem snap_mk (g : List (Option SV)) (m : List Cell) : snap ⟨g, m⟩ = g.map (snapO m) := rfl
@[simp] theorem mask_mk (g : List (Option SV)) (m : List Cell) : mask ⟨g, m⟩ = g.map maskO := rfl
@[simp] theorem snapO_none (m : List Cell) : snapO m none = none := rfl
@[simp] theorem snapO_sh (m : List Cell) (d : D) : snapO m (some (.sh d)) = some d := rfl
@[simp] theorem maskO_none : maskO none = none := rfl
@[simp] theorem maskO_sh (d : D) : maskO (some (.sh d)) = some d := rfl
@[simp] theorem maskO_loc (k : Nat) : maskO (some (.loc k)) = none := rfl
theorem optL_sh {f : SV → Option D} (h : ∀ d, f (.sh d) = some d) : ∀ ds : List D, optL f (ds.map .sh) = some ds
  | [] => rfl
  | d :: ds => by
    rw [List.map_cons, optL, h, optL_sh h ds]
@[simp] theorem den_sh (m : List Cell) (n : Nat) (d : D) : den m n (.sh d) = some d := by cases n <;> rfl
@[simp] theorem optL_den (m : List Cell) (n : Nat) (ds : List D) : optL (den m n) (ds.map .sh) = some ds := optL_sh (fun d => den_sh m n d) ds
/-- an own list of plain values -/
theorem snapO_ls {m : List Cell} {k : Nat} {ds : List D} (h : m[k]? = some (.ls (ds.map .sh))) : snapO m (some (.loc k)) = some (.lst ds) := by
  show den m 4 (.loc k) = _
  rw [den, h]
  simp only [optL_den]
@[simp] theorem snapO_ls0 (ds : List D) (m : List Cell) : snapO (.ls (ds.map .sh) :: m) (some (.loc 0)) = some (.lst ds) := snapO_ls rfl
@[simp] theorem setS_mk (g : List (Option SV)) (m : List Cell) (i : Nat) (v : SV) : setS ⟨g, m⟩ i v = ⟨g.set i (some v), m⟩ := rfl
@[simp] theorem setM_mk (g : List (Option SV)) (m : List Cell) (k : Nat) (xs : List SV) : setM ⟨g, m⟩ k xs = ⟨g, m.set k (.ls xs)⟩ := rfl
@[simp] theorem wipeS_nil (g : List (Option SV)) : wipeS g [] = g := rfl
@[simp] theorem wipeS_cons (g : List (Option SV)) (v : Nat) (vs : List Nat) : wipeS g (v :: vs) = (wipeS g vs).set v none := rfl
theorem tidy_same {vs : List Nat} {n : Nat} {g : List (Option SV)} {m : List Cell} (h : m.length = n) : tidy vs n ⟨g, m⟩ = some ⟨wipeS g vs, m⟩ := by
  unfold tidy
  rw [if_pos h]
@[simp] theorem tidy_0 (vs : List Nat) (g : List (Option SV)) : tidy vs 0 ⟨g, []⟩ = some ⟨wipeS g vs, []⟩ := tidy_same rfl
@[simp] theorem tidy_1 (vs : List Nat) (g : List (Option SV)) (c : Cell) : tidy vs 1 ⟨g, [c]⟩ = some ⟨wipeS g vs, [c]⟩ := tidy_same rfl
@[simp] theorem bindS_1 (i : Nat) (d : D) (s : PSt) : bindS [i] d s = some (setS s i (.sh d)) := rfl
@[simp] theorem bindS_2 (i j : Nat) (a b : D) (s : PSt) : bindS [i, j] (.tup [a, b]) s = some (setS (setS s i (.sh a)) j (.sh b)) := rfl
@[simp] theorem bindT_1 (i : Nat) (d : D) (Δ : List (Option D)) : bindT [i] d Δ = some (Δ.set i (some d)) := rfl
@[simp] theorem bindT_2 (i j : Nat) (a b : D) (Δ : List (Option D)) : bindT [i, j] (.tup [a, b]) Δ = some ((Δ.set i (some a)).set j (some b)) := rfl
@[simp] theorem wipe_nil (Δ : List (Option D)) : wipe Δ [] = Δ := rfl
@[simp] theorem wipe_cons (Δ : List (Option D)) (v : Nat) (vs : List Nat) : wipe Δ (v :: vs) = (wipe Δ vs).set v none := rfl
@[simp] theorem enter_eq (ns : Nat) (ds : List D) : enter ns ds = ⟨ds.map (fun d => some (.sh d)) ++ List.replicate (ns - ds.length) none, []⟩ := rfl
@[simp] theorem nextTurn_nx (vs : List Nat) (n : Nat) (s : PSt) (f : PSt → Out) : nextTurn vs n (.nx s) f = match tidy vs n s with | some s' => f s' | none => .bad := rfl
@[simp] theorem nextTurn_ct (vs : List Nat) (n : Nat) (s : PSt) (f : PSt → Out) : nextTurn vs n (.ct s) f = match tidy vs n s with | some s' => f s' | none => .bad := rfl
@[simp] theorem nextTurn_bk (vs : List Nat) (n : Nat) (s : PSt) (f : PSt → Out) : nextTurn vs n (.bk s) f = .nx s := rfl
@[simp] theorem nextTurn_rt (vs : List Nat) (n : Nat) (t : T) (f : PSt → Out) : nextTurn vs n (.rt t) f = .rt t := rfl
@[simp] theorem forR_nil (vs : List Nat) (n : Nat) (b : D → PSt → Out) (s : PSt) : forR vs n b [] s = .nx s := rfl
theorem forR_cons (vs : List Nat) (n : Nat) (b : D → PSt → Out) (x : D) (xs : List D) (s : PSt) : forR vs n b (x :: xs) s = nextTurn vs n (b x s) (forR vs n b xs) := rfl
@[simp] theorem endR_nx (s : PSt) : endR (.nx s) = .ok (.sh .non) := rfl
@[simp] theorem endR_rt (t : T) : endR (.rt t) = .ok t := rfl
@[simp] theorem tob_bl (b : Bool) : tob (.ok (.bl b)) = .ok b := rfl
@[simp] theorem T_d_sh (d : D) : (T.sh d).d = d := rfl
@[simp] theorem slotV_mk (g : List (Option SV)) (m : List Cell) (i : Nat) : slotV ⟨g, m⟩ i = match g[i]? with | some (some v) => some v | _ => none := rfl
theorem cellOf_eq {g : List (Option SV)} {m : List Cell} {j k : Nat} {xs : List SV} (h : g[j]? = some (some (.loc k))) (h2 : m[k]? = some (.ls xs)) : cellOf ⟨g, m⟩ j = some (k, xs) := by
  unfold cellOf
  rw [slotV_mk, h]
  simp only [h2]
/-! ### loops -/
/-- a test; a turn of a for (they are not looked into) -/
def cnd (Φ : Or) (c : E) (s : PSt) : Res Bool := tob (ev Φ c (snap s))
noncomputable def frB (Φ : Or) (tg : List Nat) (b : List S) (x : D) (s : PSt) : Out := match bindS tg x s with
  | some s' => exSs Φ b s'
  | none => .bad
@[simp] theorem p_whl (Φ : Or) (c : E) (b : List S) (vs : List Nat) (g : List (Option SV)) (m : List Cell) : exS Φ (.whl c b vs) ⟨g, m⟩ = whlO vs m.length (cnd Φ c) (exSs Φ b) ⟨wipeS g vs, m⟩ := rfl
@[simp] theorem p_frR1 (Φ : Or) (tg : List Nat) (srcs : List E) (b : List S) (vs : List Nat) (g : List (Option SV)) (m : List Cell) : exS Φ (.fr .r1 tg srcs b vs) ⟨g, m⟩ = onR ((evs Φ srcs (g.map (snapO m))).bind (srcR .r1)) ⟨g, m⟩ fun items => forR vs m.length (frB Φ tg b) items ⟨wipeS g vs, m⟩ := rfl
@[simp] theorem p_frR2 (Φ : Or) (tg : List Nat) (srcs : List E) (b : List S) (vs : List Nat) (g : List (Option SV)) (m : List Cell) : exS Φ (.fr .r2 tg srcs b vs) ⟨g, m⟩ = onR ((evs Φ srcs (g.map (snapO m))).bind (srcR .r2)) ⟨g, m⟩ fun items => forR vs m.length (frB Φ tg b) items ⟨wipeS g vs, m⟩ := rfl
@[simp] theorem p_frS (Φ : Or) (tg : List Nat) (srcs : List E) (b : List S) (vs : List Nat) (g : List (Option SV)) (m : List Cell) : exS Φ (.fr .seq tg srcs b vs) ⟨g, m⟩ = onR ((evs Φ srcs (g.map maskO)).bind (srcR .seq)) ⟨g, m⟩ fun items => forR vs m.length (frB Φ tg b) items ⟨wipeS g vs, m⟩ := rfl
@[simp] theorem p_frZ (Φ : Or) (tg : List Nat) (srcs : List E) (b : List S) (vs : List Nat) (g : List (Option SV)) (m : List Cell) : exS Φ (.fr .zip tg srcs b vs) ⟨g, m⟩ = onR ((evs Φ srcs (g.map maskO)).bind (srcR .zip)) ⟨g, m⟩ fun items => forR vs m.length (frB Φ tg b) items ⟨wipeS g vs, m⟩ := rfl
@[simp] theorem srcR_seqL (xs : List D) : srcR .seq [.lst xs] = .ok xs := rfl
@[simp] theorem srcR_seqT (xs : List D) : srcR .seq [.tup xs] = .ok xs := rfl
@[simp] theorem srcR_seqF (xs : List D) : srcR .seq [.fz xs] = .ok xs := rfl
@[simp] theorem srcR_zipL (xs ys : List D) : srcR .zip [.lst xs, .lst ys] = .ok (List.zipWith (fun x y => D.tup [x, y]) xs ys) := rfl
theorem rngOk_of {a b : Int} (h1 : -1000000 ≤ a) (h2 : a ≤ 1000000) (h3 : -1000000 ≤ b) (h4 : b ≤ 1000000 - 1) (h5 : b - a ≤ 1000000) : rngOk a b = true := by
  have l := LINE_eq
  have l2 := sizeLine_eq
  unfold rngOk
  simp only [Bool.and_eq_true, decide_eq_true_eq]
  refine ⟨by omega, by omega, by omega, by omega, ?_⟩
  rw [l, l2]
  omega
theorem srcR_r1 {n : Int} (h : rngOk 0 n = true) : srcR .r1 [.int n] = .ok (rng 0 n) := by simp [srcR, h]
theorem srcR_r2 {a b : Int} (h : rngOk a b = true) : srcR .r2 [.int a, .int b] = .ok (rng a b) := by simp [srcR, h]
theorem rng_nil {a b : Int} (h : b ≤ a) : rng a b = [] := by
  unfold rng
  rw [show (b - a).toNat = 0 by omega]
  rfl
theorem rng_cons {a b : Int} (h : a < b) : rng a b = .int a :: rng (a + 1) b := by
  unfold rng
  rw [show (b - a).toNat = (b - (a + 1)).toNat + 1 by omega, List.range_succ_eq_map, List.map_cons, List.map_map]
  congr 1
  · simp
  · apply List.map_congr_left
    intro x _
    simp only [Function.comp]
    congr 1
    omega
/-! ### while -/
theorem nextTurn_mono {vs : List Nat} {n : Nat} {o : Out} {f g : PSt → Out} (h : nextTurn vs n o f ≠ .bad) (hf : ∀ s, f s ≠ .bad → g s = f s) : nextTurn vs n o g = nextTurn vs n o f := by
  cases o with
  | nx s =>
    simp only [nextTurn_nx] at h ⊢
    cases e : tidy vs n s with
    | none => rfl
    | some s' => rw [e] at h; exact hf s' h
  | ct s =>
    simp only [nextTurn_ct] at h ⊢
    cases e : tidy vs n s with
    | none => rfl
    | some s' => rw [e] at h; exact hf s' h
  | _ => rfl
section
variable {vs : List Nat} {n : Nat} {c : PSt → Res Bool} {b : PSt → Out}
theorem onR_ne {α : Type} {r : Res α} {s : PSt} {f g : α → Out} (h : onR r s f ≠ .bad) (hf : ∀ a, r = .ok a → f a ≠ .bad → g a = f a) : onR r s g = onR r s f := by
  cases r with
  | ok a => exact hf a rfl h
  | ex c fs => rfl
  | bad => rfl
theorem whlR_succ : ∀ (k : Nat) (s : PSt), whlR vs n c b k s ≠ .bad → whlR vs n c b (k + 1) s = whlR vs n c b k s
  | 0, s, h => absurd rfl h
  | k + 1, s, h => by
    rw [whlR] at h ⊢
    rw [whlR]
    refine onR_ne h fun t _ ht => ?_
    cases t with
    | false => rfl
    | true =>
      simp only [if_true] at ht ⊢
      exact nextTurn_mono ht fun s hs => whlR_succ k s hs
theorem whlR_le {k : Nat} {s : PSt} (h : whlR vs n c b k s ≠ .bad) : ∀ j, whlR vs n c b (k + j) s = whlR vs n c b k s
  | 0 => rfl
  | j + 1 => by
    have e := whlR_le h j
    rw [← e]
    exact whlR_succ (k + j) s (by rw [e]; exact h)
theorem whlR_det {k j : Nat} {s : PSt} (h : whlR vs n c b k s ≠ .bad) (h2 : whlR vs n c b j s ≠ .bad) : whlR vs n c b k s = whlR vs n c b j s := by
  rw [← whlR_le h j, ← whlR_le h2 k, Nat.add_comm]
theorem whlO_of {k : Nat} {s : PSt} (h : whlR vs n c b k s ≠ .bad) : whlO vs n c b s = whlR vs n c b k s := by
  have ex : ∃ k, whlR vs n c b k s ≠ .bad := ⟨k, h⟩
  unfold whlO
  rw [dif_pos ex]
  exact whlR_det (Classical.choose_spec ex) h
theorem whlO_none {s : PSt} (h : ∀ k, whlR vs n c b k s = .bad) : whlO vs n c b s = .bad := by
  unfold whlO
  rw [dif_neg fun ⟨k, hk⟩ => hk (h k)]
theorem whlO_some {s : PSt} (h : whlO vs n c b s ≠ .bad) : ∃ k, whlR vs n c b k s ≠ .bad ∧ whlO vs n c b s = whlR vs n c b k s := by
  by_cases ex : ∃ k, whlR vs n c b k s ≠ .bad
  · obtain ⟨k, hk⟩ := ex
    exact ⟨k, hk, whlO_of hk⟩
  · exact absurd (whlO_none fun k => Classical.byContradiction fun q => ex ⟨k, q⟩) h
/-- one turn -/
theorem whlO_eq (s : PSt) : whlO vs n c b s = onR (c s) s fun t => if t then nextTurn vs n (b s) (whlO vs n c b) else .nx s := by
  by_cases h : (onR (c s) s fun t => if t then nextTurn vs n (b s) (whlO vs n c b) else .nx s) = .bad
  · rw [h]
    refine whlO_none fun k => Classical.byContradiction fun q => ?_
    cases k with
    | zero => exact q rfl
    | succ k =>
      rw [whlR] at q
      refine q ((onR_ne q (g := fun t => if t then nextTurn vs n (b s) (whlO vs n c b) else .nx s) fun t _ ht => ?_).symm.trans h)
      cases t with
      | false => rfl
      | true =>
        simp only [if_true] at ht ⊢
        exact nextTurn_mono ht fun s hs => whlO_of hs
  · have key : ∃ k, nextTurn vs n (b s) (whlR vs n c b k) = nextTurn vs n (b s) (whlO vs n c b) ∨ c s ≠ .ok true := by
      cases e : c s with
      | ok t =>
        cases t with
        | false => exact ⟨0, .inr (by simp)⟩
        | true =>
          rw [e] at h
          simp only [onR_ok, if_true] at h
          cases e2 : b s with
          | nx s1 =>
            rw [e2] at h
            simp only [nextTurn_nx] at h ⊢
            cases e3 : tidy vs n s1 with
            | none => exact ⟨0, .inl rfl⟩
            | some s2 =>
              rw [e3] at h
              obtain ⟨k, _, q⟩ := whlO_some h
              exact ⟨k, .inl q.symm⟩
          | ct s1 =>
            rw [e2] at h
            simp only [nextTurn_ct] at h ⊢
            cases e3 : tidy vs n s1 with
            | none => exact ⟨0, .inl rfl⟩
            | some s2 =>
              rw [e3] at h
              obtain ⟨k, _, q⟩ := whlO_some h
              exact ⟨k, .inl q.symm⟩
          | _ => exact ⟨0, .inl rfl⟩
      | _ => exact ⟨0, .inr (by simp)⟩
    obtain ⟨k, hk⟩ := key
    have e : whlR vs n c b (k + 1) s = onR (c s) s fun t => if t then nextTurn vs n (b s) (whlO vs n c b) else .nx s := by
      rw [whlR]
      cases e : c s with
      | ok t =>
        cases t with
        | false => rfl
        | true =>
          rcases hk with hk | hk
          · simp only [onR_ok, if_true]
            exact hk
          · exact absurd e hk
      | _ => rfl
    rw [← e]
    exact whlO_of (by rw [e]; exact h)
end
/-! ### operators -/
@[simp] theorem op2_add (i j : Int) : op2 .add (.int i) (.int j) = .ok (.int (i + j)) := rfl
@[simp] theorem op2_sub (i j : Int) : op2 .sub (.int i) (.int j) = .ok (.int (i - j)) := rfl
@[simp] theorem op2_lt (i j : Int) : op2 .lt (.int i) (.int j) = .ok (.bl (decide (i < j))) := rfl
@[simp] theorem op2_le (i j : Int) : op2 .le (.int i) (.int j) = .ok (.bl (decide (i ≤ j))) := rfl
@[simp] theorem op2_gt (i j : Int) : op2 .gt (.int i) (.int j) = .ok (.bl (decide (j < i))) := rfl
@[simp] theorem op2_ge (i j : Int) : op2 .ge (.int i) (.int j) = .ok (.bl (decide (j ≤ i))) := rfl
@[simp] theorem op2_eq (i j : Int) : op2 .eq (.int i) (.int j) = .ok (.bl (i == j)) := by simp [op2, eqR, D.plain, D.eqv]
@[simp] theorem op2_ne (i j : Int) : op2 .ne (.int i) (.int j) = .ok (.bl (!(i == j))) := by simp [op2, eqR, D.plain, D.eqv]
theorem op2_mul {i j : Int} (h : mulOk i j = true) : op2 .mul (.int i) (.int j) = .ok (.int (i * j)) := by simp [op2, h]
theorem op2_fdiv {i j : Int} (h : divOk j = true) : op2 .fdiv (.int i) (.int j) = .ok (.int (i / j)) := by simp [op2, h]
theorem op2_mod {i j : Int} (h : 0 < j) : op2 .mod (.int i) (.int j) = .ok (.int (i % j)) := by simp [op2, h]
@[simp] theorem op1_neg (i : Int) : op1 .neg (.int i) = .ok (.int (-i)) := rfl
@[simp] theorem op1_isN (d : D) : op1 .isN d = .ok (.bl d.isNon) := rfl
@[simp] theorem op1_notN (d : D) : op1 .notN d = .ok (.bl (!d.isNon)) := rfl
@[simp] theorem op1_isB (b : Bool) (d : D) : op1 (.isB b) d = .ok (.bl (d.isBl b)) := rfl
@[simp] theorem op1_notB (b : Bool) (d : D) : op1 (.notB b) d = .ok (.bl (!d.isBl b)) := rfl
@[simp] theorem bi_int (i : Int) : bi .int [.int i] = .ok (.int i) := rfl
@[simp] theorem bi_abs (i : Int) : bi .abs [.int i] = .ok (.int (if i < 0 then -i else i)) := rfl
@[simp] theorem bi_lenL (xs : List D) : bi .len [.lst xs] = .ok (.int xs.length) := rfl
@[simp] theorem bi_lenT (xs : List D) : bi .len [.tup xs] = .ok (.int xs.length) := rfl
@[simp] theorem bi_lenF (xs : List D) : bi .len [.fz xs] = .ok (.int xs.length) := rfl
@[simp] theorem bi_gcd (i j : Int) : bi .gcd [.int i, .int j] = .ok (.int ((Nat.gcd i.natAbs j.natAbs : Nat) : Int)) := rfl
@[simp] theorem bi_isinst (t : Ty) (d : D) : bi (.isinst t) [d] = .ok (.bl (hasTy t d)) := rfl
/-! ### sizes -/
theorem LINE_big : 1000000 < LINE := by rw [LINE_eq, sizeLine_eq]; decide
theorem log2_lt {x n : Nat} (h : x < 2 ^ n) : x.log2 ≤ n := by
  rcases Nat.eq_zero_or_pos x with e | e
  · subst e; simp
  · exact Nat.le_of_lt ((Nat.log2_lt (by omega)).mpr h)
theorem mulOk_of {i j : Int} {a b : Nat} (hi : i.natAbs < 2 ^ a) (hj : j.natAbs < 2 ^ b) (h : a + b < 1000000) : mulOk i j = true := by
  have h1 := log2_lt hi
  have h2 := log2_lt hj
  exact decide_eq_true (by omega)
theorem divOk_of {j : Int} {a : Nat} (h0 : 0 < j) (hj : j.natAbs < 2 ^ a) (h : a < 9000) : divOk j = true := by
  have h1 := log2_lt hj
  unfold divOk
  rw [decide_eq_true h0, decide_eq_true (show j.natAbs.log2 < 9000 by omega)]
  rfl
end R
end

section
set_option Elab.async false
set_option linter.all false
set_option maxRecDepth 100000
/-! R23: the laws' common defs. -/
namespace R
open PySem
variable {Φ : Or}
/-! ### _law_gcd -/
def bGcd : List S := [.set 2 (.bi .abs [(.bi .int [(.var 0)])]), .set 3 (.bi .abs [(.bi .int [(.var 1)])]), .whl (.op .ne (.var 3) (.int 0)) [.set 4 (.op .mod (.bi .int [(.var 2)]) (.var 3)), .set 2 (.var 3), .set 3 (.var 4)] [4], .ret (.var 2)]
theorem gcd_loop (X Y : Option SV) : ∀ (b a : Nat), whlO [4] 0 (cnd Φ (.op .ne (.var 3) (.int 0))) (exSs Φ [.set 4 (.op .mod (.bi .int [(.var 2)]) (.var 3)), .set 2 (.var 3), .set 3 (.var 4)]) ⟨[X, Y, some (.sh (.int a)), some (.sh (.int b)), none], []⟩
    = .nx ⟨[X, Y, some (.sh (.int (Nat.gcd a b : Nat))), some (.sh (.int 0)), none], []⟩ := by
  intro b
  induction b using Nat.strongRecOn with
  | _ b ih =>
    intro a
    rw [whlO_eq]
    by_cases hb : b = 0
    · subst hb
      simp [cnd]
    · have h0 : (0 : Int) < (b : Int) := by omega
      have h1 : ((b : Int) == 0) = false := by simp; omega
      have e : ((a : Int) % (b : Int)) = ((a % b : Nat) : Int) := by simp
      simp [cnd, h1, op2_mod h0]
      rw [e, ih (a % b) (Nat.mod_lt _ (by omega)) b]
      rw [Nat.gcd_comm b (a % b), ← Nat.gcd_rec, Nat.gcd_comm]
theorem gcd_run (i j : Int) : endR (exSs Φ bGcd (enter 5 [.int i, .int j])) = .ok (.sh (.int (Nat.gcd i.natAbs j.natAbs : Nat))) := by
  have ha : ∀ i : Int, (if i < 0 then -i else i) = ((i.natAbs : Nat) : Int) := fun i => by split <;> omega
  simp [bGcd, ha, gcd_loop]
/-! ### _law_power and its like -/
def bPow (t : E) : List S := [.set 2 (.int 1), .set 3 (.var 0), .set 4 (.var 1), .whl (.op .gt (.var 4) (.int 0)) [.ifs (.op .eq (.op .mod t (.int 2)) (.int 1)) [.set 2 (.op .mul (.var 2) (.var 3))] [], .set 4 (.op .fdiv (.var 4) (.int 2)), .ifs (.op .gt (.var 4) (.int 0)) [.set 3 (.op .mul (.var 3) (.var 3))] []] [], .ret (.var 2)]
theorem natAbs_lt {x B : Nat} (h : x < 2 ^ B) : ((x : Nat) : Int).natAbs < 2 ^ B := by simpa using h
theorem div2Ok : divOk 2 = true := by decide +kernel
def bPowT (t : E) : List S := [.ifs (.op .eq (.op .mod t (.int 2)) (.int 1)) [.set 2 (.op .mul (.var 2) (.var 3))] [], .set 4 (.op .fdiv (.var 4) (.int 2)), .ifs (.op .gt (.var 4) (.int 0)) [.set 3 (.op .mul (.var 3) (.var 3))] []]
theorem pow_turn {t : E} (ht : ∀ (x y a b : Option D) (l : Int), ev Φ t [x, y, a, b, some (.int l)] = .ok (.int l)) (X Y : Option SV) (a q l : Int) (m1 : mulOk a q = true) (m2 : mulOk q q = true) :
    exSs Φ (bPowT t) ⟨[X, Y, some (.sh (.int a)), some (.sh (.int q)), some (.sh (.int l))], []⟩ = .nx ⟨[X, Y, some (.sh (.int (if l % 2 = 1 then a * q else a))), some (.sh (.int (if 0 < l / 2 then q * q else q))), some (.sh (.int (l / 2)))], []⟩ := by
  have md := op2_mod (i := l) (j := 2) (by decide)
  have dv := op2_fdiv (i := l) div2Ok
  by_cases h1 : l % 2 = 1
  · by_cases h2 : 0 < l / 2
    · simp [bPowT, ht, md, dv, h1, h2, op2_mul m1, op2_mul m2]
    · simp [bPowT, ht, md, dv, h1, h2, op2_mul m1]
  · by_cases h2 : 0 < l / 2
    · simp [bPowT, ht, md, dv, h1, h2, op2_mul m2]
    · simp [bPowT, ht, md, dv, h1, h2]
theorem pow_loop {t : E} (ht : ∀ (x y a b : Option D) (l : Int), ev Φ t [x, y, a, b, some (.int l)] = .ok (.int l)) (X Y : Option SV) {B : Nat} (hB : B ≤ 400000) : ∀ (l a q : Nat), 1 ≤ a → 1 ≤ q → a * q ^ l < 2 ^ B →
    ∃ z : Int, whlO [] 0 (cnd Φ (.op .gt (.var 4) (.int 0))) (exSs Φ (bPowT t)) ⟨[X, Y, some (.sh (.int a)), some (.sh (.int q)), some (.sh (.int l))], []⟩
      = .nx ⟨[X, Y, some (.sh (.int (a * q ^ l : Nat))), some (.sh (.int z)), some (.sh (.int 0))], []⟩ := by
  intro l
  induction l using Nat.strongRecOn with
  | _ l ih =>
    intro a q ha hq hb
    rw [whlO_eq]
    by_cases hl : l = 0
    · subst hl
      exact ⟨q, by simp [cnd]⟩
    · have h0 : (0 : Int) < (l : Int) := by omega
      have hql : q ≤ q ^ l := Nat.le_pow (by omega)
      have ha2 : a < 2 ^ B := Nat.lt_of_le_of_lt (Nat.le_mul_of_pos_right a (Nat.pow_pos (by omega))) hb
      have hq2 : q < 2 ^ B := Nat.lt_of_le_of_lt (Nat.le_trans hql (Nat.le_mul_of_pos_left _ (by omega))) hb
      have m1 : mulOk (a : Int) (q : Int) = true := mulOk_of (natAbs_lt ha2) (natAbs_lt hq2) (by omega)
      have m2 : mulOk (q : Int) (q : Int) = true := mulOk_of (natAbs_lt hq2) (natAbs_lt hq2) (by omega)
      have c : cnd Φ (.op .gt (.var 4) (.int 0)) ⟨[X, Y, some (.sh (.int a)), some (.sh (.int q)), some (.sh (.int l))], []⟩ = .ok true := by
        simp [cnd]; omega
      have pw : ∀ k, q ^ (2 * k) = (q * q) ^ k := fun k => by rw [Nat.pow_mul, Nat.pow_two]
      rw [c]
      simp only [onR_ok, if_true]
      rw [pow_turn ht X Y a q l m1 m2]
      simp only [nextTurn_nx, tidy_0, wipeS_nil]
      have e2 : ((l : Int) / 2) = ((l / 2 : Nat) : Int) := by simp
      have pos : 1 ≤ a * q := Nat.mul_pos (by omega) (by omega)
      have posq : 1 ≤ q * q := Nat.mul_pos (by omega) (by omega)
      rw [e2]
      by_cases hp : l % 2 = 1
      · rw [if_pos (by omega)]
        rw [show (a : Int) * (q : Int) = ((a * q : Nat) : Int) by simp]
        by_cases hz : l / 2 = 0
        · rw [if_neg (by omega)]
          have l1 : l = 1 := by omega
          have r : a * q * q ^ (l / 2) = a * q ^ l := by rw [l1]; simp
          obtain ⟨z, e⟩ := ih (l / 2) (by omega) (a * q) q pos hq (by rw [r]; exact hb)
          rw [r] at e
          exact ⟨z, e⟩
        · rw [if_pos (by omega), show (q : Int) * (q : Int) = ((q * q : Nat) : Int) by simp]
          have r : a * q * (q * q) ^ (l / 2) = a * q ^ l := by
            rw [← pw, Nat.mul_assoc]
            congr 1
            rw [Nat.mul_comm, ← Nat.pow_succ]
            congr 1
            omega
          obtain ⟨z, e⟩ := ih (l / 2) (by omega) (a * q) (q * q) pos posq (by rw [r]; exact hb)
          rw [r] at e
          exact ⟨z, e⟩
      · rw [if_neg (by omega), if_pos (by omega), show (q : Int) * (q : Int) = ((q * q : Nat) : Int) by simp]
        have r : a * (q * q) ^ (l / 2) = a * q ^ l := by
          rw [← pw]
          congr 2
          omega
        obtain ⟨z, e⟩ := ih (l / 2) (by omega) a (q * q) ha posq (by rw [r]; exact hb)
        rw [r] at e
        exact ⟨z, e⟩
theorem pow_run {t : E} (ht : ∀ (x y a b : Option D) (l : Int), ev Φ t [x, y, a, b, some (.int l)] = .ok (.int l)) {B q l : Nat} (hB : B ≤ 400000) (hq : 1 ≤ q) (hb : q ^ l < 2 ^ B) :
    endR (exSs Φ (bPow t) (enter 5 [.int q, .int l])) = .ok (.sh (.int (q ^ l : Nat))) := by
  obtain ⟨z, e⟩ := pow_loop (Φ := Φ) ht (some (.sh (.int q))) (some (.sh (.int l))) hB l 1 q (by omega) hq (by rw [Nat.one_mul]; exact hb)
  rw [Nat.one_mul] at e
  have e : whlO [] 0 (cnd Φ (.op .gt (.var 4) (.int 0))) (exSs Φ (bPowT t)) ⟨[some (.sh (.int q)), some (.sh (.int l)), some (.sh (.int 1)), some (.sh (.int q)), some (.sh (.int l))], []⟩ = _ := e
  unfold bPow
  show endR (exSs Φ [.set 2 (.int 1), .set 3 (.var 0), .set 4 (.var 1), .whl (.op .gt (.var 4) (.int 0)) (bPowT t) [], .ret (.var 2)] _) = _
  simp [e]
def tPow1 : E := .bi .int [.var 4]
def tPow2 : E := .var 4
theorem tPow1_ok (x y a b : Option D) (l : Int) : ev Φ tPow1 [x, y, a, b, some (.int l)] = .ok (.int l) := by simp [tPow1]
theorem tPow2_ok (x y a b : Option D) (l : Int) : ev Φ tPow2 [x, y, a, b, some (.int l)] = .ok (.int l) := by simp [tPow2]
end R
end

section
set_option Elab.async false
set_option linter.all false
set_option maxRecDepth 100000
/-! R24: the laws' common defs, on. -/
namespace R
open PySem
variable {Φ : Or}
theorem atI_get {α : Type} {xs : List α} {k : Nat} {a : α} (h : xs[k]? = some a) : L2.atI xs (k : Int) = some a := by
  have hl := (List.getElem?_eq_some_iff.mp h).1
  unfold L2.atI L2.ixN
  rw [if_pos (by omega), if_pos (by omega)]
  simpa using h
/-! ### fractions -/
def bFrac (f g : Nat) : List S := [.ifs (.op .lt (.var 1) (.int 0)) [.ret (.call f [(.un .neg (.var 0)), (.un .neg (.var 1))])] [], .set 2 (.call g [(.var 0), (.var 1)]), .ret (.tup [(.op .fdiv (.var 0) (.var 2)), (.op .fdiv (.var 1) (.var 2))])]
def bRatio : List S := [.ifs (.op .eq (.var 1) (.int 0)) [.never] [], .set 2 (.int 1), .ifs (.op .lt (.var 1) (.int 0)) [.set 2 (.un .neg (.int 1))] [], .set 3 (.bi .gcd [(.var 0), (.var 1)]), .ret (.tup [(.op .fdiv (.op .mul (.var 2) (.var 0)) (.var 3)), (.op .fdiv (.op .mul (.var 2) (.var 1)) (.var 3))])]
def gcdI (a b : Int) : Int := (Nat.gcd a.natAbs b.natAbs : Nat)
/-- the fraction in lowest terms, the bottom positive -/
def fracD (t b : Int) : D := .tup [.int (t / gcdI t b), .int (b / gcdI t b)]
theorem two_le_LINE : (2 : Nat) ≤ LINE := Nat.le_of_lt (Nat.lt_trans (by decide) LINE_big)
theorem gcdI_ok {t b : Int} {B : Nat} (h0 : 0 < b) (hb : b.natAbs < 2 ^ B) (hB : B < 9000) : divOk (gcdI t b) = true := by
  have hp : 0 < Nat.gcd t.natAbs b.natAbs := Nat.gcd_pos_of_pos_right _ (by omega)
  have hle : Nat.gcd t.natAbs b.natAbs ≤ b.natAbs := Nat.le_of_dvd (by omega) (Nat.gcd_dvd_right _ _)
  exact divOk_of (a := B) (by unfold gcdI; omega) (by unfold gcdI; simpa using Nat.lt_of_le_of_lt hle hb) hB
theorem frac_run {f g : Nat} (hg : ∀ i j : Int, Φ g [.int i, .int j] = .ok (.sh (.int (gcdI i j)))) {t b : Int} {B : Nat} (h0 : 0 < b) (hb : b.natAbs < 2 ^ B) (hB : B < 9000) : endR (exSs Φ (bFrac f g) (enter 3 [.int t, .int b])) = .ok (.sh (fracD t b)) := by
  have d := gcdI_ok (t := t) h0 hb hB
  have n : ¬ b < 0 := by omega
  simp [bFrac, n, hg, op2_fdiv d, two_le_LINE, fracD]
theorem ratio_run {t b : Int} {B C : Nat} (h0 : 0 < b) (hb : b.natAbs < 2 ^ B) (hB : B < 9000) (ht : t.natAbs < 2 ^ C) (hC : C < 500000) : endR (exSs Φ bRatio (enter 4 [.int t, .int b])) = .ok (.sh (fracD t b)) := by
  have d := gcdI_ok (t := t) h0 hb hB
  have n : ¬ b < 0 := by omega
  have z : (b == 0) = false := by simp; omega
  have m1 : mulOk 1 t = true := mulOk_of (a := 1) (by decide) ht (by omega)
  have m2 : mulOk 1 b = true := mulOk_of (a := 1) (by decide) hb (by omega)
  have e : ((Nat.gcd t.natAbs b.natAbs : Nat) : Int) = gcdI t b := rfl
  simp [bRatio, n, z, e, op2_mul m1, op2_mul m2, op2_fdiv d, two_le_LINE, fracD]
/-! ### _law_whole, _law_same -/
def bWhole : List S := [.ret (.and (.bi (.isinst .int) [(.var 0)]) (.not (.bi (.isinst .bool) [(.var 0)])))]
theorem whole_int (i : Int) : endR (exSs Φ bWhole (enter 1 [.int i])) = .ok (.sh (.bl true)) := by simp [bWhole, hasTy]
def bSame (f w : Nat) : List S := [.ifs (.or (.bi (.isinst .tuple) [(.var 1)]) (.bi (.isinst .list) [(.var 1)])) [.ifs (.or (.not (.bi (.isinst .tuple) [(.var 0)])) (.op .ne (.bi .len [(.var 0)]) (.bi .len [(.var 1)]))) [.ret (.bl false)] [], .fr .r1 [2] [(.bi .len [(.var 1)])] [.ifs (.not (.call f [(.idx (.var 0) (.var 2)), (.idx (.var 1) (.var 2))])) [.ret (.bl false)] []] [2], .ret (.bl true)] [], .ifs (.un .isN (.var 1)) [.ret (.un .isN (.var 0))] [], .ifs (.un (.isB true) (.var 1)) [.ret (.un (.isB true) (.var 0))] [], .ifs (.un (.isB false) (.var 1)) [.ret (.un (.isB false) (.var 0))] [], .ifs (.bi (.isinst .str) [(.var 1)]) [.ret (.and (.bi (.isinst .str) [(.var 0)]) (.op .eq (.var 0) (.var 1)))] [], .ret (.and (.call w [(.var 0)]) (.op .eq (.var 0) (.var 1)))]
/-- a loop that leaves the state as it was -/
theorem forR_const {vs : List Nat} {n : Nat} {b : D → PSt → Out} {s : PSt} : ∀ {items : List D}, (∀ x ∈ items, ∃ s', b x s = .nx s' ∧ tidy vs n s' = some s) → forR vs n b items s = .nx s
  | [], _ => rfl
  | x :: xs, h => by
    obtain ⟨s', h1, h2⟩ := h x List.mem_cons_self
    rw [forR_cons, h1, nextTurn_nx, h2]
    exact forR_const fun y hy => h y (List.mem_cons_of_mem _ hy)
theorem mem_rng {a b : Int} {x : D} (h : x ∈ rng a b) : ∃ i : Int, x = .int i ∧ a ≤ i ∧ i < b := by
  unfold rng at h
  obtain ⟨k, hk, rfl⟩ := List.mem_map.mp h
  rw [List.mem_range] at hk
  exact ⟨_, rfl, by omega, by omega⟩
theorem same_int {f w : Nat} (hw : ∀ i : Int, Φ w [.int i] = .ok (.sh (.bl true))) (i : Int) : endR (exSs Φ (bSame f w) (enter 3 [.int i, .int i])) = .ok (.sh (.bl true)) := by
  simp -implicitDefEqProofs [bSame, hasTy, D.isNon, D.isBl, hw]
theorem same_non {f w : Nat} : endR (exSs Φ (bSame f w) (enter 3 [.non, .non])) = .ok (.sh (.bl true)) := by
  simp -implicitDefEqProofs [bSame, hasTy, D.isNon]
theorem same_bl {f w : Nat} (b : Bool) : endR (exSs Φ (bSame f w) (enter 3 [.bl b, .bl b])) = .ok (.sh (.bl true)) := by
  cases b <;> simp -implicitDefEqProofs [bSame, hasTy, D.isNon, D.isBl]
theorem same_tup {f w : Nat} {xs : List D} (hl : xs.length < 1000000) (h : ∀ x ∈ xs, Φ f [x, x] = .ok (.sh (.bl true))) : endR (exSs Φ (bSame f w) (enter 3 [.tup xs, .tup xs])) = .ok (.sh (.bl true)) := by
  have r : rngOk 0 (xs.length : Int) = true := rngOk_of (by omega) (by omega) (by omega) (by omega) (by omega)
  have loop := forR_const (vs := [2]) (n := 0) (b := frB Φ [2] [.ifs (.not (.call f [(.idx (.var 0) (.var 2)), (.idx (.var 1) (.var 2))])) [.ret (.bl false)] []]) (s := ⟨[some (.sh (.tup xs)), some (.sh (.tup xs)), none], []⟩) (items := rng 0 xs.length) fun x hx => by
    obtain ⟨i, rfl, h1, h2⟩ := mem_rng hx
    obtain ⟨k, rfl⟩ : ∃ k : Nat, i = (k : Int) := ⟨i.toNat, by omega⟩
    have hk : k < xs.length := by omega
    have e : xs[k]? = some xs[k] := List.getElem?_eq_getElem hk
    have e2 : ixR (.tup xs) (.int (k : Int)) = .ok xs[k] := by simp -implicitDefEqProofs [ixR, D.seq, atI_get e]
    refine ⟨⟨[some (.sh (.tup xs)), some (.sh (.tup xs)), some (.sh (.int k))], []⟩, ?_, by simp⟩
    simp -implicitDefEqProofs [frB, e2, h xs[k] (List.getElem_mem hk)]
  simp -implicitDefEqProofs [bSame, hasTy, srcR_r1 r, loop]
/-! ### _law_cell -/
def bCellT : List S := [.set 2 (.op .mod (.bi .int [(.op .add (.op .mul (.var 2) (.int 31)) (.op .mod (.bi .int [(.var 3)]) (.int 1000003)))]) (.int 1000003))]
def bCell : List S := [.ifs (.op .lt (.var 1) (.bi .len [(.var 0)])) [.ret (.idx (.var 0) (.var 1))] [], .set 2 (.int 17), .fr .seq [3] [(.var 0)] bCellT [3], .ret (.op .mod (.bi .int [(.op .mul (.op .mul (.op .add (.var 2) (.int 7)) (.op .add (.var 1) (.int 3))) (.int 69621))]) (.int 2147483647))]
theorem mul_small {i j : Int} (hi : -(2 ^ 62) < i ∧ i < 2 ^ 62) (hj : -(2 ^ 62) < j ∧ j < 2 ^ 62) : mulOk i j = true := mulOk_of (a := 62) (b := 62) (by omega) (by omega) (by decide)
theorem cell_loop (X Y : Option SV) : ∀ (ns : List Int) (s : Int), 0 ≤ s → s < 1000003 → ∃ s' : Int, (0 ≤ s' ∧ s' < 1000003) ∧ forR [3] 0 (frB Φ [3] bCellT) (ns.map D.int) ⟨[X, Y, some (.sh (.int s)), none], []⟩ = .nx ⟨[X, Y, some (.sh (.int s')), none], []⟩
  | [], s, h1, h2 => ⟨s, ⟨h1, h2⟩, rfl⟩
  | n :: ns, s, h1, h2 => by
    have m := mul_small (i := s) (j := 31) (by omega) (by decide)
    have d1 := op2_mod (i := n) (j := 1000003) (by decide)
    have d2 := op2_mod (i := s * 31 + n % 1000003) (j := 1000003) (by decide)
    obtain ⟨s', hs, e⟩ := cell_loop X Y ns ((s * 31 + n % 1000003) % 1000003) (by omega) (by omega)
    refine ⟨s', hs, ?_⟩
    rw [List.map_cons, forR_cons, ← e]
    simp -implicitDefEqProofs [frB, bCellT, op2_mul m, d1, d2]
theorem cell_run {ns : List Int} {k : Nat} (hl : ns.length < 1000000) (hk : k < 1000000) : ∃ c : Int, endR (exSs Φ bCell (enter 4 [.fz (ns.map .int), .int k])) = .ok (.sh (.int c)) := by
  by_cases h : k < ns.length
  · refine ⟨ns[k], ?_⟩
    have e2 : ixR (.fz (ns.map D.int)) (.int (k : Int)) = .ok (.int ns[k]) := by
      simp [ixR, D.seq, atI_get (show (ns.map D.int)[k]? = some (.int ns[k]) by simp [h])]
    have h' : (k : Int) < (ns.length : Int) := by omega
    simp -implicitDefEqProofs [bCell, h, e2]
  · obtain ⟨s', hs, e⟩ := cell_loop (Φ := Φ) (some (.sh (.fz (ns.map .int)))) (some (.sh (.int k))) ns 17 (by decide) (by decide)
    have m1 : mulOk (s' + 7) ((k : Int) + 3) = true := mul_small (by omega) (by omega)
    have b1 : (s' + 7) * ((k : Int) + 3) < 2 ^ 50 := by
      have : (s' + 7) * ((k : Int) + 3) ≤ 1000010 * 1000003 := Int.mul_le_mul (by omega) (by omega) (by omega) (by omega)
      omega
    have b2 : 0 ≤ (s' + 7) * ((k : Int) + 3) := Int.mul_nonneg (by omega) (by omega)
    have m2 : mulOk ((s' + 7) * ((k : Int) + 3)) 69621 = true := mul_small (by omega) (by decide)
    have d := op2_mod (i := (s' + 7) * ((k : Int) + 3) * 69621) (j := 2147483647) (by decide)
    refine ⟨(s' + 7) * ((k : Int) + 3) * 69621 % 2147483647, ?_⟩
    simp -implicitDefEqProofs [bCell, h, e, op2_mul m1, op2_mul m2, d]
/-! ### _law_digits -/
def bDigA : List S := [.app 2 (.op .mod (.bi .int [(.var 3)]) (.var 4)), .set 3 (.op .fdiv (.bi .int [(.var 3)]) (.var 4))]
def bDigB : List S := [.set 5 (.op .mod (.bi .int [(.op .add (.op .add (.op .mul (.var 5) (.int 48271)) (.op .mul (.int 974711) (.var 6))) (.int 12345))]) (.int 2147483647)), .set 7 (.op .mod (.bi .int [(.op .mul (.var 5) (.op .add (.op .fdiv (.var 5) (.int 65537)) (.int 3)))]) (.int 2147483629)), .app 2 (.op .mod (.op .fdiv (.var 7) (.int 19)) (.idx (.var 1) (.var 6)))]
def bDig : List S := [.own 2 (.lst []), .set 3 (.bi .int [(.var 0)]), .ifs (.op .ge (.var 3) (.op .pow (.int 10) (.int 18))) [.set 3 (.op .sub (.var 3) (.op .pow (.int 10) (.int 18))), .fr .seq [4] [(.var 1)] bDigA [4], .ret (.var 2)] [], .set 5 (.op .mod (.bi .int [(.var 3)]) (.int 2147483629)), .fr .r1 [6] [(.bi .len [(.var 1)])] bDigB [6, 7], .ret (.var 2)]
/-- each digit below its size -/
def InB (row sizes : List Int) : Prop := row.length = sizes.length ∧ ∀ (i : Nat) (r s : Int), row[i]? = some r → sizes[i]? = some s → 0 ≤ r ∧ r < s
theorem InB.snoc {row done : List Int} (h : InB row done) {r s : Int} (h1 : 0 ≤ r) (h2 : r < s) : InB (row ++ [r]) (done ++ [s]) := by
  refine ⟨by simp [h.1], fun i x y e1 e2 => ?_⟩
  by_cases hi : i < row.length
  · rw [List.getElem?_append_left hi] at e1
    rw [List.getElem?_append_left (by rw [← h.1]; exact hi)] at e2
    exact h.2 i x y e1 e2
  · rw [List.getElem?_append_right (by omega)] at e1
    rw [List.getElem?_append_right (by have := h.1; omega), ← h.1] at e2
    cases hq : i - row.length with
    | zero =>
      rw [hq] at e1 e2
      simp at e1 e2
      subst e1; subst e2
      exact ⟨h1, h2⟩
    | succ n => rw [hq] at e1; simp at e1
def SizesOk (sizes : List Int) : Prop := sizes.length < 100000 ∧ ∀ s ∈ sizes, 0 < s ∧ s < 2 ^ 62
abbrev rowC (row : List Int) : List SV := (row.map D.int).map SV.sh
theorem len_lt {n : Nat} (h : n < 100000) : n < LINE := Nat.lt_trans h (Nat.lt_trans (by decide) LINE_big)
theorem digA (C Sz : Option SV) : ∀ (sizes : List Int) (done row : List Int) (rest : Int), InB row done → (∀ s ∈ sizes, 0 < s ∧ s < 2 ^ 62) → (done ++ sizes).length < 100000 →
    ∃ (row' : List Int) (rest' : Int), InB row' (done ++ sizes) ∧ forR [4] 1 (frB Φ [4] bDigA) (sizes.map D.int) ⟨[C, Sz, some (.loc 0), some (.sh (.int rest)), none, none, none, none], [.ls (rowC row)]⟩ = .nx ⟨[C, Sz, some (.loc 0), some (.sh (.int rest')), none, none, none, none], [.ls (rowC row')]⟩
  | [], done, row, rest, h, _, _ => ⟨row, rest, by rw [List.append_nil]; exact h, rfl⟩
  | s :: sizes, done, row, rest, h, hs, hl => by
    have s0 := hs s List.mem_cons_self
    have hl2 : row.length < 100000 := by
      rw [List.length_append] at hl
      rw [h.1]; omega
    have l1 := len_lt hl2
    have d1 := op2_mod (i := rest) s0.1
    have d2 := op2_fdiv (i := rest) (divOk_of (j := s) (a := 62) s0.1 (by omega) (by decide))
    obtain ⟨row', rest', q1, q2⟩ := digA C Sz sizes (done ++ [s]) (row ++ [rest % s]) (rest / s) (h.snoc (Int.emod_nonneg _ (by omega)) (Int.emod_lt_of_pos _ s0.1)) (fun x hx => hs x (List.mem_cons_of_mem _ hx)) (by simpa using hl)
    refine ⟨row', rest', by simpa using q1, ?_⟩
    rw [List.map_cons, forR_cons, ← q2]
    simp -implicitDefEqProofs [frB, bDigA, d1, d2, cellOf, l1, D.noL, rowC]
theorem digB (C R3 : Option SV) {sizes : List Int} (hs : SizesOk sizes) : ∀ (m k : Nat) (row : List Int) (seed : Int), k + m = sizes.length → InB row (sizes.take k) → 0 ≤ seed → seed < 2147483647 →
    ∃ (row' : List Int) (seed' : Int), InB row' sizes ∧ forR [6, 7] 1 (frB Φ [6] bDigB) (rng k sizes.length) ⟨[C, some (.sh (.lst (sizes.map .int))), some (.loc 0), R3, none, some (.sh (.int seed)), none, none], [.ls (rowC row)]⟩
      = .nx ⟨[C, some (.sh (.lst (sizes.map .int))), some (.loc 0), R3, none, some (.sh (.int seed')), none, none], [.ls (rowC row')]⟩
  | 0, k, row, seed, e, h, _, _ => by
    rw [rng_nil (by omega)]
    rw [List.take_of_length_le (by omega)] at h
    exact ⟨row, seed, h, rfl⟩
  | m + 1, k, row, seed, e, h, s1, s2 => by
    have hk : k < sizes.length := by omega
    have sz := hs.2 sizes[k] (List.getElem_mem hk)
    have hl2 : row.length < 100000 := by
      have := h.1
      rw [List.length_take] at this
      have := hs.1
      omega
    have l1 := len_lt hl2
    have hk5 : (k : Int) < 100000 := by have := hs.1; omega
    have m1 := mul_small (i := seed) (j := 48271) (by omega) (by decide)
    have m2 := mul_small (i := 974711) (j := (k : Int)) (by decide) (by omega)
    have d1 := op2_mod (i := seed * 48271 + 974711 * (k : Int) + 12345) (j := 2147483647) (by decide)
    generalize hs1 : (seed * 48271 + 974711 * (k : Int) + 12345) % 2147483647 = sd at d1
    have b1 : 0 ≤ sd ∧ sd < 2147483647 := by omega
    have dv := op2_fdiv (i := sd) (j := 65537) (divOk_of (a := 17) (by decide) (by decide) (by decide))
    have b2 : 0 ≤ sd / 65537 + 3 ∧ sd / 65537 + 3 < 100000 := by omega
    have m3 := mul_small (i := sd) (j := sd / 65537 + 3) (by omega) (by omega)
    have d2 := op2_mod (i := sd * (sd / 65537 + 3)) (j := 2147483629) (by decide)
    have dv2 := op2_fdiv (i := sd * (sd / 65537 + 3) % 2147483629) (j := 19) (divOk_of (a := 5) (by decide) (by decide) (by decide))
    have d3 := op2_mod (i := sd * (sd / 65537 + 3) % 2147483629 / 19) sz.1
    have ix : ixR (.lst (sizes.map D.int)) (.int (k : Int)) = .ok (.int sizes[k]) := by
      simp [ixR, D.seq, atI_get (show (sizes.map D.int)[k]? = some (.int sizes[k]) by simp [hk])]
    have ht : sizes.take (k + 1) = sizes.take k ++ [sizes[k]] := by rw [List.take_succ, List.getElem?_eq_getElem hk]; rfl
    obtain ⟨row', seed', q1, q2⟩ := digB C R3 hs m (k + 1) (row ++ [sd * (sd / 65537 + 3) % 2147483629 / 19 % sizes[k]]) sd (by omega) (by rw [ht]; exact h.snoc (Int.emod_nonneg _ (by omega)) (Int.emod_lt_of_pos _ sz.1)) b1.1 b1.2
    refine ⟨row', seed', q1, ?_⟩
    rw [rng_cons (by omega), forR_cons, show ((k : Int) + 1) = ((k + 1 : Nat) : Int) by simp, ← q2]
    simp -implicitDefEqProofs [frB, bDigB, op2_mul m1, op2_mul m2, d1, dv, op2_mul m3, d2, dv2, d3, ix, cellOf, l1, D.noL, rowC]
theorem dig_run (c : Int) {sizes : List Int} (hs : SizesOk sizes) : ∃ row : List Int, InB row sizes ∧ endR (exSs Φ bDig (enter 8 [.int c, .lst (sizes.map .int)])) = .ok (.sh (.lst (row.map .int))) := by
  have n0 : InB [] [] := ⟨rfl, fun i r s e => by simp at e⟩
  have pw : op2 .pow (.int 10) (.int 18) = .ok (.int (10 ^ 18)) := by
    have : powOk 10 18 = true := by decide +kernel
    simp [op2, this]
  have z0 : (0 : Nat) ≤ LINE := Nat.zero_le _
  by_cases h : (10 ^ 18 : Int) ≤ c
  · obtain ⟨row', rest', q1, q2⟩ := digA (Φ := Φ) (some (.sh (.int c))) (some (.sh (.lst (sizes.map .int)))) sizes [] [] (c - 10 ^ 18) n0 hs.2 (by simpa using hs.1)
    refine ⟨row', by simpa using q1, ?_⟩
    have h' : (1000000000000000000 : Int) ≤ c := by omega
    simp only [rowC, List.map_nil] at q2
    have e18 : (10 : Int) ^ 18 = 1000000000000000000 := by decide
    rw [e18] at pw q2
    simp -implicitDefEqProofs [bDig, pw, h', evO, z0, D.noL.noLs, q2, rowC, -List.map_map]
  · have h' : ¬ (1000000000000000000 : Int) ≤ c := by omega
    have e18 : (10 : Int) ^ 18 = 1000000000000000000 := by decide
    rw [e18] at pw
    have d0 := op2_mod (i := c) (j := 2147483629) (by decide)
    obtain ⟨row', seed', q1, q2⟩ := digB (Φ := Φ) (some (.sh (.int c))) (some (.sh (.int c))) hs sizes.length 0 [] (c % 2147483629) (by omega) (by simpa using n0) (by omega) (by omega)
    refine ⟨row', q1, ?_⟩
    have r : rngOk 0 (sizes.length : Int) = true := by
      have := hs.1
      exact rngOk_of (by omega) (by omega) (by omega) (by omega) (by omega)
    simp only [rowC, List.map_nil, Int.ofNat_zero, Int.natCast_zero] at q2
    simp -implicitDefEqProofs [bDig, pw, h', evO, z0, D.noL.noLs, d0, srcR_r1 r, q2, rowC, -List.map_map]
end R
end

section
set_option Elab.async false
set_option linter.all false
set_option maxRecDepth 100000
/-! R25: comprehensions over a range, == of int lists. -/
namespace R
open PySem
theorem mapR_all {α β : Type} {f : D → Res (Option β)} {i : α → D} {g : α → β} : ∀ {xs : List α}, (∀ x ∈ xs, f (i x) = .ok (some (g x))) → mapR f (xs.map i) = .ok (xs.map g)
  | [], _ => rfl
  | x :: xs, h => by
    rw [List.map_cons, mapR, h x List.mem_cons_self, mapR_all fun y hy => h y (List.mem_cons_of_mem _ hy)]
    rfl
theorem rng0 (c : Nat) : rng 0 c = (List.range c).map fun k => D.int (k : Nat) := by
  unfold rng
  rw [show ((c : Int) - 0).toNat = c by omega]
  apply List.map_congr_left
  intro k _
  simp
@[simp] theorem noEx_ok' {α : Type} (a : α) : noEx (.ok a : Res α) = .ok a := rfl
theorem eqvs_int : ∀ xs : List Int, D.eqv.eqvs (xs.map .int) (xs.map .int) = true
  | [] => rfl
  | x :: xs => by
    rw [List.map_cons, D.eqv.eqvs, eqvs_int xs]
    simp [D.eqv]
theorem eqv_ints (xs : List Int) : D.eqv (.lst (xs.map .int)) (.lst (xs.map .int)) = true := by
  rw [D.eqv]
  exact eqvs_int xs
theorem plain_ints (n : Nat) (xs : List Int) : D.plain (n + 1) (.lst (xs.map .int)) = true := by
  rw [D.plain, List.all_map, List.all_eq_true]
  intro x _
  simp [D.plain]
/-- two lists of ints side by side -/
theorem eq_two (xs ys : List Int) : op2 .eq (.lst [.lst (xs.map .int), .lst (ys.map .int)]) (.lst [.lst (xs.map .int), .lst (ys.map .int)]) = .ok (.bl true) := by
  have p : D.plain 20 (.lst [.lst (xs.map .int), .lst (ys.map .int)]) = true := by
    rw [D.plain]
    simp [plain_ints]
  have e : D.eqv (.lst [.lst (xs.map .int), .lst (ys.map .int)]) (.lst [.lst (xs.map .int), .lst (ys.map .int)]) = true := by
    rw [D.eqv]
    simp [D.eqv.eqvs, eqv_ints]
  simp [op2, eqR, p, e]
@[simp] theorem bi_listL (xs : List D) : bi .list [.lst xs] = .ok (.lst xs) := rfl
end R
end

section
set_option Elab.async false
set_option linter.all false
set_option maxRecDepth 100000
set_option maxHeartbeats 0
/-! printed by pyc.py: the defs of onewarmth_k01_powers_and_roots in the compact form -/
namespace L_onewarmth_k01_powers_and_roots
open PySem R
/-- 0 -/
def d_ratio : Def := ⟨2, 4, [.ifs (.op .eq (.var 1) (.int 0)) [.never] [], .set 2 (.int 1), .ifs (.op .lt (.var 1) (.int 0)) [.set 2 (.un .neg (.int 1))] [], .set 3 (.bi .gcd [(.var 0), (.var 1)]), .ret (.tup [(.op .fdiv (.op .mul (.var 2) (.var 0)) (.var 3)), (.op .fdiv (.op .mul (.var 2) (.var 1)) (.var 3))])]⟩
/-- 1 -/
def d_whole_power : Def := ⟨2, 5, [.set 2 (.int 1), .set 3 (.var 0), .set 4 (.var 1), .whl (.op .gt (.var 4) (.int 0)) [.ifs (.op .eq (.op .mod (.var 4) (.int 2)) (.int 1)) [.set 2 (.op .mul (.var 2) (.var 3))] [], .set 4 (.op .fdiv (.var 4) (.int 2)), .ifs (.op .gt (.var 4) (.int 0)) [.set 3 (.op .mul (.var 3) (.var 3))] []] [], .ret (.var 2)]⟩
/-- 2 -/
def d_power : Def := ⟨2, 2, [.ifs (.op .lt (.var 1) (.int 0)) [.ret (.tup [(.call 1 [(.idx (.var 0) (.int 1)), (.un .neg (.var 1))]), (.call 1 [(.idx (.var 0) (.int 0)), (.un .neg (.var 1))])])] [], .ret (.tup [(.call 1 [(.idx (.var 0) (.int 0)), (.var 1)]), (.call 1 [(.idx (.var 0) (.int 1)), (.var 1)])])]⟩
/-- 3 -/
def d_power_product : Def := ⟨2, 6, [.set 2 (.int 1), .set 3 (.int 1), .fr .zip [4, 5] [(.var 0), (.var 1)] [.ifs (.op .gt (.var 5) (.int 0)) [.set 2 (.op .mul (.var 2) (.call 1 [(.var 4), (.var 5)]))] [], .ifs (.op .lt (.var 5) (.int 0)) [.set 3 (.op .mul (.var 3) (.call 1 [(.var 4), (.un .neg (.var 5))]))] []] [4, 5], .ret (.call 0 [(.var 2), (.var 3)])]⟩
/-- 4 -/
def d_least_exponent : Def := ⟨3, 6, [.set 3 (.int 1), .set 4 (.int 1), .fr .r1 [5] [(.op .add (.var 2) (.int 1))] [.ifs (.op .gt (.op .mul (.var 3) (.idx (.var 1) (.int 1))) (.op .mul (.idx (.var 1) (.int 0)) (.var 4))) [.ret (.var 5)] [], .set 3 (.op .mul (.var 3) (.idx (.var 0) (.int 0))), .set 4 (.op .mul (.var 4) (.idx (.var 0) (.int 1)))] [5], .ret .non]⟩
/-- 5 -/
def d_whole_root : Def := ⟨2, 5, [.set 2 (.int 1), .set 3 (.op .shl (.int 1) (.op .add (.op .fdiv (.bits (.var 0)) (.var 1)) (.int 1))), .whl (.op .lt (.var 2) (.var 3)) [.set 4 (.op .fdiv (.op .add (.var 2) (.var 3)) (.int 2)), .ifs (.op .lt (.call 1 [(.var 4), (.var 1)]) (.var 0)) [.set 2 (.op .add (.var 4) (.int 1))] [.set 3 (.var 4)]] [4], .ifs (.op .eq (.call 1 [(.var 2), (.var 1)]) (.var 0)) [.ret (.var 2)] [], .ret .non]⟩
/-- 6 -/
def d_root : Def := ⟨2, 4, [.set 2 (.call 5 [(.idx (.var 0) (.int 0)), (.var 1)]), .set 3 (.call 5 [(.idx (.var 0) (.int 1)), (.var 1)]), .ifs (.or (.un .isN (.var 2)) (.un .isN (.var 3))) [.ret .non] [], .ret (.tup [(.var 2), (.var 3)])]⟩
/-- 7 -/
def d_least_power : Def := ⟨2, 4, [.fr .r2 [2] [(.int 1), (.var 0)] [.ifs (.op .eq (.op .mod (.var 0) (.var 2)) (.int 0)) [.set 3 (.call 6 [(.var 1), (.op .fdiv (.var 0) (.var 2))]), .ifs (.un .notN (.var 3)) [.ret (.tup [(.var 2), (.var 3)])] []] []] [2, 3], .ret (.tup [(.var 0), (.tup [(.idx (.var 1) (.int 0)), (.idx (.var 1) (.int 1))])])]⟩
/-- 8 -/
def d__law_whole : Def := ⟨1, 1, [.ret (.and (.bi (.isinst .int) [(.var 0)]) (.not (.bi (.isinst .bool) [(.var 0)])))]⟩
/-- 9 -/
def d__law_cell : Def := ⟨2, 4, [.ifs (.op .lt (.var 1) (.bi .len [(.var 0)])) [.ret (.idx (.var 0) (.var 1))] [], .set 2 (.int 17), .fr .seq [3] [(.var 0)] [.set 2 (.op .mod (.bi .int [(.op .add (.op .mul (.var 2) (.int 31)) (.op .mod (.bi .int [(.var 3)]) (.int 1000003)))]) (.int 1000003))] [3], .ret (.op .mod (.bi .int [(.op .mul (.op .mul (.op .add (.var 2) (.int 7)) (.op .add (.var 1) (.int 3))) (.int 69621))]) (.int 2147483647))]⟩
/-- 10 -/
def d__law_digits : Def := ⟨2, 8, [.own 2 (.lst []), .set 3 (.bi .int [(.var 0)]), .ifs (.op .ge (.var 3) (.op .pow (.int 10) (.int 18))) [.set 3 (.op .sub (.var 3) (.op .pow (.int 10) (.int 18))), .fr .seq [4] [(.var 1)] [.app 2 (.op .mod (.bi .int [(.var 3)]) (.var 4)), .set 3 (.op .fdiv (.bi .int [(.var 3)]) (.var 4))] [4], .ret (.var 2)] [], .set 5 (.op .mod (.bi .int [(.var 3)]) (.int 2147483629)), .fr .r1 [6] [(.bi .len [(.var 1)])] [.set 5 (.op .mod (.bi .int [(.op .add (.op .add (.op .mul (.var 5) (.int 48271)) (.op .mul (.int 974711) (.var 6))) (.int 12345))]) (.int 2147483647)), .set 7 (.op .mod (.bi .int [(.op .mul (.var 5) (.op .add (.op .fdiv (.var 5) (.int 65537)) (.int 3)))]) (.int 2147483629)), .app 2 (.op .mod (.op .fdiv (.var 7) (.int 19)) (.idx (.var 1) (.var 6)))] [6, 7], .ret (.var 2)]⟩
/-- 11 -/
def d__law_gcd : Def := ⟨2, 5, [.set 2 (.bi .abs [(.bi .int [(.var 0)])]), .set 3 (.bi .abs [(.bi .int [(.var 1)])]), .whl (.op .ne (.var 3) (.int 0)) [.set 4 (.op .mod (.bi .int [(.var 2)]) (.var 3)), .set 2 (.var 3), .set 3 (.var 4)] [4], .ret (.var 2)]⟩
/-- 12 -/
def d__law_fraction : Def := ⟨2, 3, [.ifs (.op .lt (.var 1) (.int 0)) [.ret (.call 12 [(.un .neg (.var 0)), (.un .neg (.var 1))])] [], .set 2 (.call 11 [(.var 0), (.var 1)]), .ret (.tup [(.op .fdiv (.var 0) (.var 2)), (.op .fdiv (.var 1) (.var 2))])]⟩
/-- 13 -/
def d__law_added : Def := ⟨2, 2, [.ret (.call 12 [(.op .add (.op .mul (.idx (.var 0) (.int 0)) (.idx (.var 1) (.int 1))) (.op .mul (.idx (.var 1) (.int 0)) (.idx (.var 0) (.int 1)))), (.op .mul (.idx (.var 0) (.int 1)) (.idx (.var 1) (.int 1)))])]⟩
/-- 14 -/
def d__law_less : Def := ⟨2, 2, [.ret (.call 12 [(.op .sub (.op .mul (.idx (.var 0) (.int 0)) (.idx (.var 1) (.int 1))) (.op .mul (.idx (.var 1) (.int 0)) (.idx (.var 0) (.int 1)))), (.op .mul (.idx (.var 0) (.int 1)) (.idx (.var 1) (.int 1)))])]⟩
/-- 15 -/
def d__law_power : Def := ⟨2, 5, [.set 2 (.int 1), .set 3 (.var 0), .set 4 (.var 1), .whl (.op .gt (.var 4) (.int 0)) [.ifs (.op .eq (.op .mod (.bi .int [(.var 4)]) (.int 2)) (.int 1)) [.set 2 (.op .mul (.var 2) (.var 3))] [], .set 4 (.op .fdiv (.var 4) (.int 2)), .ifs (.op .gt (.var 4) (.int 0)) [.set 3 (.op .mul (.var 3) (.var 3))] []] [], .ret (.var 2)]⟩
/-- 16 -/
def d__law_product : Def := ⟨2, 5, [.set 2 (.int 1), .set 3 (.int 1), .fr .r1 [4] [(.bi .len [(.var 0)])] [.ifs (.op .gt (.idx (.var 1) (.var 4)) (.int 0)) [.set 2 (.op .mul (.var 2) (.call 15 [(.idx (.var 0) (.var 4)), (.idx (.var 1) (.var 4))]))] [], .ifs (.op .lt (.idx (.var 1) (.var 4)) (.int 0)) [.set 3 (.op .mul (.var 3) (.call 15 [(.idx (.var 0) (.var 4)), (.un .neg (.idx (.var 1) (.var 4)))]))] []] [4], .ret (.call 12 [(.var 2), (.var 3)])]⟩
/-- 17 -/
def d__law_fraction_power : Def := ⟨2, 2, [.ifs (.op .lt (.var 1) (.int 0)) [.ret (.tup [(.call 15 [(.idx (.var 0) (.int 1)), (.un .neg (.var 1))]), (.call 15 [(.idx (.var 0) (.int 0)), (.un .neg (.var 1))])])] [], .ret (.tup [(.call 15 [(.idx (.var 0) (.int 0)), (.var 1)]), (.call 15 [(.idx (.var 0) (.int 1)), (.var 1)])])]⟩
/-- 18 -/
def d__law_same : Def := ⟨2, 3, [.ifs (.or (.bi (.isinst .tuple) [(.var 1)]) (.bi (.isinst .list) [(.var 1)])) [.ifs (.or (.not (.bi (.isinst .tuple) [(.var 0)])) (.op .ne (.bi .len [(.var 0)]) (.bi .len [(.var 1)]))) [.ret (.bl false)] [], .fr .r1 [2] [(.bi .len [(.var 1)])] [.ifs (.not (.call 18 [(.idx (.var 0) (.var 2)), (.idx (.var 1) (.var 2))])) [.ret (.bl false)] []] [2], .ret (.bl true)] [], .ifs (.un .isN (.var 1)) [.ret (.un .isN (.var 0))] [], .ifs (.un (.isB true) (.var 1)) [.ret (.un (.isB true) (.var 0))] [], .ifs (.un (.isB false) (.var 1)) [.ret (.un (.isB false) (.var 0))] [], .ifs (.bi (.isinst .str) [(.var 1)]) [.ret (.and (.bi (.isinst .str) [(.var 0)]) (.op .eq (.var 0) (.var 1)))] [], .ret (.and (.call 8 [(.var 0)]) (.op .eq (.var 0) (.var 1)))]⟩
/-- 19 -/
def d__law_whole_root : Def := ⟨2, 5, [.set 2 (.int 1), .set 3 (.int 2), .whl (.op .le (.call 15 [(.var 3), (.var 1)]) (.var 0)) [.set 2 (.var 3), .set 3 (.op .mul (.var 3) (.int 2))] [], .whl (.op .gt (.op .sub (.var 3) (.var 2)) (.int 1)) [.set 4 (.op .fdiv (.op .add (.var 2) (.var 3)) (.int 2)), .ifs (.op .le (.call 15 [(.var 4), (.var 1)]) (.var 0)) [.set 2 (.var 4)] [.set 3 (.var 4)]] [4], .ifs (.op .eq (.call 15 [(.var 2), (.var 1)]) (.var 0)) [.ret (.var 2)] [], .ret .non]⟩
/-- 20 -/
def d__law_fraction_root : Def := ⟨2, 4, [.set 2 (.call 19 [(.idx (.var 0) (.int 0)), (.var 1)]), .set 3 (.call 19 [(.idx (.var 0) (.int 1)), (.var 1)]), .ifs (.or (.un .isN (.var 2)) (.un .isN (.var 3))) [.ret .non] [], .ret (.tup [(.var 2), (.var 3)])]⟩
/-- 21 -/
def d__law_first_exponent : Def := ⟨3, 5, [.set 3 (.tup [(.int 1), (.int 1)]), .fr .r1 [4] [(.op .add (.var 2) (.int 1))] [.ifs (.op .gt (.op .mul (.idx (.var 3) (.int 0)) (.idx (.var 1) (.int 1))) (.op .mul (.idx (.var 1) (.int 0)) (.idx (.var 3) (.int 1)))) [.ret (.var 4)] [], .set 3 (.tup [(.op .mul (.idx (.var 3) (.int 0)) (.idx (.var 0) (.int 0))), (.op .mul (.idx (.var 3) (.int 1)) (.idx (.var 0) (.int 1)))])] [4], .ret .non]⟩
/-- 22 -/
def d__law_powers_hold : Def := ⟨1, 7, [.set 1 (.idx (.lst [(.call 12 [(.op .add (.int 1) (.idx (.var 0) (.int 0))), (.op .add (.int 1) (.idx (.var 0) (.int 1)))]), (.tup [(.int 1001), (.int 1000)]), (.tup [(.int 1), (.int 1)]), (.tup [(.op .add (.idx (.var 0) (.int 0)) (.int 1)), (.op .add (.idx (.var 0) (.int 0)) (.int 2))])]) (.idx (.var 0) (.int 2))), .ifs (.op .eq (.idx (.var 0) (.int 3)) (.int 0)) [.set 1 (.call 12 [(.op .add (.op .add (.op .pow (.int 10) (.int 19)) (.op .mul (.int 7) (.idx (.var 0) (.int 0)))) (.int 1)), (.op .add (.int 1) (.idx (.var 0) (.int 1)))])] [], .set 2 (.op .sub (.idx (.var 0) (.int 4)) (.int 40)), .ifs (.op .eq (.idx (.var 0) (.int 5)) (.int 0)) [.set 1 (.call 12 [(.op .add (.int 1) (.op .mod (.bi .int [(.idx (.var 0) (.int 0))]) (.int 3))), (.op .add (.int 1) (.op .mod (.bi .int [(.idx (.var 0) (.int 1))]) (.int 3)))]), .set 2 (.op .sub (.op .mul (.int 37) (.idx (.var 0) (.int 4))) (.int 1480))] [], .ifs (.not (.call 18 [(.call 2 [(.var 1), (.var 2)]), (.call 17 [(.var 1), (.var 2)])])) [.ret (.bl false)] [], .set 3 (.comp .r1 [6] [(.idx (.var 0) (.int 6))] [] (.op .add (.int 1) (.idx (.var 0) (.op .add (.int 7) (.op .mul (.int 2) (.var 6)))))), .set 4 (.comp .r1 [6] [(.idx (.var 0) (.int 6))] [] (.op .sub (.idx (.var 0) (.op .add (.int 8) (.op .mul (.int 2) (.var 6)))) (.int 30))), .set 5 (.lst [(.bi .list [(.var 3)]), (.bi .list [(.var 4)])]), .ifs (.not (.call 18 [(.call 3 [(.idx (.var 5) (.int 0)), (.idx (.var 5) (.int 1))]), (.call 16 [(.var 3), (.var 4)])])) [.ret (.bl false)] [], .ret (.op .eq (.var 5) (.lst [(.var 3), (.var 4)]))]⟩
/-- 23 -/
def d__law_exponents_hold : Def := ⟨1, 4, [.set 1 (.idx (.lst [(.call 12 [(.op .add (.op .add (.int 2) (.idx (.var 0) (.int 0))) (.idx (.var 0) (.int 1))), (.op .add (.int 1) (.idx (.var 0) (.int 1)))]), (.tup [(.int 1001), (.int 1000)]), (.tup [(.int 1), (.int 1)]), (.tup [(.op .add (.idx (.var 0) (.int 0)) (.int 1)), (.op .add (.idx (.var 0) (.int 0)) (.int 2))])]) (.idx (.var 0) (.int 2))), .set 2 (.call 17 [(.var 1), (.idx (.var 0) (.int 3))]), .ifs (.op .eq (.idx (.var 0) (.int 4)) (.int 1)) [.set 2 (.tup [(.int 0), (.int 1)])] [], .ifs (.op .eq (.idx (.var 0) (.int 4)) (.int 2)) [.set 2 (.call 13 [(.var 2), (.tup [(.int 1), (.int 1000)])])] [], .ifs (.and (.op .eq (.idx (.var 0) (.int 4)) (.int 3)) (.op .gt (.idx (.var 2) (.int 0)) (.idx (.var 2) (.int 1)))) [.set 2 (.call 14 [(.var 2), (.tup [(.int 1), (.int 1000)])])] [], .set 3 (.idx (.lst [(.idx (.var 0) (.int 3)), (.op .add (.idx (.var 0) (.int 3)) (.int 1)), (.bi .max2 [(.int 0), (.op .sub (.idx (.var 0) (.int 3)) (.int 1))]), (.int 60), (.int 0), (.int 200)]) (.idx (.var 0) (.int 5))), .ifs (.and (.op .eq (.idx (.var 0) (.int 2)) (.int 1)) (.op .eq (.idx (.var 0) (.int 6)) (.int 0))) [.set 2 (.tup [(.op .add (.int 1) (.idx (.var 0) (.int 0))), (.int 1)]), .set 3 (.int 1000)] [], .ret (.call 18 [(.call 4 [(.var 1), (.var 2), (.var 3)]), (.call 21 [(.var 1), (.var 2), (.var 3)])])]⟩
/-- 24 -/
def d__law_roots_hold : Def := ⟨1, 8, [.set 1 (.call 12 [(.op .add (.int 1) (.idx (.var 0) (.int 0))), (.op .add (.int 1) (.idx (.var 0) (.int 1)))]), .set 2 (.op .add (.int 1) (.idx (.var 0) (.int 2))), .ifs (.op .eq (.idx (.var 0) (.int 3)) (.int 0)) [.set 2 (.op .add (.int 1) (.op .mul (.int 19) (.idx (.var 0) (.int 4)))), .set 1 (.call 12 [(.op .add (.int 1) (.op .mod (.bi .int [(.idx (.var 0) (.int 0))]) (.int 3))), (.op .add (.int 1) (.op .mod (.bi .int [(.idx (.var 0) (.int 1))]) (.int 3)))])] [], .set 3 (.call 17 [(.var 1), (.var 2)]), .ifs (.op .eq (.idx (.var 0) (.int 5)) (.int 1)) [.set 3 (.call 12 [(.op .add (.idx (.var 3) (.int 0)) (.int 1)), (.idx (.var 3) (.int 1))])] [], .ifs (.op .eq (.idx (.var 0) (.int 5)) (.int 2)) [.set 3 (.call 12 [(.idx (.var 3) (.int 0)), (.op .add (.idx (.var 3) (.int 1)) (.int 1))])] [], .ifs (.not (.call 18 [(.call 6 [(.var 3), (.var 2)]), (.call 20 [(.var 3), (.var 2)])])) [.ret (.bl false)] [], .set 4 (.op .add (.int 1) (.idx (.var 0) (.int 6))), .set 2 (.op .mul (.var 4) (.op .add (.int 1) (.idx (.var 0) (.int 7)))), .set 1 (.call 17 [(.call 12 [(.op .add (.int 1) (.op .mod (.bi .int [(.idx (.var 0) (.int 0))]) (.int 9))), (.op .add (.int 1) (.op .mod (.bi .int [(.idx (.var 0) (.int 1))]) (.int 7)))]), (.op .add (.int 1) (.idx (.var 0) (.int 7)))]), .set 5 .non, .fr .r2 [6] [(.int 1), (.op .add (.var 2) (.int 1))] [.ifs (.and (.un .isN (.var 5)) (.op .eq (.op .mod (.bi .int [(.var 2)]) (.var 6)) (.int 0))) [.set 7 (.call 20 [(.var 1), (.op .fdiv (.var 2) (.var 6))]), .ifs (.un .notN (.var 7)) [.set 5 (.tup [(.var 6), (.var 7)])] []] []] [6, 7], .ret (.call 18 [(.call 7 [(.var 2), (.bi .list [(.var 1)])]), (.var 5)])]⟩
/-- 25 -/
def d_law : Def := ⟨1, 2, [.set 1 (.call 10 [(.call 9 [(.var 0), (.int 0)]), (.op .add (.lst [(.int 12), (.int 12), (.int 4), (.int 9), (.int 81), (.int 9), (.int 7)]) (.op .mul (.lst [(.int 30), (.int 61)]) (.int 6)))]), .ifs (.not (.call 22 [(.var 1)])) [.ret (.bl false)] [], .ifs (.not (.call 23 [(.call 10 [(.call 9 [(.var 0), (.int 1)]), (.lst [(.int 9), (.int 9), (.int 4), (.int 40), (.int 4), (.int 6), (.int 5)])])])) [.ret (.bl false)] [], .ret (.call 24 [(.call 10 [(.call 9 [(.var 0), (.int 2)]), (.lst [(.int 14), (.int 14), (.int 60), (.int 9), (.int 22), (.int 3), (.int 12), (.int 8)])])])]⟩
def prog : List Def := [d_ratio, d_whole_power, d_power, d_power_product, d_least_exponent, d_whole_root, d_root, d_least_power, d__law_whole, d__law_cell, d__law_digits, d__law_gcd, d__law_fraction, d__law_added, d__law_less, d__law_power, d__law_product, d__law_fraction_power, d__law_same, d__law_whole_root, d__law_fraction_root, d__law_first_exponent, d__law_powers_hold, d__law_exponents_hold, d__law_roots_hold, d_law]
def top (i : Nat) : Stmt := PySem.Challenge.pw_onewarmth_k01_powers_and_roots.main.body.getD i (.Pass ⟨0, 0, 0, 0⟩)
def f_ratio : Fun := ⟨"ratio", top 5, ["top", "bottom", "sign", "common"], d_ratio⟩
def f_whole_power : Fun := ⟨"whole_power", top 7, ["number", "exponent", "result", "square", "left"], d_whole_power⟩
def f_power : Fun := ⟨"power", top 8, ["base", "exponent"], d_power⟩
def f_power_product : Fun := ⟨"power_product", top 9, ["numbers", "exponents", "top", "bottom", "number", "exponent"], d_power_product⟩
def f_least_exponent : Fun := ⟨"least_exponent", top 10, ["base", "bound", "most", "top", "bottom", "exponent"], d_least_exponent⟩
def f_whole_root : Fun := ⟨"whole_root", top 11, ["number", "degree", "low", "high", "middle"], d_whole_root⟩
def f_root : Fun := ⟨"root", top 12, ["base", "degree", "top", "bottom"], d_root⟩
def f_least_power : Fun := ⟨"least_power", top 13, ["degree", "base", "exponent", "found"], d_least_power⟩
def f__law_whole : Fun := ⟨"_law_whole", top 15, ["value"], d__law_whole⟩
def f__law_cell : Fun := ⟨"_law_cell", top 16, ["script", "k", "seed", "cell"], d__law_cell⟩
def f__law_digits : Fun := ⟨"_law_digits", top 17, ["cell", "sizes", "row", "rest", "size", "seed", "k", "twice"], d__law_digits⟩
def f__law_gcd : Fun := ⟨"_law_gcd", top 18, ["a", "b", "one", "two", "rest"], d__law_gcd⟩
def f__law_fraction : Fun := ⟨"_law_fraction", top 19, ["top", "bottom", "common"], d__law_fraction⟩
def f__law_added : Fun := ⟨"_law_added", top 20, ["one", "two"], d__law_added⟩
def f__law_less : Fun := ⟨"_law_less", top 21, ["one", "two"], d__law_less⟩
def f__law_power : Fun := ⟨"_law_power", top 22, ["number", "exponent", "told", "square", "left"], d__law_power⟩
def f__law_product : Fun := ⟨"_law_product", top 23, ["numbers", "exponents", "top", "bottom", "k"], d__law_product⟩
def f__law_fraction_power : Fun := ⟨"_law_fraction_power", top 24, ["base", "exponent"], d__law_fraction_power⟩
def f__law_same : Fun := ⟨"_law_same", top 25, ["value", "due", "k"], d__law_same⟩
def f__law_whole_root : Fun := ⟨"_law_whole_root", top 26, ["number", "degree", "low", "high", "middle"], d__law_whole_root⟩
def f__law_fraction_root : Fun := ⟨"_law_fraction_root", top 27, ["base", "degree", "top", "bottom"], d__law_fraction_root⟩
def f__law_first_exponent : Fun := ⟨"_law_first_exponent", top 28, ["base", "bound", "limit", "now", "exponent"], d__law_first_exponent⟩
def f__law_powers_hold : Fun := ⟨"_law_powers_hold", top 29, ["row", "base", "exponent", "numbers", "exponents", "given", "k"], d__law_powers_hold⟩
def f__law_exponents_hold : Fun := ⟨"_law_exponents_hold", top 30, ["row", "base", "bound", "limit"], d__law_exponents_hold⟩
def f__law_roots_hold : Fun := ⟨"_law_roots_hold", top 31, ["row", "base", "degree", "whole", "least", "due", "exponent", "found"], d__law_roots_hold⟩
def f_law : Fun := ⟨"law", top 32, ["script", "row"], d_law⟩
def funs : List Fun := [f_ratio, f_whole_power, f_power, f_power_product, f_least_exponent, f_whole_root, f_root, f_least_power, f__law_whole, f__law_cell, f__law_digits, f__law_gcd, f__law_fraction, f__law_added, f__law_less, f__law_power, f__law_product, f__law_fraction_power, f__law_same, f__law_whole_root, f__law_fraction_root, f__law_first_exponent, f__law_powers_hold, f__law_exponents_hold, f__law_roots_hold, f_law]
def th : Th := thOf funs true
theorem c_ratio : chkF th f_ratio = true := by decide +kernel
theorem c_whole_power : chkF th f_whole_power = true := by decide +kernel
theorem c_power : chkF th f_power = true := by decide +kernel
theorem c_power_product : chkF th f_power_product = true := by decide +kernel
theorem c_least_exponent : chkF th f_least_exponent = true := by decide +kernel
theorem c_whole_root : chkF th f_whole_root = true := by decide +kernel
theorem c_root : chkF th f_root = true := by decide +kernel
theorem c_least_power : chkF th f_least_power = true := by decide +kernel
theorem c__law_whole : chkF th f__law_whole = true := by decide +kernel
theorem c__law_cell : chkF th f__law_cell = true := by decide +kernel
theorem c__law_digits : chkF th f__law_digits = true := by decide +kernel
theorem c__law_gcd : chkF th f__law_gcd = true := by decide +kernel
theorem c__law_fraction : chkF th f__law_fraction = true := by decide +kernel
theorem c__law_added : chkF th f__law_added = true := by decide +kernel
theorem c__law_less : chkF th f__law_less = true := by decide +kernel
theorem c__law_power : chkF th f__law_power = true := by decide +kernel
theorem c__law_product : chkF th f__law_product = true := by decide +kernel
theorem c__law_fraction_power : chkF th f__law_fraction_power = true := by decide +kernel
theorem c__law_same : chkF th f__law_same = true := by decide +kernel
theorem c__law_whole_root : chkF th f__law_whole_root = true := by decide +kernel
theorem c__law_fraction_root : chkF th f__law_fraction_root = true := by decide +kernel
theorem c__law_first_exponent : chkF th f__law_first_exponent = true := by decide +kernel
theorem c__law_powers_hold : chkF th f__law_powers_hold = true := by decide +kernel
theorem c__law_exponents_hold : chkF th f__law_exponents_hold = true := by decide +kernel
theorem c__law_roots_hold : chkF th f__law_roots_hold = true := by decide +kernel
theorem c_law : chkF th f_law = true := by decide +kernel
theorem chk : ∀ f ∈ funs, chkF (thOf funs true) f = true := by
  intro f h
  simp only [funs, List.mem_cons, List.not_mem_nil, or_false] at h
  rcases h with rfl | rfl | rfl | rfl | rfl | rfl | rfl | rfl | rfl | rfl | rfl | rfl | rfl | rfl | rfl | rfl | rfl | rfl | rfl | rfl | rfl | rfl | rfl | rfl | rfl | rfl
  · exact c_ratio
  · exact c_whole_power
  · exact c_power
  · exact c_power_product
  · exact c_least_exponent
  · exact c_whole_root
  · exact c_root
  · exact c_least_power
  · exact c__law_whole
  · exact c__law_cell
  · exact c__law_digits
  · exact c__law_gcd
  · exact c__law_fraction
  · exact c__law_added
  · exact c__law_less
  · exact c__law_power
  · exact c__law_product
  · exact c__law_fraction_power
  · exact c__law_same
  · exact c__law_whole_root
  · exact c__law_fraction_root
  · exact c__law_first_exponent
  · exact c__law_powers_hold
  · exact c__law_exponents_hold
  · exact c__law_roots_hold
  · exact c_law
end L_onewarmth_k01_powers_and_roots
end

section
set_option Elab.async false
set_option linter.all false
set_option maxRecDepth 100000
/-! k01: the defs' plain meaning. -/
namespace L_onewarmth_k01_powers_and_roots
open R
noncomputable abbrev rn (n f : Nat) (ds : List D) : Res T := run (funs.map (·.d)) n f ds
theorem u {n : Nat} (h : 1 ≤ n) : ∃ m, n = m + 1 := ⟨n - 1, by omega⟩
theorem un {n f : Nat} (d : Def) {ds : List D} {r : Res T} (h : (funs.map (·.d))[f]? = some d) (hl : ds.length = d.np) (e : endR (exSs (run (funs.map (·.d)) n) d.body (enter d.ns ds)) = r) : rn (n + 1) f ds = r := by
  show run (funs.map (·.d)) (n + 1) f ds = r
  rw [run, h]
  simp only
  rw [if_pos hl]
  exact e
theorem gcd_ok {n : Nat} (h : 1 ≤ n) (i j : Int) : rn n 11 [.int i, .int j] = .ok (.sh (.int (gcdI i j))) := by
  obtain ⟨m, rfl⟩ := u h
  exact un ⟨2, 5, bGcd⟩ rfl rfl (gcd_run i j)
theorem frac_ok {n : Nat} (h : 2 ≤ n) {t b : Int} {B : Nat} (h0 : 0 < b) (hb : b.natAbs < 2 ^ B) (hB : B < 9000) : rn n 12 [.int t, .int b] = .ok (.sh (fracD t b)) := by
  obtain ⟨m, rfl⟩ := u (show 1 ≤ n by omega)
  exact un ⟨2, 3, bFrac 12 11⟩ rfl rfl (frac_run (fun i j => gcd_ok (by omega) i j) h0 hb hB)
theorem ratio_ok {n : Nat} (h : 1 ≤ n) {t b : Int} {B C : Nat} (h0 : 0 < b) (hb : b.natAbs < 2 ^ B) (hB : B < 9000) (ht : t.natAbs < 2 ^ C) (hC : C < 500000) : rn n 0 [.int t, .int b] = .ok (.sh (fracD t b)) := by
  obtain ⟨m, rfl⟩ := u h
  exact un ⟨2, 4, bRatio⟩ rfl rfl (ratio_run h0 hb hB ht hC)
theorem pow1_ok {n : Nat} (h : 1 ≤ n) {B q l : Nat} (hB : B ≤ 400000) (hq : 1 ≤ q) (hb : q ^ l < 2 ^ B) : rn n 15 [.int q, .int l] = .ok (.sh (.int (q ^ l : Nat))) := by
  obtain ⟨m, rfl⟩ := u h
  exact un ⟨2, 5, bPow tPow1⟩ rfl rfl (pow_run tPow1_ok hB hq hb)
theorem pow2_ok {n : Nat} (h : 1 ≤ n) {B q l : Nat} (hB : B ≤ 400000) (hq : 1 ≤ q) (hb : q ^ l < 2 ^ B) : rn n 1 [.int q, .int l] = .ok (.sh (.int (q ^ l : Nat))) := by
  obtain ⟨m, rfl⟩ := u h
  exact un ⟨2, 5, bPow tPow2⟩ rfl rfl (pow_run tPow2_ok hB hq hb)
theorem cell_ok {n : Nat} (h : 1 ≤ n) {ns : List Int} {k : Nat} (hl : ns.length < 1000000) (hk : k < 1000000) : ∃ c : Int, rn n 9 [.fz (ns.map .int), .int k] = .ok (.sh (.int c)) := by
  obtain ⟨m, rfl⟩ := u h
  obtain ⟨c, e⟩ := cell_run (Φ := run (funs.map (·.d)) m) hl hk
  exact ⟨c, un ⟨2, 4, bCell⟩ rfl rfl e⟩
theorem dig_ok {n : Nat} (h : 1 ≤ n) (c : Int) {sizes : List Int} (hs : SizesOk sizes) : ∃ row : List Int, InB row sizes ∧ rn n 10 [.int c, .lst (sizes.map .int)] = .ok (.sh (.lst (row.map .int))) := by
  obtain ⟨m, rfl⟩ := u h
  obtain ⟨row, h1, e⟩ := dig_run (Φ := run (funs.map (·.d)) m) c hs
  exact ⟨row, h1, un ⟨2, 8, bDig⟩ rfl rfl e⟩
theorem whole_ok {n : Nat} (h : 1 ≤ n) (i : Int) : rn n 8 [.int i] = .ok (.sh (.bl true)) := by
  obtain ⟨m, rfl⟩ := u h
  exact un ⟨1, 1, bWhole⟩ rfl rfl (whole_int i)
theorem sameI {n : Nat} (h : 2 ≤ n) (i : Int) : rn n 18 [.int i, .int i] = .ok (.sh (.bl true)) := by
  obtain ⟨m, rfl⟩ := u (show 1 ≤ n by omega)
  exact un ⟨2, 3, bSame 18 8⟩ rfl rfl (same_int (fun i => whole_ok (by omega) i) i)
theorem sameN {n : Nat} (h : 1 ≤ n) : rn n 18 [.non, .non] = .ok (.sh (.bl true)) := by
  obtain ⟨m, rfl⟩ := u h
  exact un ⟨2, 3, bSame 18 8⟩ rfl rfl same_non
theorem sameT {n : Nat} (h : 1 ≤ n) {xs : List D} (hl : xs.length < 1000000) (hx : ∀ x ∈ xs, rn (n - 1) 18 [x, x] = .ok (.sh (.bl true))) : rn n 18 [.tup xs, .tup xs] = .ok (.sh (.bl true)) := by
  obtain ⟨m, rfl⟩ := u h
  exact un ⟨2, 3, bSame 18 8⟩ rfl rfl (same_tup hl hx)
/-- a pair of ints -/
def pr (a b : Int) : D := .tup [.int a, .int b]
theorem fracD_pr (t b : Int) : fracD t b = pr (t / gcdI t b) (b / gcdI t b) := rfl
theorem sameP {n : Nat} (h : 3 ≤ n) (a b : Int) : rn n 18 [pr a b, pr a b] = .ok (.sh (.bl true)) := by
  refine sameT (by omega) (by simp) fun x hx => ?_
  simp only [List.mem_cons, List.not_mem_nil, or_false] at hx
  rcases hx with rfl | rfl <;> exact sameI (by omega) _
/-- the power of a fraction -/
def powD (p q : Nat) (e : Int) : D := if e < 0 then pr (q ^ e.natAbs : Nat) (p ^ e.natAbs : Nat) else pr (p ^ e.natAbs : Nat) (q ^ e.natAbs : Nat)
def sq (p q : Int) (l : Bool) : D := if l then .lst [.int p, .int q] else pr p q
theorem ixP {p q : Int} : ixR (.tup [.int p, .int q]) (.int 0) = .ok (.int p) ∧ ixR (.tup [.int p, .int q]) (.int 1) = .ok (.int q) := ⟨rfl, rfl⟩
theorem fpow_ok {n : Nat} (h : 2 ≤ n) {p q : Nat} {e : Int} {B : Nat} (hB : B ≤ 400000) (hp : 1 ≤ p) (hq : 1 ≤ q) (bp : p ^ e.natAbs < 2 ^ B) (bq : q ^ e.natAbs < 2 ^ B) : rn n 17 [pr p q, .int e] = .ok (.sh (powD p q e)) := by
  obtain ⟨m, rfl⟩ := u (show 1 ≤ n by omega)
  have e1 := pow1_ok (n := m) (by omega) hB hp bp
  have e2 := pow1_ok (n := m) (by omega) hB hq bq
  refine un d__law_fraction_power rfl rfl ?_
  unfold rn at e1 e2
  by_cases he : e < 0
  · rw [show ((e.natAbs : Nat) : Int) = -e by omega] at e1 e2
    simp -implicitDefEqProofs [d__law_fraction_power, ixP, e1, e2, he, powD, two_le_LINE, pr]
  · rw [show ((e.natAbs : Nat) : Int) = e by omega] at e1 e2
    simp -implicitDefEqProofs [d__law_fraction_power, ixP, e1, e2, he, powD, two_le_LINE, pr]
theorem power_ok {n : Nat} (h : 2 ≤ n) {p q : Nat} {e : Int} {B : Nat} (hB : B ≤ 400000) (hp : 1 ≤ p) (hq : 1 ≤ q) (bp : p ^ e.natAbs < 2 ^ B) (bq : q ^ e.natAbs < 2 ^ B) : rn n 2 [pr p q, .int e] = .ok (.sh (powD p q e)) := by
  obtain ⟨m, rfl⟩ := u (show 1 ≤ n by omega)
  have e1 := pow2_ok (n := m) (by omega) hB hp bp
  have e2 := pow2_ok (n := m) (by omega) hB hq bq
  refine un d_power rfl rfl ?_
  unfold rn at e1 e2
  by_cases he : e < 0
  · rw [show ((e.natAbs : Nat) : Int) = -e by omega] at e1 e2
    simp -implicitDefEqProofs [d_power, ixP, e1, e2, he, powD, two_le_LINE, pr]
  · rw [show ((e.natAbs : Nat) : Int) = e by omega] at e1 e2
    simp -implicitDefEqProofs [d_power, ixP, e1, e2, he, powD, two_le_LINE, pr]
end L_onewarmth_k01_powers_and_roots
end

section
set_option Elab.async false
set_option linter.all false
set_option maxRecDepth 100000
/-! k01: products of powers. -/
namespace L_onewarmth_k01_powers_and_roots
open R
/-- the product of the powers with positive exponents, of those with negative ones -/
def upP : List (Nat × Int) → Nat
  | [] => 1
  | (m, e) :: r => (if 0 < e then m ^ e.natAbs else 1) * upP r
def dnP : List (Nat × Int) → Nat
  | [] => 1
  | (m, e) :: r => (if e < 0 then m ^ e.natAbs else 1) * dnP r
/-- small numbers, small exponents, not many -/
def SmallP (l : List (Nat × Int)) : Prop := ∀ p ∈ l, 1 ≤ p.1 ∧ p.1 < 2 ^ 5 ∧ p.2.natAbs ≤ 40
theorem pow_small {m k : Nat} (h1 : m < 2 ^ 5) (h2 : k ≤ 40) : m ^ k < 2 ^ 201 := by
  have : m ^ k ≤ (2 ^ 5) ^ k := Nat.pow_le_pow_left (Nat.le_of_lt h1) k
  rw [← Nat.pow_mul] at this
  exact Nat.lt_of_le_of_lt this (Nat.pow_lt_pow_right (by omega) (by omega))
theorem upP_lt : ∀ {l : List (Nat × Int)}, SmallP l → upP l < 2 ^ (201 * l.length + 1) ∧ 1 ≤ upP l
  | [], _ => by simp [upP]
  | (m, e) :: r, h => by
    obtain ⟨h1, h2, h3⟩ := h _ List.mem_cons_self
    obtain ⟨b, p⟩ := upP_lt (l := r) fun x hx => h x (List.mem_cons_of_mem _ hx)
    have q : (if 0 < e then m ^ e.natAbs else 1) < 2 ^ 201 ∧ 1 ≤ (if 0 < e then m ^ e.natAbs else 1) := by
      split
      · exact ⟨pow_small h2 h3, Nat.pow_pos h1⟩
      · exact ⟨Nat.one_lt_two_pow (by omega), Nat.le_refl _⟩
    refine ⟨?_, Nat.mul_pos q.2 p⟩
    rw [upP, List.length_cons, show 201 * (r.length + 1) + 1 = 201 + (201 * r.length + 1) by omega, Nat.pow_add]
    exact Nat.mul_lt_mul'' q.1 b
theorem dnP_lt : ∀ {l : List (Nat × Int)}, SmallP l → dnP l < 2 ^ (201 * l.length + 1) ∧ 1 ≤ dnP l
  | [], _ => by simp [dnP]
  | (m, e) :: r, h => by
    obtain ⟨h1, h2, h3⟩ := h _ List.mem_cons_self
    obtain ⟨b, p⟩ := dnP_lt (l := r) fun x hx => h x (List.mem_cons_of_mem _ hx)
    have q : (if e < 0 then m ^ e.natAbs else 1) < 2 ^ 201 ∧ 1 ≤ (if e < 0 then m ^ e.natAbs else 1) := by
      split
      · exact ⟨pow_small h2 h3, Nat.pow_pos h1⟩
      · exact ⟨Nat.one_lt_two_pow (by omega), Nat.le_refl _⟩
    refine ⟨?_, Nat.mul_pos q.2 p⟩
    rw [dnP, List.length_cons, show 201 * (r.length + 1) + 1 = 201 + (201 * r.length + 1) by omega, Nat.pow_add]
    exact Nat.mul_lt_mul'' q.1 b
def tProd (c : Nat) (a b : E) : List S := [.ifs (.op .gt b (.int 0)) [.set 2 (.op .mul (.var 2) (.call c [a, b]))] [], .ifs (.op .lt b (.int 0)) [.set 3 (.op .mul (.var 3) (.call c [a, .un .neg b]))] []]
/-- one factor: a, b read the number and the exponent -/
theorem prod_turn {Φ : Or} {c : Nat} {a b : E} (hc : ∀ (q l : Nat), 1 ≤ q → q < 2 ^ 5 → l ≤ 40 → Φ c [.int q, .int l] = .ok (.sh (.int (q ^ l : Nat)))) {X Y : Option SV} {rest : List (Option SV)} {m : Nat} {e : Int}
    (h1 : 1 ≤ m) (h2 : m < 2 ^ 5) (h3 : e.natAbs ≤ 40) (ra : ∀ t u : Int, ev Φ a (([X, Y, some (.sh (.int t)), some (.sh (.int u))] ++ rest).map maskO) = .ok (.int m)) (rb : ∀ t u : Int, ev Φ b (([X, Y, some (.sh (.int t)), some (.sh (.int u))] ++ rest).map maskO) = .ok (.int e))
    (rb2 : ∀ t u : Int, ev Φ b (([X, Y, some (.sh (.int t)), some (.sh (.int u))] ++ rest).map (snapO [])) = .ok (.int e)) {t u : Nat} (ht : t < 2 ^ 2000) (hu : u < 2 ^ 2000) :
    exSs Φ (tProd c a b) ⟨[X, Y, some (.sh (.int t)), some (.sh (.int u))] ++ rest, []⟩ = .nx ⟨[X, Y, some (.sh (.int (t * (if 0 < e then m ^ e.natAbs else 1) : Nat))), some (.sh (.int (u * (if e < 0 then m ^ e.natAbs else 1) : Nat)))] ++ rest, []⟩ := by
  have hp := hc m e.natAbs h1 h2 h3
  have bp := pow_small h2 h3
  generalize m ^ e.natAbs = P at hp bp ⊢
  have m1 : mulOk (t : Int) ((P : Nat) : Int) = true := mulOk_of (natAbs_lt ht) (natAbs_lt bp) (by decide)
  have m2 : mulOk (u : Int) ((P : Nat) : Int) = true := mulOk_of (natAbs_lt hu) (natAbs_lt bp) (by decide)
  have ra1 : ∀ t u : Int, ev Φ a (maskO X :: maskO Y :: some (.int t) :: some (.int u) :: rest.map maskO) = .ok (.int m) := fun t u => by simpa using ra t u
  have rb1 : ∀ t u : Int, ev Φ b (maskO X :: maskO Y :: some (.int t) :: some (.int u) :: rest.map maskO) = .ok (.int e) := fun t u => by simpa using rb t u
  have rb3 : ∀ t u : Int, ev Φ b (snapO [] X :: snapO [] Y :: some (.int t) :: some (.int u) :: rest.map (snapO [])) = .ok (.int e) := fun t u => by simpa using rb2 t u
  rcases Int.lt_trichotomy e 0 with he | he | he
  · have n : ¬ 0 < e := by omega
    rw [show ((e.natAbs : Nat) : Int) = -e by omega] at hp
    have mm := op2_mul m2
    simp -implicitDefEqProofs [tProd, ra1, rb1, rb3, he, n, hp, mm]
  · subst he
    simp -implicitDefEqProofs [tProd, rb3]
  · have n : ¬ e < 0 := by omega
    rw [show ((e.natAbs : Nat) : Int) = e by omega] at hp
    have mm := op2_mul m1
    simp -implicitDefEqProofs [tProd, ra1, rb1, rb3, he, n, hp, mm]

def numL (l : List (Nat × Int)) : List D := l.map fun p => .int p.1
def expL (l : List (Nat × Int)) : List D := l.map fun p => .int p.2
theorem zip_loop {Φ : Or} (hc : ∀ (q l : Nat), 1 ≤ q → q < 2 ^ 5 → l ≤ 40 → Φ 1 [.int q, .int l] = .ok (.sh (.int (q ^ l : Nat)))) (X Y : Option SV) : ∀ (l : List (Nat × Int)) (t u : Nat), SmallP l → t * upP l < 2 ^ 2000 → u * dnP l < 2 ^ 2000 → 1 ≤ t → 1 ≤ u →
    forR [4, 5] 0 (frB Φ [4, 5] (tProd 1 (.var 4) (.var 5))) (List.zipWith (fun x y => D.tup [x, y]) (numL l) (expL l)) ⟨[X, Y, some (.sh (.int t)), some (.sh (.int u)), none, none], []⟩
      = .nx ⟨[X, Y, some (.sh (.int (t * upP l : Nat))), some (.sh (.int (u * dnP l : Nat))), none, none], []⟩
  | [], t, u, _, _, _, _, _ => by simp [numL, expL, upP, dnP]
  | (m, e) :: l, t, u, h, bt, bu, t1, u1 => by
    obtain ⟨h1, h2, h3⟩ := h _ List.mem_cons_self
    have hr : SmallP l := fun x hx => h x (List.mem_cons_of_mem _ hx)
    have q1 := (upP_lt hr).2
    have q2 := (dnP_lt hr).2
    rw [upP, ← Nat.mul_assoc] at bt
    rw [dnP, ← Nat.mul_assoc] at bu
    have pp : 1 ≤ (if 0 < e then m ^ e.natAbs else 1) := by split; exact Nat.pow_pos h1; exact Nat.le_refl _
    have pn : 1 ≤ (if e < 0 then m ^ e.natAbs else 1) := by split; exact Nat.pow_pos h1; exact Nat.le_refl _
    have lt : t < 2 ^ 2000 := Nat.lt_of_le_of_lt (Nat.le_trans (Nat.le_mul_of_pos_right t pp) (Nat.le_mul_of_pos_right _ q1)) bt
    have lu : u < 2 ^ 2000 := Nat.lt_of_le_of_lt (Nat.le_trans (Nat.le_mul_of_pos_right u pn) (Nat.le_mul_of_pos_right _ q2)) bu
    have turn := prod_turn (Φ := Φ) (c := 1) (a := .var 4) (b := .var 5) hc (X := X) (Y := Y) (rest := [some (.sh (.int m)), some (.sh (.int e))]) h1 h2 h3 (fun t u => by simp) (fun t u => by simp) (fun t u => by simp) lt lu
    simp only [List.cons_append, List.nil_append] at turn
    have ih := zip_loop hc X Y l _ _ hr bt bu (Nat.mul_pos t1 pp) (Nat.mul_pos u1 pn)
    rw [upP, dnP, ← Nat.mul_assoc, ← Nat.mul_assoc, ← ih]
    simp only [numL, expL, List.map_cons, List.zipWith_cons_cons, forR_cons]
    congr 1
    unfold frB
    simp only [bindS_2, setS_mk, List.set_cons_succ, List.set_cons_zero]
    rw [turn]
    simp

theorem SmallP.drop {l : List (Nat × Int)} (h : SmallP l) (k : Nat) : SmallP (l.drop k) := fun p hp => h p (List.mem_of_mem_drop hp)
theorem idx_loop {Φ : Or} (hc : ∀ (q l : Nat), 1 ≤ q → q < 2 ^ 5 → l ≤ 40 → Φ 15 [.int q, .int l] = .ok (.sh (.int (q ^ l : Nat)))) (l : List (Nat × Int)) (hs : SmallP l) : ∀ (j k : Nat) (t u : Nat), k + j = l.length → t * upP (l.drop k) < 2 ^ 2000 → u * dnP (l.drop k) < 2 ^ 2000 → 1 ≤ t → 1 ≤ u →
    forR [4] 0 (frB Φ [4] (tProd 15 (.idx (.var 0) (.var 4)) (.idx (.var 1) (.var 4)))) (rng k l.length) ⟨[some (.sh (.lst (numL l))), some (.sh (.lst (expL l))), some (.sh (.int t)), some (.sh (.int u)), none], []⟩
      = .nx ⟨[some (.sh (.lst (numL l))), some (.sh (.lst (expL l))), some (.sh (.int (t * upP (l.drop k) : Nat))), some (.sh (.int (u * dnP (l.drop k) : Nat))), none], []⟩
  | 0, k, t, u, e, _, _, _, _ => by
    rw [rng_nil (by omega), List.drop_of_length_le (by omega)]
    simp [upP, dnP]
  | j + 1, k, t, u, e, bt, bu, t1, u1 => by
    have hk : k < l.length := by omega
    have hd : l.drop k = l[k] :: l.drop (k + 1) := List.drop_eq_getElem_cons hk
    obtain ⟨h1, h2, h3⟩ := hs l[k] (List.getElem_mem hk)
    have hr : SmallP (l.drop (k + 1)) := hs.drop _
    have q1 := (upP_lt hr).2
    have q2 := (dnP_lt hr).2
    rw [hd] at bt bu ⊢
    generalize hm : l[k] = me at *
    obtain ⟨m, ex⟩ := me
    simp only at h1 h2 h3
    rw [upP, ← Nat.mul_assoc] at bt
    rw [dnP, ← Nat.mul_assoc] at bu
    have pp : 1 ≤ (if 0 < ex then m ^ ex.natAbs else 1) := by split; exact Nat.pow_pos h1; exact Nat.le_refl _
    have pn : 1 ≤ (if ex < 0 then m ^ ex.natAbs else 1) := by split; exact Nat.pow_pos h1; exact Nat.le_refl _
    have lt : t < 2 ^ 2000 := Nat.lt_of_le_of_lt (Nat.le_trans (Nat.le_mul_of_pos_right t pp) (Nat.le_mul_of_pos_right _ q1)) bt
    have lu : u < 2 ^ 2000 := Nat.lt_of_le_of_lt (Nat.le_trans (Nat.le_mul_of_pos_right u pn) (Nat.le_mul_of_pos_right _ q2)) bu
    have i1 : ixR (.lst (numL l)) (.int (k : Int)) = .ok (.int m) := by
      simp [ixR, D.seq, atI_get (show (numL l)[k]? = some (.int m) by simp [numL, hk, hm])]
    have i2 : ixR (.lst (expL l)) (.int (k : Int)) = .ok (.int ex) := by
      simp [ixR, D.seq, atI_get (show (expL l)[k]? = some (.int ex) by simp [expL, hk, hm])]
    have turn := prod_turn (Φ := Φ) (c := 15) (a := .idx (.var 0) (.var 4)) (b := .idx (.var 1) (.var 4)) hc (X := some (.sh (.lst (numL l)))) (Y := some (.sh (.lst (expL l)))) (rest := [some (.sh (.int k))]) h1 h2 h3 (fun t u => by simp [i1]) (fun t u => by simp [i2]) (fun t u => by simp [i2]) lt lu
    simp only [List.cons_append, List.nil_append] at turn
    have ih := idx_loop hc l hs j (k + 1) _ _ (by omega) bt bu (Nat.mul_pos t1 pp) (Nat.mul_pos u1 pn)
    rw [upP, dnP, ← Nat.mul_assoc, ← Nat.mul_assoc, ← ih, rng_cons (by omega), forR_cons, show ((k : Int) + 1) = ((k + 1 : Nat) : Int) by simp]
    unfold frB
    simp only [bindS_1, setS_mk, List.set_cons_succ, List.set_cons_zero]
    rw [turn]
    simp
theorem upP_2000 {l : List (Nat × Int)} (hs : SmallP l) (hl : l.length ≤ 9) : upP l < 2 ^ 2000 ∧ dnP l < 2 ^ 2000 :=
  ⟨Nat.lt_of_lt_of_le (upP_lt hs).1 (Nat.pow_le_pow_right (by omega) (by omega)), Nat.lt_of_lt_of_le (dnP_lt hs).1 (Nat.pow_le_pow_right (by omega) (by omega))⟩
theorem small_pow {q l : Nat} (h2 : q < 2 ^ 5) (h3 : l ≤ 40) : q ^ l < 2 ^ 400 := Nat.lt_of_lt_of_le (pow_small h2 h3) (Nat.pow_le_pow_right (by omega) (by omega))
theorem product_ok {n : Nat} (h : 3 ≤ n) {l : List (Nat × Int)} (hs : SmallP l) (hl : l.length ≤ 9) : rn n 3 [.lst (numL l), .lst (expL l)] = .ok (.sh (fracD (upP l : Nat) (dnP l : Nat))) := by
  obtain ⟨m, rfl⟩ := u (show 1 ≤ n by omega)
  refine un d_power_product rfl rfl ?_
  obtain ⟨b1, b2⟩ := upP_2000 hs hl
  have loop := zip_loop (Φ := run (funs.map (·.d)) m) (fun q l h1 h2 h3 => pow2_ok (n := m) (B := 400) (by omega) (by decide) h1 (small_pow h2 h3)) (some (.sh (.lst (numL l)))) (some (.sh (.lst (expL l)))) l 1 1 hs (by rw [Nat.one_mul]; exact b1) (by rw [Nat.one_mul]; exact b2) (Nat.le_refl _) (Nat.le_refl _)
  rw [Nat.one_mul, Nat.one_mul] at loop
  have r := ratio_ok (n := m) (t := (upP l : Nat)) (b := (dnP l : Nat)) (B := 2000) (C := 2000) (by omega) (by have := (dnP_lt hs).2; omega) (natAbs_lt b2) (by decide) (natAbs_lt b1) (by decide)
  unfold rn at r
  have e : d_power_product.body = [.set 2 (.int 1), .set 3 (.int 1), .fr .zip [4, 5] [.var 0, .var 1] (tProd 1 (.var 4) (.var 5)) [4, 5], .ret (.call 0 [.var 2, .var 3])] := rfl
  rw [e]
  have loop' : forR [4, 5] 0 (frB (run (funs.map (·.d)) m) [4, 5] (tProd 1 (.var 4) (.var 5))) (List.zipWith (fun x y => D.tup [x, y]) (numL l) (expL l)) ⟨[some (.sh (.lst (numL l))), some (.sh (.lst (expL l))), some (.sh (.int 1)), some (.sh (.int 1)), none, none], []⟩ = _ := loop
  simp -implicitDefEqProofs [d_power_product, loop', r]
theorem lproduct_ok {n : Nat} (h : 3 ≤ n) {l : List (Nat × Int)} (hs : SmallP l) (hl : l.length ≤ 9) : rn n 16 [.lst (numL l), .lst (expL l)] = .ok (.sh (fracD (upP l : Nat) (dnP l : Nat))) := by
  obtain ⟨m, rfl⟩ := u (show 1 ≤ n by omega)
  refine un d__law_product rfl rfl ?_
  obtain ⟨b1, b2⟩ := upP_2000 hs hl
  have loop := idx_loop (Φ := run (funs.map (·.d)) m) (fun q l h1 h2 h3 => pow1_ok (n := m) (B := 400) (by omega) (by decide) h1 (small_pow h2 h3)) l hs l.length 0 1 1 (by omega) (by rw [Nat.one_mul]; exact b1) (by rw [Nat.one_mul]; exact b2) (Nat.le_refl _) (Nat.le_refl _)
  rw [Nat.one_mul, Nat.one_mul, List.drop_zero] at loop
  have r := frac_ok (n := m) (t := (upP l : Nat)) (b := (dnP l : Nat)) (B := 2000) (by omega) (by have := (dnP_lt hs).2; omega) (natAbs_lt b2) (by decide)
  unfold rn at r
  have e : d__law_product.body = [.set 2 (.int 1), .set 3 (.int 1), .fr .r1 [4] [.bi .len [.var 0]] (tProd 15 (.idx (.var 0) (.var 4)) (.idx (.var 1) (.var 4))) [4], .ret (.call 12 [.var 2, .var 3])] := rfl
  rw [e]
  have rr : rngOk 0 (l.length : Int) = true := rngOk_of (by omega) (by omega) (by omega) (by omega) (by omega)
  have hn : (numL l).length = l.length := by simp [numL]
  have loop' : forR [4] 0 (frB (run (funs.map (·.d)) m) [4] (tProd 15 (.idx (.var 0) (.var 4)) (.idx (.var 1) (.var 4)))) (rng 0 l.length) ⟨[some (.sh (.lst (numL l))), some (.sh (.lst (expL l))), some (.sh (.int 1)), some (.sh (.int 1)), none], []⟩ = _ := loop
  simp -implicitDefEqProofs [d__law_product, hn, srcR_r1 rr, loop', r]
end L_onewarmth_k01_powers_and_roots
end

section
set_option Elab.async false
set_option linter.all false
set_option maxRecDepth 100000
/-! k01: the least exponent. -/
namespace L_onewarmth_k01_powers_and_roots
open R
def rngI (a b : Int) : List Int := (List.range (b - a).toNat).map fun i => a + (i : Nat)
theorem rng_ints (a b : Int) : rng a b = (rngI a b).map D.int := by unfold rng rngI; rw [List.map_map]; rfl
theorem rngI_length (a b : Int) : (rngI a b).length = (b - a).toNat := by unfold rngI; simp
/-- the first e at which the power has passed the bound -/
def gE (p q b0 b1 : Int) : List Int → Int → Int → Option D
  | [], _, _ => none
  | e :: es, t, u => if b0 * u < t * b1 then some (.int e) else gE p q b0 b1 es (t * p) (u * q)
theorem natAbs_mul_lt {x y : Int} {a b : Nat} (h1 : x.natAbs < 2 ^ a) (h2 : y.natAbs < 2 ^ b) : (x * y).natAbs < 2 ^ (a + b) := by
  rw [Int.natAbs_mul, Nat.pow_add]
  exact Nat.mul_lt_mul'' h1 h2
def tLe : List S := [.ifs (.op .gt (.op .mul (.var 3) (.idx (.var 1) (.int 1))) (.op .mul (.idx (.var 1) (.int 0)) (.var 4))) [.ret (.var 5)] [], .set 3 (.op .mul (.var 3) (.idx (.var 0) (.int 0))), .set 4 (.op .mul (.var 4) (.idx (.var 0) (.int 1)))]
def tFe : List S := [.ifs (.op .gt (.op .mul (.idx (.var 3) (.int 0)) (.idx (.var 1) (.int 1))) (.op .mul (.idx (.var 1) (.int 0)) (.idx (.var 3) (.int 1)))) [.ret (.var 4)] [], .set 3 (.tup [(.op .mul (.idx (.var 3) (.int 0)) (.idx (.var 0) (.int 0))), (.op .mul (.idx (.var 3) (.int 1)) (.idx (.var 0) (.int 1)))])]
section
variable {Φ : R.Or} {p q b0 b1 : Int} {L : Option SV}
theorem le_loop (hp : p.natAbs < 2 ^ 10) (hq : q.natAbs < 2 ^ 10) (h0 : b0.natAbs < 2 ^ 3000) (h1 : b1.natAbs < 2 ^ 3000) : ∀ (xs : List Int) (t u : Int) (a : Nat), t.natAbs < 2 ^ a → u.natAbs < 2 ^ a → a + 10 * xs.length ≤ 20000 →
    ∃ s', forR [5] 0 (frB Φ [5] tLe) (xs.map D.int) ⟨[some (.sh (pr p q)), some (.sh (pr b0 b1)), L, some (.sh (.int t)), some (.sh (.int u)), none], []⟩ = match gE p q b0 b1 xs t u with | some d => .rt (.sh d) | none => .nx s'
  | [], t, u, a, _, _, _ => ⟨_, rfl⟩
  | e :: es, t, u, a, ht, hu, hl => by
    rw [List.length_cons] at hl
    have m1 := op2_mul (mulOk_of (i := t) (j := b1) ht h1 (by omega))
    have m2 := op2_mul (mulOk_of (i := b0) (j := u) h0 hu (by omega))
    have m3 := op2_mul (mulOk_of (i := t) (j := p) ht hp (by omega))
    have m4 := op2_mul (mulOk_of (i := u) (j := q) hu hq (by omega))
    rw [List.map_cons, forR_cons, gE]
    by_cases h : b0 * u < t * b1
    · rw [if_pos h]
      refine ⟨⟨[], []⟩, ?_⟩
      simp -implicitDefEqProofs [frB, tLe, pr, ixP, m1, m2, h]
    · rw [if_neg h]
      obtain ⟨s', ih⟩ := le_loop hp hq h0 h1 es (t * p) (u * q) (a + 10) (natAbs_mul_lt ht hp) (natAbs_mul_lt hu hq) (by omega)
      refine ⟨s', ?_⟩
      rw [← ih]
      simp -implicitDefEqProofs [frB, tLe, pr, ixP, m1, m2, m3, m4, h]
theorem fe_loop (hp : p.natAbs < 2 ^ 10) (hq : q.natAbs < 2 ^ 10) (h0 : b0.natAbs < 2 ^ 3000) (h1 : b1.natAbs < 2 ^ 3000) : ∀ (xs : List Int) (t u : Int) (a : Nat), t.natAbs < 2 ^ a → u.natAbs < 2 ^ a → a + 10 * xs.length ≤ 20000 →
    ∃ s', forR [4] 0 (frB Φ [4] tFe) (xs.map D.int) ⟨[some (.sh (pr p q)), some (.sh (pr b0 b1)), L, some (.sh (pr t u)), none], []⟩ = match gE p q b0 b1 xs t u with | some d => .rt (.sh d) | none => .nx s'
  | [], t, u, a, _, _, _ => ⟨_, rfl⟩
  | e :: es, t, u, a, ht, hu, hl => by
    rw [List.length_cons] at hl
    have m1 := op2_mul (mulOk_of (i := t) (j := b1) ht h1 (by omega))
    have m2 := op2_mul (mulOk_of (i := b0) (j := u) h0 hu (by omega))
    have m3 := op2_mul (mulOk_of (i := t) (j := p) ht hp (by omega))
    have m4 := op2_mul (mulOk_of (i := u) (j := q) hu hq (by omega))
    rw [List.map_cons, forR_cons, gE]
    by_cases h : b0 * u < t * b1
    · rw [if_pos h]
      refine ⟨⟨[], []⟩, ?_⟩
      simp -implicitDefEqProofs [frB, tFe, pr, ixP, m1, m2, h]
    · rw [if_neg h]
      obtain ⟨s', ih⟩ := fe_loop hp hq h0 h1 es (t * p) (u * q) (a + 10) (natAbs_mul_lt ht hp) (natAbs_mul_lt hu hq) (by omega)
      refine ⟨s', ?_⟩
      rw [← ih]
      simp -implicitDefEqProofs [frB, tFe, pr, ixP, m1, m2, m3, m4, h, two_le_LINE]
end
/-- what both find -/
def leD (p q b0 b1 lim : Int) : D := match gE p q b0 b1 (rngI 0 (lim + 1)) 1 1 with
  | some d => d
  | none => .non
theorem least_ok {n : Nat} (h : 1 ≤ n) {p q b0 b1 lim : Int} (hp : p.natAbs < 2 ^ 10) (hq : q.natAbs < 2 ^ 10) (h0 : b0.natAbs < 2 ^ 3000) (h1 : b1.natAbs < 2 ^ 3000) (hl : 0 ≤ lim) (hl2 : lim ≤ 1500) : rn n 4 [pr p q, pr b0 b1, .int lim] = .ok (.sh (leD p q b0 b1 lim)) := by
  obtain ⟨m, rfl⟩ := u h
  refine un d_least_exponent rfl rfl ?_
  have e : d_least_exponent.body = [.set 3 (.int 1), .set 4 (.int 1), .fr .r1 [5] [.op .add (.var 2) (.int 1)] tLe [5], .ret .non] := rfl
  rw [e]
  have rr : rngOk 0 (lim + 1) = true := rngOk_of (by omega) (by omega) (by omega) (by omega) (by omega)
  obtain ⟨s', loop⟩ := le_loop (Φ := run (funs.map (·.d)) m) (L := some (.sh (.int lim))) hp hq h0 h1 (rngI 0 (lim + 1)) 1 1 1 (by decide) (by decide) (by rw [rngI_length]; omega)
  rw [← rng_ints] at loop
  cases s'
  simp -implicitDefEqProofs [d_least_exponent, srcR_r1 rr, loop, leD]
  cases gE p q b0 b1 (rngI 0 (lim + 1)) 1 1 <;> simp -implicitDefEqProofs
theorem first_ok {n : Nat} (h : 1 ≤ n) {p q b0 b1 lim : Int} (hp : p.natAbs < 2 ^ 10) (hq : q.natAbs < 2 ^ 10) (h0 : b0.natAbs < 2 ^ 3000) (h1 : b1.natAbs < 2 ^ 3000) (hl : 0 ≤ lim) (hl2 : lim ≤ 1500) : rn n 21 [pr p q, pr b0 b1, .int lim] = .ok (.sh (leD p q b0 b1 lim)) := by
  obtain ⟨m, rfl⟩ := u h
  refine un d__law_first_exponent rfl rfl ?_
  have e : d__law_first_exponent.body = [.set 3 (.tup [.int 1, .int 1]), .fr .r1 [4] [.op .add (.var 2) (.int 1)] tFe [4], .ret .non] := rfl
  rw [e]
  have rr : rngOk 0 (lim + 1) = true := rngOk_of (by omega) (by omega) (by omega) (by omega) (by omega)
  obtain ⟨s', loop⟩ := fe_loop (Φ := run (funs.map (·.d)) m) (L := some (.sh (.int lim))) hp hq h0 h1 (rngI 0 (lim + 1)) 1 1 1 (by decide) (by decide) (by rw [rngI_length]; omega)
  rw [← rng_ints] at loop
  simp only [pr] at loop
  cases s'
  simp -implicitDefEqProofs [d__law_first_exponent, srcR_r1 rr, loop, leD, two_le_LINE, pr]
  cases gE p q b0 b1 (rngI 0 (lim + 1)) 1 1 <;> simp -implicitDefEqProofs
theorem gE_int {p q b0 b1 : Int} : ∀ {xs : List Int} {t u : Int} {d : D}, gE p q b0 b1 xs t u = some d → ∃ e, d = .int e
  | [], _, _, _, h => by cases h
  | e :: es, t, u, d, h => by
    unfold gE at h
    split at h
    · injection h with h
      exact ⟨e, h.symm⟩
    · exact gE_int h
theorem sameLe {n : Nat} (h : 2 ≤ n) (p q b0 b1 lim : Int) : rn n 18 [leD p q b0 b1 lim, leD p q b0 b1 lim] = .ok (.sh (.bl true)) := by
  unfold leD
  cases e : gE p q b0 b1 (rngI 0 (lim + 1)) 1 1 with
  | none => exact sameN (by omega)
  | some d =>
    obtain ⟨i, rfl⟩ := gE_int e
    exact sameI h i
end L_onewarmth_k01_powers_and_roots
end

section
set_option Elab.async false
set_option linter.all false
set_option maxRecDepth 100000
/-! k01: whole roots. -/
namespace L_onewarmth_k01_powers_and_roots
open R
/-- r says the whole d-th root of N, or that there is none -/
def IsRoot (r : D) (N d : Nat) : Prop := (∃ x : Nat, 1 ≤ x ∧ x ^ d = N ∧ r = .int x) ∨ ((∀ x : Nat, x ^ d ≠ N) ∧ r = .non)
theorem IsRoot.one {r r' : D} {N d : Nat} (hd : 1 ≤ d) (h : IsRoot r N d) (h' : IsRoot r' N d) : r = r' := by
  rcases h with ⟨x, _, h1, rfl⟩ | ⟨h1, rfl⟩
  · rcases h' with ⟨y, _, h2, rfl⟩ | ⟨h2, rfl⟩
    · have : x = y := by
        rcases Nat.lt_trichotomy x y with q | q | q
        · have := Nat.pow_lt_pow_left q (show d ≠ 0 by omega); omega
        · exact q
        · have := Nat.pow_lt_pow_left q (show d ≠ 0 by omega); omega
      rw [this]
    · exact absurd h1 (h2 x)
  · rcases h' with ⟨y, _, h2, rfl⟩ | ⟨h2, rfl⟩
    · exact absurd h2 (h1 y)
    · rfl
def PowOk (Φ : R.Or) (c B : Nat) : Prop := ∀ q l : Nat, 1 ≤ q → q ^ l < 2 ^ B → Φ c [.int q, .int l] = .ok (.sh (.int (q ^ l : Nat)))
def tWr : List S := [.set 4 (.op .fdiv (.op .add (.var 2) (.var 3)) (.int 2)), .ifs (.op .lt (.call 1 [(.var 4), (.var 1)]) (.var 0)) [.set 2 (.op .add (.var 4) (.int 1))] [.set 3 (.var 4)]]
section
variable {Φ : R.Or} {B N d : Nat}
theorem wr_loop (hc : PowOk Φ 1 B) (hd : 1 ≤ d) : ∀ (k low high : Nat), high - low ≤ k → 1 ≤ low → low ≤ high → high ^ d < 2 ^ B → (∀ x, x < low → x ^ d < N) → N ≤ high ^ d →
    ∃ r hi : Nat, (∀ x, x < r → x ^ d < N) ∧ N ≤ r ^ d ∧ r ^ d < 2 ^ B ∧ 1 ≤ r ∧ whlO [4] 0 (cnd Φ (.op .lt (.var 2) (.var 3))) (exSs Φ tWr) ⟨[some (.sh (.int N)), some (.sh (.int d)), some (.sh (.int low)), some (.sh (.int high)), none], []⟩
      = .nx ⟨[some (.sh (.int N)), some (.sh (.int d)), some (.sh (.int r)), some (.sh (.int hi)), none], []⟩ := by
  intro k
  induction k with
  | zero =>
    intro low high hk h1 h2 hb hx hN
    have e : low = high := by omega
    subst e
    refine ⟨low, low, hx, hN, hb, h1, ?_⟩
    rw [whlO_eq]
    simp -implicitDefEqProofs [cnd]
  | succ k ih =>
    intro low high hk h1 h2 hb hx hN
    by_cases hlt : low < high
    · have ml : low ≤ (low + high) / 2 := by omega
      have mh : (low + high) / 2 < high := by omega
      have bm : ((low + high) / 2) ^ d < 2 ^ B := Nat.lt_of_le_of_lt (Nat.pow_le_pow_left (Nat.le_of_lt mh) d) hb
      have hp := hc ((low + high) / 2) d (by omega) bm
      have em : ((low : Int) + (high : Int)) / 2 = (((low + high) / 2 : Nat) : Int) := by simp
      have dv := op2_fdiv (i := (low : Int) + (high : Int)) div2Ok
      rw [em] at dv
      rw [whlO_eq]
      have c : cnd Φ (.op .lt (.var 2) (.var 3)) ⟨[some (.sh (.int N)), some (.sh (.int d)), some (.sh (.int low)), some (.sh (.int high)), none], []⟩ = .ok true := by
        simp -implicitDefEqProofs [cnd, hlt]
      rw [c]
      simp only [onR_ok, if_true]
      generalize (low + high) / 2 = mid at *
      by_cases hq : mid ^ d < N
      · obtain ⟨r, hi, q1, q2, q3, q4, q5⟩ := ih (mid + 1) high (by omega) (by omega) (by omega) hb (fun x hx => Nat.lt_of_le_of_lt (Nat.pow_le_pow_left (by omega) d) hq) hN
        refine ⟨r, hi, q1, q2, q3, q4, ?_⟩
        rw [← q5]
        generalize mid ^ d = P at *
        simp -implicitDefEqProofs [tWr, dv, hp, hq]
      · obtain ⟨r, hi, q1, q2, q3, q4, q5⟩ := ih low mid (by omega) h1 ml bm hx (by omega)
        refine ⟨r, hi, q1, q2, q3, q4, ?_⟩
        rw [← q5]
        generalize mid ^ d = P at *
        simp -implicitDefEqProofs [tWr, dv, hp, hq]
    · have e : low = high := by omega
      subst e
      refine ⟨low, low, hx, hN, hb, h1, ?_⟩
      rw [whlO_eq]
      simp -implicitDefEqProofs [cnd]
/-- low ^ d against N -/
theorem root_end {r : Nat} (h1 : ∀ x, x < r → x ^ d < N) (h2 : N ≤ r ^ d) (hr : 1 ≤ r) (hd : 1 ≤ d) : IsRoot (if r ^ d = N then .int r else .non) N d := by
  split
  · rename_i h
    exact .inl ⟨r, hr, h, rfl⟩
  · rename_i h
    refine .inr ⟨fun x e => ?_, rfl⟩
    rcases Nat.lt_or_ge x r with q | q
    · have := h1 x q
      omega
    · have := Nat.pow_le_pow_left q d
      omega
def tL1 : List S := [.set 2 (.var 3), .set 3 (.op .mul (.var 3) (.int 2))]
def cL1 : E := .op .le (.call 15 [(.var 3), (.var 1)]) (.var 0)
theorem l1_loop (hc : PowOk Φ 15 B) (hd : 1 ≤ d) (hN : ∀ x : Nat, x ^ d ≤ N → (2 * x) ^ d < 2 ^ B ∧ x < 2 ^ B) (hB : B ≤ 400000) : ∀ (k low : Nat), N - low ≤ k → 1 ≤ low → low ^ d ≤ N →
    ∃ r hi : Nat, 1 ≤ r ∧ r ^ d ≤ N ∧ r < hi ∧ N < hi ^ d ∧ hi ^ d < 2 ^ B ∧ whlO [] 0 (cnd Φ cL1) (exSs Φ tL1) ⟨[some (.sh (.int N)), some (.sh (.int d)), some (.sh (.int low)), some (.sh (.int (2 * low : Nat))), none], []⟩
      = .nx ⟨[some (.sh (.int N)), some (.sh (.int d)), some (.sh (.int r)), some (.sh (.int hi)), none], []⟩ := by
  have self : ∀ x : Nat, x ≤ x ^ d := fun x => by
    rcases Nat.eq_zero_or_pos x with e | e
    · omega
    · exact Nat.le_pow (by omega)
  intro k
  induction k with
  | zero =>
    intro low hk h1 h2
    have hl : low = N := by have := self low; omega
    have hb := (hN low h2).1
    have hp := hc (2 * low) d (by omega) hb
    have hgt : N < (2 * low) ^ d := by have := self (2 * low); omega
    refine ⟨low, 2 * low, h1, h2, by omega, hgt, hb, ?_⟩
    rw [whlO_eq]
    have hn : ¬ (2 * low) ^ d ≤ N := by omega
    generalize 2 * low = w at *
    generalize w ^ d = P at *
    simp -implicitDefEqProofs [cnd, cL1, hp, hn]
  | succ k ih =>
    intro low hk h1 h2
    have hb := (hN low h2).1
    have hp := hc (2 * low) d (by omega) hb
    by_cases hle : (2 * low) ^ d ≤ N
    · obtain ⟨r, hi, q1, q2, q3, q4, q5, q6⟩ := ih (2 * low) (by have := self (2 * low); omega) (by omega) hle
      refine ⟨r, hi, q1, q2, q3, q4, q5, ?_⟩
      rw [← q6, whlO_eq]
      have hw := (hN (2 * low) hle).2
      have m := op2_mul (mulOk_of (i := ((2 * low : Nat) : Int)) (j := 2) (natAbs_lt hw) (b := 2) (by decide) (by omega))
      have e : ((2 * low : Nat) : Int) * 2 = ((2 * (2 * low) : Nat) : Int) := by omega
      rw [e] at m
      generalize 2 * low = w at *
      generalize 2 * w = w2 at *
      generalize w ^ d = P at *
      simp -implicitDefEqProofs [cnd, cL1, tL1, hp, hle, m]
    · refine ⟨low, 2 * low, h1, h2, by omega, by omega, hb, ?_⟩
      rw [whlO_eq]
      generalize 2 * low = w at *
      generalize w ^ d = P at *
      simp -implicitDefEqProofs [cnd, cL1, hp, hle]
def tL2 : List S := [.set 4 (.op .fdiv (.op .add (.var 2) (.var 3)) (.int 2)), .ifs (.op .le (.call 15 [(.var 4), (.var 1)]) (.var 0)) [.set 2 (.var 4)] [.set 3 (.var 4)]]
def cL2 : E := .op .gt (.op .sub (.var 3) (.var 2)) (.int 1)
theorem l2_loop (hc : PowOk Φ 15 B) (hd : 1 ≤ d) : ∀ (k low high : Nat), high - low ≤ k → 1 ≤ low → low < high → low ^ d ≤ N → N < high ^ d → high ^ d < 2 ^ B →
    ∃ r hi : Nat, 1 ≤ r ∧ r ^ d ≤ N ∧ N < (r + 1) ^ d ∧ whlO [4] 0 (cnd Φ cL2) (exSs Φ tL2) ⟨[some (.sh (.int N)), some (.sh (.int d)), some (.sh (.int low)), some (.sh (.int high)), none], []⟩
      = .nx ⟨[some (.sh (.int N)), some (.sh (.int d)), some (.sh (.int r)), some (.sh (.int hi)), none], []⟩ := by
  intro k
  induction k with
  | zero =>
    intro low high hk h1 h2
    omega
  | succ k ih =>
    intro low high hk h1 h2 hl hh hb
    by_cases hlt : low + 1 < high
    · have ml : low < (low + high) / 2 := by omega
      have mh : (low + high) / 2 < high := by omega
      have bm : ((low + high) / 2) ^ d < 2 ^ B := Nat.lt_of_le_of_lt (Nat.pow_le_pow_left (Nat.le_of_lt mh) d) hb
      have hp := hc ((low + high) / 2) d (by omega) bm
      have em : ((low : Int) + (high : Int)) / 2 = (((low + high) / 2 : Nat) : Int) := by simp
      have dv := op2_fdiv (i := (low : Int) + (high : Int)) div2Ok
      rw [em] at dv
      rw [whlO_eq]
      have hz : (1 : Int) < (high : Int) - (low : Int) := by omega
      have c : cnd Φ cL2 ⟨[some (.sh (.int N)), some (.sh (.int d)), some (.sh (.int low)), some (.sh (.int high)), none], []⟩ = .ok true := by
        simp -implicitDefEqProofs [cnd, cL2, hz]
      rw [c]
      simp only [onR_ok, if_true]
      generalize (low + high) / 2 = mid at *
      by_cases hq : mid ^ d ≤ N
      · obtain ⟨r, hi, q1, q2, q3, q5⟩ := ih mid high (by omega) (by omega) (by omega) hq hh hb
        refine ⟨r, hi, q1, q2, q3, ?_⟩
        rw [← q5]
        generalize mid ^ d = P at *
        simp -implicitDefEqProofs [tL2, dv, hp, hq]
      · obtain ⟨r, hi, q1, q2, q3, q5⟩ := ih low mid (by omega) h1 ml hl (by omega) bm
        refine ⟨r, hi, q1, q2, q3, ?_⟩
        rw [← q5]
        generalize mid ^ d = P at *
        simp -implicitDefEqProofs [tL2, dv, hp, hq]
    · have e : high = low + 1 := by omega
      subst e
      refine ⟨low, low + 1, h1, hl, hh, ?_⟩
      rw [whlO_eq]
      have hz : ¬ (1 : Int) < ((low + 1 : Nat) : Int) - (low : Int) := by omega
      generalize low + 1 = w at *
      simp -implicitDefEqProofs [cnd, cL2, hz]
end

theorem powOk2 {n B : Nat} (h : 1 ≤ n) (hB : B ≤ 400000) : PowOk (run (funs.map (·.d)) n) 1 B := fun q l h1 h2 => pow2_ok h hB h1 h2
theorem powOk1 {n B : Nat} (h : 1 ≤ n) (hB : B ≤ 400000) : PowOk (run (funs.map (·.d)) n) 15 B := fun q l h1 h2 => pow1_ok h hB h1 h2
theorem wroot_ok {n : Nat} (h : 2 ≤ n) {N d b : Nat} (hN : 1 ≤ N) (hb : N < 2 ^ b) (hd : 1 ≤ d) (hd2 : d ≤ 1000) (hb2 : b ≤ 100000) : ∃ r, IsRoot r N d ∧ rn n 5 [.int N, .int d] = .ok (.sh r) := by
  obtain ⟨m, rfl⟩ := u (show 1 ≤ n by omega)
  -- the bits
  have b0 : bitsI (N : Int) = N.log2 + 1 := by
    unfold bitsI
    rw [if_neg (by omega)]
    simp
  have lg : N.log2 + 1 ≤ b := (Nat.log2_lt (by omega)).mpr hb
  have up : N < 2 ^ (N.log2 + 1) := Nat.lt_log2_self
  generalize hL : N.log2 + 1 = L at *
  generalize hk : L / d + 1 = k at *
  have kd : L ≤ k * d ∧ k * d ≤ L + d := by
    have := Nat.div_add_mod L d
    have m2 := Nat.mod_lt L (show 0 < d by omega)
    rw [← hk, Nat.add_mul, Nat.one_mul, Nat.mul_comm]
    omega
  have hi : (2 ^ k) ^ d = 2 ^ (k * d) := by rw [← Nat.pow_mul]
  obtain ⟨B, hB1, hB2⟩ : ∃ B : Nat, 200000 ≤ B ∧ B ≤ 400000 := ⟨200000, by decide, by decide⟩
  have hb3 : (2 ^ k) ^ d < 2 ^ B := by
    rw [hi]
    exact Nat.pow_lt_pow_right (by decide) (by omega)
  have hNk : N ≤ (2 ^ k) ^ d := by
    rw [hi]
    exact Nat.le_trans (Nat.le_of_lt up) (Nat.pow_le_pow_right (by decide) kd.1)
  have hk2 : k ≤ 100001 := by
    have := Nat.div_le_self L d
    omega
  obtain ⟨r, hh, q1, q2, q3, q4, q5⟩ := wr_loop (Φ := run (funs.map (·.d)) m) (powOk2 (by omega) hB2) hd (2 ^ k) 1 (2 ^ k) (Nat.sub_le _ _) (Nat.le_refl _) (Nat.pow_pos (by omega)) hb3 (fun x hx => by
    have e : x = 0 := by omega
    subst e
    rw [Nat.zero_pow (by omega)]
    omega) hNk
  refine ⟨_, root_end q1 q2 q4 hd, un d_whole_root rfl rfl ?_⟩
  have hp := powOk2 (n := m) (by omega) hB2 r d q4 q3
  have dv : op2 .fdiv (.int (bitsI (N : Int) : Nat)) (.int (d : Int)) = .ok (.int ((L / d : Nat) : Int)) := by
    rw [op2_fdiv (divOk_of (a := 10) (by omega) (by simp; omega) (by decide)), b0]
    simp
  have sh : op2 .shl (.int 1) (.int ((L / d : Nat) + 1 : Int)) = .ok (.int ((2 ^ k : Nat) : Int)) := by
    have e : ((L / d : Nat) + 1 : Int).toNat = k := by omega
    have ok : shlOk 1 ((L / d : Nat) + 1 : Int) = true := by
      unfold shlOk
      rw [e, decide_eq_true (by omega), decide_eq_true (by
        have : (1 : Int).natAbs.log2 = 0 := by decide
        omega)]
      rfl
    simp only [op2, ok, if_true, e]
    simp
  have e : d_whole_root.body = [.set 2 (.int 1), .set 3 (.op .shl (.int 1) (.op .add (.op .fdiv (.bits (.var 0)) (.var 1)) (.int 1))), .whl (.op .lt (.var 2) (.var 3)) tWr [4], .ifs (.op .eq (.call 1 [(.var 2), (.var 1)]) (.var 0)) [.ret (.var 2)] [], .ret .non] := rfl
  rw [e]
  have q6 : whlO [4] 0 (cnd (run (funs.map (·.d)) m) (.op .lt (.var 2) (.var 3))) (exSs (run (funs.map (·.d)) m) tWr) ⟨[some (.sh (.int N)), some (.sh (.int d)), some (.sh (.int 1)), some (.sh (.int (2 ^ k : Nat))), none], []⟩ = _ := q5
  generalize 2 ^ k = H at *
  generalize L / d = Q at *
  generalize r ^ d = P at *
  by_cases hP : P = N
  · simp -implicitDefEqProofs [d_whole_root, dv, sh, q6, hp, hP]
  · have hP' : ¬ ((P : Int) = (N : Int)) := by omega
    simp -implicitDefEqProofs [d_whole_root, dv, sh, q6, hp, hP, hP']
theorem lroot_ok {n : Nat} (h : 2 ≤ n) {N d b : Nat} (hN : 1 ≤ N) (hb : N < 2 ^ b) (hd : 1 ≤ d) (hd2 : d ≤ 1000) (hb2 : b ≤ 100000) : ∃ r, IsRoot r N d ∧ rn n 19 [.int N, .int d] = .ok (.sh r) := by
  obtain ⟨m, rfl⟩ := u (show 1 ≤ n by omega)
  have self : ∀ x : Nat, x ≤ x ^ d := fun x => by
    rcases Nat.eq_zero_or_pos x with e | e
    · omega
    · exact Nat.le_pow (by omega)
  obtain ⟨B, hB1, hB2⟩ : ∃ B : Nat, 200000 ≤ B ∧ B ≤ 400000 := ⟨200000, by decide, by decide⟩
  have pk := powOk1 (n := m) (by omega) hB2
  have hNx : ∀ x : Nat, x ^ d ≤ N → (2 * x) ^ d < 2 ^ B ∧ x < 2 ^ B := fun x hx => by
    refine ⟨?_, Nat.lt_of_le_of_lt (Nat.le_trans (self x) hx) (Nat.lt_of_lt_of_le hb (Nat.pow_le_pow_right (by decide) (by omega)))⟩
    rw [Nat.mul_pow]
    have h1 : 2 ^ d * x ^ d < 2 ^ d * 2 ^ b := Nat.mul_lt_mul_of_pos_left (Nat.lt_of_le_of_lt hx hb) (Nat.pow_pos (by omega))
    rw [← Nat.pow_add] at h1
    exact Nat.lt_of_lt_of_le h1 (Nat.pow_le_pow_right (by decide) (by omega))
  obtain ⟨r1, h1, a1, a2, a3, a4, a5, a6⟩ := l1_loop (Φ := run (funs.map (·.d)) m) pk hd hNx hB2 N 1 (by omega) (Nat.le_refl _) (by rw [Nat.one_pow]; exact hN)
  obtain ⟨r, hi, c1, c2, c3, c4⟩ := l2_loop (Φ := run (funs.map (·.d)) m) pk hd (h1 - r1) r1 h1 (Nat.le_refl _) a1 a3 a2 a4 a5
  have hr : IsRoot (if r ^ d = N then .int r else .non) N d := by
    split
    · rename_i q
      exact .inl ⟨r, c1, q, rfl⟩
    · rename_i q
      refine .inr ⟨fun x e => ?_, rfl⟩
      rcases Nat.lt_or_ge r x with w | w
      · have := Nat.pow_le_pow_left (show r + 1 ≤ x by omega) d
        omega
      · have := Nat.pow_le_pow_left w d
        omega
  refine ⟨_, hr, un d__law_whole_root rfl rfl ?_⟩
  have hp := pk r d c1 (Nat.lt_of_le_of_lt c2 (Nat.lt_of_lt_of_le hb (Nat.pow_le_pow_right (by decide) (by omega))))
  have e : d__law_whole_root.body = [.set 2 (.int 1), .set 3 (.int 2), .whl cL1 tL1 [], .whl cL2 tL2 [4], .ifs (.op .eq (.call 15 [(.var 2), (.var 1)]) (.var 0)) [.ret (.var 2)] [], .ret .non] := rfl
  rw [e]
  have a7 : whlO [] 0 (cnd (run (funs.map (·.d)) m) cL1) (exSs (run (funs.map (·.d)) m) tL1) ⟨[some (.sh (.int N)), some (.sh (.int d)), some (.sh (.int 1)), some (.sh (.int 2)), none], []⟩ = _ := a6
  generalize r ^ d = P at *
  by_cases hP : P = N
  · simp -implicitDefEqProofs [d__law_whole_root, a7, c4, hp, hP]
  · have hP' : ¬ ((P : Int) = (N : Int)) := by omega
    simp -implicitDefEqProofs [d__law_whole_root, a7, c4, hp, hP, hP']
end L_onewarmth_k01_powers_and_roots
end

section
set_option Elab.async false
set_option linter.all false
set_option maxRecDepth 100000
/-! k01: roots of fractions. -/
namespace L_onewarmth_k01_powers_and_roots
open R
def rootD (r1 r2 : D) : D := if r1.isNon || r2.isNon then .non else .tup [r1, r2]
def RD (r : D) (P Q d : Nat) : Prop := ∃ r1 r2, IsRoot r1 P d ∧ IsRoot r2 Q d ∧ r = rootD r1 r2
theorem RD.one {r r' : D} {P Q d : Nat} (hd : 1 ≤ d) (h : RD r P Q d) (h' : RD r' P Q d) : r = r' := by
  obtain ⟨a, b, h1, h2, rfl⟩ := h
  obtain ⟨a', b', h1', h2', rfl⟩ := h'
  rw [h1.one hd h1', h2.one hd h2']
/-- X's parts -/
def Parts (X : D) (P Q : Nat) : Prop := ixR X (.int 0) = .ok (.int P) ∧ ixR X (.int 1) = .ok (.int Q)
theorem parts_pr (P Q : Nat) : Parts (pr P Q) P Q := ⟨rfl, rfl⟩
theorem parts_lst (P Q : Nat) : Parts (.lst [.int P, .int Q]) P Q := ⟨rfl, rfl⟩
theorem root_ok {n : Nat} (h : 3 ≤ n) {X : D} {P Q d b : Nat} (hX : Parts X P Q) (hP : 1 ≤ P) (hQ : 1 ≤ Q) (bP : P < 2 ^ b) (bQ : Q < 2 ^ b) (hd : 1 ≤ d) (hd2 : d ≤ 1000) (hb2 : b ≤ 100000) : ∃ r, RD r P Q d ∧ rn n 6 [X, .int d] = .ok (.sh r) := by
  obtain ⟨m, rfl⟩ := u (show 1 ≤ n by omega)
  obtain ⟨r1, h1, e1⟩ := wroot_ok (n := m) (by omega) hP bP hd hd2 hb2
  obtain ⟨r2, h2, e2⟩ := wroot_ok (n := m) (by omega) hQ bQ hd hd2 hb2
  refine ⟨rootD r1 r2, ⟨r1, r2, h1, h2, rfl⟩, un d_root rfl rfl ?_⟩
  unfold rn at e1 e2
  obtain ⟨x1, x2⟩ := hX
  unfold rootD
  cases q1 : r1.isNon <;> cases q2 : r2.isNon <;> simp -implicitDefEqProofs [d_root, x1, x2, e1, e2, q1, q2, two_le_LINE]
theorem lroots_ok {n : Nat} (h : 3 ≤ n) {X : D} {P Q d b : Nat} (hX : Parts X P Q) (hP : 1 ≤ P) (hQ : 1 ≤ Q) (bP : P < 2 ^ b) (bQ : Q < 2 ^ b) (hd : 1 ≤ d) (hd2 : d ≤ 1000) (hb2 : b ≤ 100000) : ∃ r, RD r P Q d ∧ rn n 20 [X, .int d] = .ok (.sh r) := by
  obtain ⟨m, rfl⟩ := u (show 1 ≤ n by omega)
  obtain ⟨r1, h1, e1⟩ := lroot_ok (n := m) (by omega) hP bP hd hd2 hb2
  obtain ⟨r2, h2, e2⟩ := lroot_ok (n := m) (by omega) hQ bQ hd hd2 hb2
  refine ⟨rootD r1 r2, ⟨r1, r2, h1, h2, rfl⟩, un d__law_fraction_root rfl rfl ?_⟩
  unfold rn at e1 e2
  obtain ⟨x1, x2⟩ := hX
  unfold rootD
  cases q1 : r1.isNon <;> cases q2 : r2.isNon <;> simp -implicitDefEqProofs [d__law_fraction_root, x1, x2, e1, e2, q1, q2, two_le_LINE]
theorem IsRoot.cases {r : D} {N d : Nat} (h : IsRoot r N d) : r = .non ∨ ∃ x : Nat, r = .int x := by
  rcases h with ⟨x, _, _, rfl⟩ | ⟨_, rfl⟩
  · exact .inr ⟨x, rfl⟩
  · exact .inl rfl
theorem RD.cases {r : D} {P Q d : Nat} (h : RD r P Q d) : r = .non ∨ ∃ x y : Nat, r = pr x y := by
  obtain ⟨a, b, h1, h2, rfl⟩ := h
  rcases h1.cases with rfl | ⟨x, rfl⟩
  · exact .inl rfl
  · rcases h2.cases with rfl | ⟨y, rfl⟩
    · exact .inl rfl
    · exact .inr ⟨x, y, rfl⟩
theorem sameR {n : Nat} (h : 3 ≤ n) {r : D} {P Q d : Nat} (hr : RD r P Q d) : rn n 18 [r, r] = .ok (.sh (.bl true)) := by
  rcases hr.cases with rfl | ⟨x, y, rfl⟩
  · exact sameN (by omega)
  · exact sameP h _ _
end L_onewarmth_k01_powers_and_roots
end

section
set_option Elab.async false
set_option linter.all false
set_option maxRecDepth 100000
/-! k01: the powers. -/
namespace L_onewarmth_k01_powers_and_roots
open R
/-- a row read at k -/
theorem ixRow {row : List Int} {k : Nat} {r : Int} (h : row[k]? = some r) : ixR (.lst (row.map .int)) (.int (k : Int)) = .ok (.int r) := by
  simp [ixR, D.seq, atI_get (show (row.map D.int)[k]? = some (.int r) by simp [h])]
theorem InB.get {row sizes : List Int} (h : InB row sizes) {k : Nat} {s : Int} (hs : sizes[k]? = some s) : ∃ r, row[k]? = some r ∧ 0 ≤ r ∧ r < s := by
  have hl := (List.getElem?_eq_some_iff.mp hs).1
  have e : row[k]? = some (row[k]'(by rw [h.1]; exact hl)) := List.getElem?_eq_getElem _
  obtain ⟨h1, h2⟩ := h.2 k _ s e hs
  exact ⟨_, e, h1, h2⟩
/-- a fraction of small parts is a pair of small naturals -/
theorem frac_small {t b : Int} {B : Nat} (ht : 0 < t) (hb : 0 < b) (bt : t < 2 ^ B) (bb : b < 2 ^ B) : ∃ p q : Nat, fracD t b = pr p q ∧ 1 ≤ p ∧ 1 ≤ q ∧ (p : Int) ≤ t ∧ (q : Int) ≤ b := by
  have hp : 0 < Nat.gcd t.natAbs b.natAbs := Nat.gcd_pos_of_pos_right _ (by omega)
  refine ⟨t.natAbs / Nat.gcd t.natAbs b.natAbs, b.natAbs / Nat.gcd t.natAbs b.natAbs, ?_, ?_, ?_, ?_, ?_⟩
  · rw [fracD_pr]
    unfold gcdI
    have e1 : t = (t.natAbs : Int) := by omega
    have e2 : b = (b.natAbs : Int) := by omega
    rw [Int.natCast_ediv, Int.natCast_ediv, ← e1, ← e2]
  · exact Nat.div_pos (Nat.le_of_dvd (by omega) (Nat.gcd_dvd_left _ _)) hp
  · exact Nat.div_pos (Nat.le_of_dvd (by omega) (Nat.gcd_dvd_right _ _)) hp
  · have := Nat.div_le_self t.natAbs (Nat.gcd t.natAbs b.natAbs)
    omega
  · have := Nat.div_le_self b.natAbs (Nat.gcd t.natAbs b.natAbs)
    omega

theorem exSs_app {Φ : R.Or} : ∀ (a b : List S) (s : PSt), exSs Φ (a ++ b) s = (exSs Φ a s).nxt (exSs Φ b)
  | [], b, s => rfl
  | x :: xs, b, s => by
    rw [List.cons_append, p_exSs_cons1, p_exSs_cons1]
    cases exS Φ x s with
    | nx s' => exact exSs_app xs b s'
    | _ => rfl
/-- a base and an exponent whose powers are small enough -/
def BaseOk (p q : Nat) (e : Int) : Prop := 1 ≤ p ∧ 1 ≤ q ∧ ∃ a k : Nat, p < 2 ^ a ∧ q < 2 ^ a ∧ e.natAbs ≤ k ∧ a * k ≤ 10000
theorem BaseOk.bounds {p q : Nat} {e : Int} (h : BaseOk p q e) : 1 ≤ p ∧ 1 ≤ q ∧ p ^ e.natAbs < 2 ^ 10001 ∧ q ^ e.natAbs < 2 ^ 10001 := by
  obtain ⟨h1, h2, a, k, h3, h4, h5, h6⟩ := h
  have g : ∀ x : Nat, x < 2 ^ a → x ^ e.natAbs < 2 ^ 10001 := fun x hx => by
    have l1 : x ^ e.natAbs ≤ (2 ^ a) ^ e.natAbs := Nat.pow_le_pow_left (Nat.le_of_lt hx) _
    rw [← Nat.pow_mul] at l1
    have l2 : a * e.natAbs ≤ a * k := Nat.mul_le_mul_left _ h5
    exact Nat.lt_of_le_of_lt l1 (Nat.pow_lt_pow_right (by decide) (by omega))
  exact ⟨h1, h2, g p h3, g q h4⟩
def pA : List S := d__law_powers_hold.body.take 2
def pB : List S := (d__law_powers_hold.body.drop 2).take 2
def pC : List S := d__law_powers_hold.body.drop 4
theorem stageA {n : Nat} (h : 2 ≤ n) {row : List Int} {r0 r1 r2 r3 : Int} (e0 : row[0]? = some r0) (e1 : row[1]? = some r1) (e2 : row[2]? = some r2) (e3 : row[3]? = some r3) (b0 : 0 ≤ r0 ∧ r0 < 12) (b1 : 0 ≤ r1 ∧ r1 < 12) (b2 : 0 ≤ r2 ∧ r2 < 4) :
    ∃ p q : Nat, 1 ≤ p ∧ 1 ≤ q ∧ p < 2 ^ 64 ∧ q < 2 ^ 64 ∧ exSs (run (funs.map (·.d)) n) pA ⟨[some (.sh (.lst (row.map .int))), none, none, none, none, none, none], []⟩ = .nx ⟨[some (.sh (.lst (row.map .int))), some (.sh (pr p q)), none, none, none, none, none], []⟩ := by
  have i0 := ixRow e0
  have i1 := ixRow e1
  have i2 := ixRow e2
  have i3 := ixRow e3
  simp only [Int.natCast_zero, Int.ofNat_zero] at i0
  have i1 : ixR (.lst (row.map .int)) (.int 1) = .ok (.int r1) := i1
  have i2 : ixR (.lst (row.map .int)) (.int 2) = .ok (.int r2) := i2
  have i3 : ixR (.lst (row.map .int)) (.int 3) = .ok (.int r3) := i3
  have f1 := frac_ok (n := n) h (t := 1 + r0) (b := 1 + r1) (B := 10) (by omega) (by omega) (by decide)
  have m7 := op2_mul (mul_small (i := 7) (j := r0) (by decide) (by omega))
  have pw : op2 .pow (.int 10) (.int 19) = .ok (.int 10000000000000000000) := by
    have : powOk 10 19 = true := by decide +kernel
    simp [op2, this]
  have f2 := frac_ok (n := n) h (t := 10000000000000000000 + 7 * r0 + 1) (b := 1 + r1) (B := 10) (by omega) (by omega) (by decide)
  obtain ⟨p1, q1, g1, g2, g3, g4, g5⟩ := frac_small (t := 1 + r0) (b := 1 + r1) (B := 10) (by omega) (by omega) (by omega) (by omega)
  obtain ⟨p2, q2, k1, k2, k3, k4, k5⟩ := frac_small (t := 10000000000000000000 + 7 * r0 + 1) (b := 1 + r1) (B := 64) (by omega) (by omega) (by omega) (by omega)
  unfold rn at f1 f2
  rw [g1] at f1
  rw [k1] at f2
  have four : (4 : Nat) ≤ LINE := Nat.le_of_lt (Nat.lt_trans (by decide) LINE_big)
  -- the first choice
  have first : ∃ p q : Nat, 1 ≤ p ∧ 1 ≤ q ∧ p < 2 ^ 64 ∧ q < 2 ^ 64 ∧ ixR (.lst [pr p1 q1, .tup [.int 1001, .int 1000], .tup [.int 1, .int 1], .tup [.int (r0 + 1), .int (r0 + 2)]]) (.int r2) = .ok (pr p q) := by
    have c : r2 = 0 ∨ r2 = 1 ∨ r2 = 2 ∨ r2 = 3 := by omega
    rcases c with rfl | rfl | rfl | rfl
    · exact ⟨p1, q1, g2, g3, by omega, by omega, rfl⟩
    · exact ⟨1001, 1000, by decide, by decide, by decide, by decide, rfl⟩
    · exact ⟨1, 1, by decide, by decide, by decide, by decide, rfl⟩
    · refine ⟨(r0 + 1).toNat, (r0 + 2).toNat, by omega, by omega, by omega, by omega, ?_⟩
      have a1 : (((r0 + 1).toNat : Nat) : Int) = r0 + 1 := by omega
      have a2 : (((r0 + 2).toNat : Nat) : Int) = r0 + 2 := by omega
      unfold pr
      rw [a1, a2]
      rfl
  obtain ⟨p0, q0, c1, c2, c3, c4, c5⟩ := first
  have eA : pA = [.set 1 (.idx (.lst [.call 12 [.op .add (.int 1) (.idx (.var 0) (.int 0)), .op .add (.int 1) (.idx (.var 0) (.int 1))], .tup [.int 1001, .int 1000], .tup [.int 1, .int 1], .tup [.op .add (.idx (.var 0) (.int 0)) (.int 1), .op .add (.idx (.var 0) (.int 0)) (.int 2)]]) (.idx (.var 0) (.int 2))),
    .ifs (.op .eq (.idx (.var 0) (.int 3)) (.int 0)) [.set 1 (.call 12 [.op .add (.op .add (.op .pow (.int 10) (.int 19)) (.op .mul (.int 7) (.idx (.var 0) (.int 0)))) (.int 1), .op .add (.int 1) (.idx (.var 0) (.int 1))])] []] := rfl
  rw [eA]
  by_cases z : r3 = 0
  · subst z
    refine ⟨p2, q2, k2, k3, by omega, by omega, ?_⟩
    simp -implicitDefEqProofs [i0, i1, i2, i3, f1, f2, m7, pw, four, two_le_LINE, c5]
  · have z' : (r3 == 0) = false := by simp [z]
    refine ⟨p0, q0, c1, c2, c3, c4, ?_⟩
    simp -implicitDefEqProofs [i0, i1, i2, i3, f1, four, two_le_LINE, c5, z, z']

theorem stageB {n : Nat} (h : 2 ≤ n) {row : List Int} {r0 r1 r4 r5 : Int} (e0 : row[0]? = some r0) (e1 : row[1]? = some r1) (e4 : row[4]? = some r4) (e5 : row[5]? = some r5) (b0 : 0 ≤ r0 ∧ r0 < 12) (b1 : 0 ≤ r1 ∧ r1 < 12) (b4 : 0 ≤ r4 ∧ r4 < 81) {p q : Nat} (hp : 1 ≤ p) (hq : 1 ≤ q) (bp : p < 2 ^ 64) (bq : q < 2 ^ 64) :
    ∃ (p' q' : Nat) (e : Int), BaseOk p' q' e ∧ exSs (run (funs.map (·.d)) n) pB ⟨[some (.sh (.lst (row.map .int))), some (.sh (pr p q)), none, none, none, none, none], []⟩ = .nx ⟨[some (.sh (.lst (row.map .int))), some (.sh (pr p' q')), some (.sh (.int e)), none, none, none, none], []⟩ := by
  have i0 := ixRow e0
  simp only [Int.natCast_zero, Int.ofNat_zero] at i0
  have i1 : ixR (.lst (row.map .int)) (.int 1) = .ok (.int r1) := ixRow e1
  have i4 : ixR (.lst (row.map .int)) (.int 4) = .ok (.int r4) := ixRow e4
  have i5 : ixR (.lst (row.map .int)) (.int 5) = .ok (.int r5) := ixRow e5
  have d0 := op2_mod (i := r0) (j := 3) (by decide)
  have d1 := op2_mod (i := r1) (j := 3) (by decide)
  have m := op2_mul (mul_small (i := 37) (j := r4) (by decide) (by omega))
  have f1 := frac_ok (n := n) h (t := 1 + r0 % 3) (b := 1 + r1 % 3) (B := 10) (by omega) (by omega) (by decide)
  obtain ⟨p1, q1, g1, g2, g3, g4, g5⟩ := frac_small (t := 1 + r0 % 3) (b := 1 + r1 % 3) (B := 10) (by omega) (by omega) (by omega) (by omega)
  unfold rn at f1
  rw [g1] at f1
  have eB : pB = [.set 2 (.op .sub (.idx (.var 0) (.int 4)) (.int 40)), .ifs (.op .eq (.idx (.var 0) (.int 5)) (.int 0)) [.set 1 (.call 12 [.op .add (.int 1) (.op .mod (.bi .int [.idx (.var 0) (.int 0)]) (.int 3)), .op .add (.int 1) (.op .mod (.bi .int [.idx (.var 0) (.int 1)]) (.int 3))]), .set 2 (.op .sub (.op .mul (.int 37) (.idx (.var 0) (.int 4))) (.int 1480))] []] := rfl
  rw [eB]
  by_cases z : r5 = 0
  · subst z
    refine ⟨p1, q1, 37 * r4 - 1480, ⟨g2, g3, 2, 1480, by omega, by omega, by omega, by decide⟩, ?_⟩
    simp -implicitDefEqProofs [i0, i1, i4, i5, d0, d1, m, f1]
  · have z' : (r5 == 0) = false := by simp [z]
    refine ⟨p, q, r4 - 40, ⟨hp, hq, 64, 40, bp, bq, by omega, by decide⟩, ?_⟩
    simp -implicitDefEqProofs [i4, i5, z, z']
theorem samePow {n : Nat} (h : 3 ≤ n) (p q : Nat) (e : Int) : rn n 18 [powD p q e, powD p q e] = .ok (.sh (.bl true)) := by
  unfold powD
  split <;> exact sameP h _ _
theorem sameFr {n : Nat} (h : 3 ≤ n) (t b : Int) : rn n 18 [fracD t b, fracD t b] = .ok (.sh (.bl true)) := by
  rw [fracD_pr]
  exact sameP h _ _
end L_onewarmth_k01_powers_and_roots
end

section
set_option Elab.async false
set_option linter.all false
set_option maxRecDepth 100000
/-! k01: the powers hold. -/
namespace L_onewarmth_k01_powers_and_roots
open R
/-- the numbers with their exponents -/
def pairs (row : List Int) (c : Nat) : List (Nat × Int) := (List.range c).map fun k => ((1 + (row[7 + 2 * k]?).getD 0).toNat, (row[8 + 2 * k]?).getD 0 - 30)
theorem pairs_small {row : List Int} {c : Nat} (h : ∀ k, k < c → ∃ a b, row[7 + 2 * k]? = some a ∧ row[8 + 2 * k]? = some b ∧ (0 ≤ a ∧ a < 30) ∧ (0 ≤ b ∧ b < 61)) : SmallP (pairs row c) := by
  intro p hp
  unfold pairs at hp
  obtain ⟨k, hk, rfl⟩ := List.mem_map.mp hp
  obtain ⟨a, b, e1, e2, b1, b2⟩ := h k (List.mem_range.mp hk)
  simp only [e1, e2, Option.getD_some]
  refine ⟨by omega, by omega, by omega⟩
theorem comps {Φ : R.Or} {row : List Int} {c : Nat} (hc : c ≤ 1000) (h : ∀ k, k < c → ∃ a b, row[7 + 2 * k]? = some a ∧ row[8 + 2 * k]? = some b ∧ (0 ≤ a ∧ a < 30) ∧ (0 ≤ b ∧ b < 61)) (e6 : row[6]? = some (c : Int)) (A B C E F : Option D) :
    ev Φ (.comp .r1 [6] [.idx (.var 0) (.int 6)] [] (.op .add (.int 1) (.idx (.var 0) (.op .add (.int 7) (.op .mul (.int 2) (.var 6)))))) [some (.lst (row.map .int)), A, B, C, E, F, none] = .ok (.lst (numL (pairs row c)))
    ∧ ev Φ (.comp .r1 [6] [.idx (.var 0) (.int 6)] [] (.op .sub (.idx (.var 0) (.op .add (.int 8) (.op .mul (.int 2) (.var 6)))) (.int 30))) [some (.lst (row.map .int)), A, B, C, E, F, none] = .ok (.lst (expL (pairs row c))) := by
  have i6 : ixR (.lst (row.map .int)) (.int 6) = .ok (.int c) := ixRow e6
  have rr : rngOk 0 (c : Int) = true := rngOk_of (by omega) (by omega) (by omega) (by omega) (by omega)
  have hl : c ≤ LINE := Nat.le_of_lt (len_lt (by omega))
  have m : ∀ k, k < c → op2 .mul (.int 2) (.int (k : Int)) = .ok (.int (2 * (k : Int))) := fun k hk => op2_mul (mul_small (by decide) (by omega))
  constructor
  · rw [p_ev_comp]
    simp -implicitDefEqProofs only [p_evs_cons1, p_evs_l0, p_ev_idx, p_ev_var, p_ev_int, List.getElem?_cons_zero, Res.bind_ok, i6, srcR_r1 rr, rng0]
    rw [mapR_all (g := fun k => D.int ((1 + (row[7 + 2 * k]?).getD 0).toNat : Nat))]
    · simp -implicitDefEqProofs [numL, pairs, hl]
    · intro k hk
      obtain ⟨a, b, e1, e2, b1, b2⟩ := h k (List.mem_range.mp hk)
      have ix := ixRow e1
      have e : (7 : Int) + 2 * (k : Int) = ((7 + 2 * k : Nat) : Int) := by omega
      rw [← e] at ix
      simp -implicitDefEqProofs [m k (List.mem_range.mp hk), ix, e1]
      omega
  · rw [p_ev_comp]
    simp -implicitDefEqProofs only [p_evs_cons1, p_evs_l0, p_ev_idx, p_ev_var, p_ev_int, List.getElem?_cons_zero, Res.bind_ok, i6, srcR_r1 rr, rng0]
    rw [mapR_all (g := fun k => D.int ((row[8 + 2 * k]?).getD 0 - 30))]
    · simp -implicitDefEqProofs [expL, pairs, hl]
    · intro k hk
      obtain ⟨a, b, e1, e2, b1, b2⟩ := h k (List.mem_range.mp hk)
      have ix := ixRow e2
      have e : (8 : Int) + 2 * (k : Int) = ((8 + 2 * k : Nat) : Int) := by omega
      rw [← e] at ix
      simp -implicitDefEqProofs [m k (List.mem_range.mp hk), ix, e2]

theorem numL_ints (l : List (Nat × Int)) : ∃ xs : List Int, numL l = xs.map .int := ⟨l.map fun p => (p.1 : Int), by unfold numL; rw [List.map_map]; rfl⟩
theorem expL_ints (l : List (Nat × Int)) : ∃ xs : List Int, expL l = xs.map .int := ⟨l.map fun p => p.2, by unfold expL; rw [List.map_map]; rfl⟩
theorem stageC {n : Nat} (h : 5 ≤ n) {row : List Int} {c : Nat} (hc : c ≤ 9) (hk : ∀ k, k < c → ∃ a b, row[7 + 2 * k]? = some a ∧ row[8 + 2 * k]? = some b ∧ (0 ≤ a ∧ a < 30) ∧ (0 ≤ b ∧ b < 61)) (e6 : row[6]? = some (c : Int)) {p q : Nat} {e : Int} (hb : BaseOk p q e) :
    exSs (run (funs.map (·.d)) n) pC ⟨[some (.sh (.lst (row.map .int))), some (.sh (pr p q)), some (.sh (.int e)), none, none, none, none], []⟩ = .rt (.sh (.bl true)) := by
  obtain ⟨h1, h2, h3, h4⟩ := hb.bounds
  have a1 := power_ok (n := n) (by omega) (B := 10001) (by decide) h1 h2 h3 h4
  have a2 := fpow_ok (n := n) (by omega) (B := 10001) (by decide) h1 h2 h3 h4
  have a3 := samePow (n := n) (by omega) p q e
  have sm := pairs_small hk
  have ll : (pairs row c).length ≤ 9 := by unfold pairs; simpa using hc
  have a4 := product_ok (n := n) (by omega) sm ll
  have a5 := lproduct_ok (n := n) (by omega) sm ll
  have a6 := sameFr (n := n) (by omega) (upP (pairs row c) : Nat) (dnP (pairs row c) : Nat)
  unfold rn at a1 a2 a3 a4 a5 a6
  obtain ⟨xs, ex⟩ := numL_ints (pairs row c)
  obtain ⟨ys, ey⟩ := expL_ints (pairs row c)
  have cA := (comps (Φ := run (funs.map (·.d)) n) (by omega) hk e6 (some (pr p q)) (some (.int e)) none none none).1
  have cB := (comps (Φ := run (funs.map (·.d)) n) (by omega) hk e6 (some (pr p q)) (some (.int e)) (some (numL (pairs row c) |> .lst)) none none).2
  have eC : pC = [.ifs (.not (.call 18 [.call 2 [.var 1, .var 2], .call 17 [.var 1, .var 2]])) [.ret (.bl false)] [],
    .set 3 (.comp .r1 [6] [.idx (.var 0) (.int 6)] [] (.op .add (.int 1) (.idx (.var 0) (.op .add (.int 7) (.op .mul (.int 2) (.var 6)))))),
    .set 4 (.comp .r1 [6] [.idx (.var 0) (.int 6)] [] (.op .sub (.idx (.var 0) (.op .add (.int 8) (.op .mul (.int 2) (.var 6)))) (.int 30))),
    .set 5 (.lst [.bi .list [.var 3], .bi .list [.var 4]]),
    .ifs (.not (.call 18 [.call 3 [.idx (.var 5) (.int 0), .idx (.var 5) (.int 1)], .call 16 [.var 3, .var 4]])) [.ret (.bl false)] [],
    .ret (.op .eq (.var 5) (.lst [.var 3, .var 4]))] := rfl
  rw [eC]
  have x0 : ∀ a b : D, ixR (.lst [a, b]) (.int 0) = .ok a := fun a b => rfl
  have x1 : ∀ a b : D, ixR (.lst [a, b]) (.int 1) = .ok b := fun a b => rfl
  have q2 := eq_two xs ys
  rw [← ex, ← ey] at q2
  generalize numL (pairs row c) = NL at *
  generalize expL (pairs row c) = EL at *
  generalize powD p q e = PD at *
  generalize fracD (upP (pairs row c) : Nat) (dnP (pairs row c) : Nat) = FD at *
  generalize pr p q = PP at *
  simp -implicitDefEqProofs [-p_ev_comp, a1, a2, a3, a4, a5, a6, cA, cB, x0, x1, q2, two_le_LINE]

def sz1 : List Int := [12, 12, 4, 9, 81, 9, 7, 30, 61, 30, 61, 30, 61, 30, 61, 30, 61, 30, 61]
theorem powers_ok {n : Nat} (h : 6 ≤ n) {row : List Int} (hr : InB row sz1) : rn n 22 [.lst (row.map .int)] = .ok (.sh (.bl true)) := by
  obtain ⟨m, rfl⟩ := u (show 1 ≤ n by omega)
  obtain ⟨r0, e0, b0⟩ := InB.get hr (k := 0) (s := 12) rfl
  obtain ⟨r1, e1, b1⟩ := InB.get hr (k := 1) (s := 12) rfl
  obtain ⟨r2, e2, b2⟩ := InB.get hr (k := 2) (s := 4) rfl
  obtain ⟨r3, e3, b3⟩ := InB.get hr (k := 3) (s := 9) rfl
  obtain ⟨r4, e4, b4⟩ := InB.get hr (k := 4) (s := 81) rfl
  obtain ⟨r5, e5, b5⟩ := InB.get hr (k := 5) (s := 9) rfl
  obtain ⟨r6, e6, b6⟩ := InB.get hr (k := 6) (s := 7) rfl
  obtain ⟨c, rfl⟩ : ∃ c : Nat, r6 = (c : Int) := ⟨r6.toNat, by omega⟩
  have hk : ∀ k, k < c → ∃ a b, row[7 + 2 * k]? = some a ∧ row[8 + 2 * k]? = some b ∧ (0 ≤ a ∧ a < 30) ∧ (0 ≤ b ∧ b < 61) := fun k hk => by
    have key : sz1[7 + 2 * k]? = some 30 ∧ sz1[8 + 2 * k]? = some 61 := by
      have q : k = 0 ∨ k = 1 ∨ k = 2 ∨ k = 3 ∨ k = 4 ∨ k = 5 := by omega
      rcases q with rfl | rfl | rfl | rfl | rfl | rfl <;> exact ⟨rfl, rfl⟩
    obtain ⟨a, ea, ba⟩ := InB.get hr key.1
    obtain ⟨b, eb, bb⟩ := InB.get hr key.2
    exact ⟨a, b, ea, eb, ba, bb⟩
  obtain ⟨p, q, h1, h2, h3, h4, sA⟩ := stageA (n := m) (by omega) e0 e1 e2 e3 b0 b1 b2
  obtain ⟨p', q', e, hb, sB⟩ := stageB (n := m) (by omega) e0 e1 e4 e5 b0 b1 b4 h1 h2 h3 h4
  have sC := stageC (n := m) (by omega) (by omega) hk e6 hb
  refine un d__law_powers_hold rfl rfl ?_
  have eb : d__law_powers_hold.body = pA ++ (pB ++ pC) := rfl
  have en : enter d__law_powers_hold.ns [.lst (row.map .int)] = ⟨[some (.sh (.lst (row.map .int))), none, none, none, none, none, none], []⟩ := rfl
  rw [eb, en, exSs_app, sA, Out.nxt_nx, exSs_app, sB, Out.nxt_nx, sC]
  rfl
end L_onewarmth_k01_powers_and_roots
end

section
set_option Elab.async false
set_option linter.all false
set_option maxRecDepth 100000
/-! k01: the exponents hold. -/
namespace L_onewarmth_k01_powers_and_roots
open R
def eP : List S := d__law_exponents_hold.body.take 2
theorem stageE {n : Nat} (h : 2 ≤ n) {row : List Int} {r0 r1 r2 r3 : Int} (e0 : row[0]? = some r0) (e1 : row[1]? = some r1) (e2 : row[2]? = some r2) (e3 : row[3]? = some r3) (b0 : 0 ≤ r0 ∧ r0 < 9) (b1 : 0 ≤ r1 ∧ r1 < 9) (b2 : 0 ≤ r2 ∧ r2 < 4) (b3 : 0 ≤ r3 ∧ r3 < 40) :
    ∃ p q a b : Nat, 1 ≤ p ∧ 1 ≤ q ∧ p < 2 ^ 10 ∧ q < 2 ^ 10 ∧ 1 ≤ a ∧ 1 ≤ b ∧ a < 2 ^ 400 ∧ b < 2 ^ 400 ∧ exSs (run (funs.map (·.d)) n) eP ⟨[some (.sh (.lst (row.map .int))), none, none, none], []⟩ = .nx ⟨[some (.sh (.lst (row.map .int))), some (.sh (pr p q)), some (.sh (pr a b)), none], []⟩ := by
  have i0 := ixRow e0
  simp only [Int.natCast_zero, Int.ofNat_zero] at i0
  have i1 : ixR (.lst (row.map .int)) (.int 1) = .ok (.int r1) := ixRow e1
  have i2 : ixR (.lst (row.map .int)) (.int 2) = .ok (.int r2) := ixRow e2
  have i3 : ixR (.lst (row.map .int)) (.int 3) = .ok (.int r3) := ixRow e3
  have f1 := frac_ok (n := n) h (t := 2 + r0 + r1) (b := 1 + r1) (B := 10) (by omega) (by omega) (by decide)
  obtain ⟨p1, q1, g1, g2, g3, g4, g5⟩ := frac_small (t := 2 + r0 + r1) (b := 1 + r1) (B := 10) (by omega) (by omega) (by omega) (by omega)
  unfold rn at f1
  rw [g1] at f1
  have four : (4 : Nat) ≤ LINE := Nat.le_of_lt (Nat.lt_trans (by decide) LINE_big)
  have first : ∃ p q : Nat, 1 ≤ p ∧ 1 ≤ q ∧ p < 2 ^ 10 ∧ q < 2 ^ 10 ∧ ixR (.lst [pr p1 q1, .tup [.int 1001, .int 1000], .tup [.int 1, .int 1], .tup [.int (r0 + 1), .int (r0 + 2)]]) (.int r2) = .ok (pr p q) := by
    have c : r2 = 0 ∨ r2 = 1 ∨ r2 = 2 ∨ r2 = 3 := by omega
    rcases c with rfl | rfl | rfl | rfl
    · exact ⟨p1, q1, g2, g3, by omega, by omega, rfl⟩
    · exact ⟨1001, 1000, by decide, by decide, by decide, by decide, rfl⟩
    · exact ⟨1, 1, by decide, by decide, by decide, by decide, rfl⟩
    · refine ⟨(r0 + 1).toNat, (r0 + 2).toNat, by omega, by omega, by omega, by omega, ?_⟩
      have a1 : (((r0 + 1).toNat : Nat) : Int) = r0 + 1 := by omega
      have a2 : (((r0 + 2).toNat : Nat) : Int) = r0 + 2 := by omega
      unfold pr
      rw [a1, a2]
      rfl
  obtain ⟨p0, q0, c1, c2, c3, c4, c5⟩ := first
  have small : ∀ x : Nat, x < 2 ^ 10 → x ^ r3.natAbs < 2 ^ 400 := fun x hx => by
    have l1 : x ^ r3.natAbs ≤ (2 ^ 10) ^ r3.natAbs := Nat.pow_le_pow_left (Nat.le_of_lt hx) _
    rw [← Nat.pow_mul] at l1
    exact Nat.lt_of_le_of_lt l1 (Nat.pow_lt_pow_right (by decide) (by omega))
  have fp := fpow_ok (n := n) (e := r3) h (B := 400) (by decide) c1 c2 (small _ c3) (small _ c4)
  unfold rn powD at fp
  rw [if_neg (by omega)] at fp
  have eE : eP = [.set 1 (.idx (.lst [.call 12 [.op .add (.op .add (.int 2) (.idx (.var 0) (.int 0))) (.idx (.var 0) (.int 1)), .op .add (.int 1) (.idx (.var 0) (.int 1))], .tup [.int 1001, .int 1000], .tup [.int 1, .int 1], .tup [.op .add (.idx (.var 0) (.int 0)) (.int 1), .op .add (.idx (.var 0) (.int 0)) (.int 2)]]) (.idx (.var 0) (.int 2))),
    .set 2 (.call 17 [.var 1, .idx (.var 0) (.int 3)])] := rfl
  rw [eE]
  refine ⟨p0, q0, p0 ^ r3.natAbs, q0 ^ r3.natAbs, c1, c2, c3, c4, Nat.pow_pos c1, Nat.pow_pos c2, small _ c3, small _ c4, ?_⟩
  generalize p0 ^ r3.natAbs = A at *
  generalize q0 ^ r3.natAbs = B at *
  simp -implicitDefEqProofs [i0, i1, i2, i3, f1, four, two_le_LINE, c5, fp]

/-- a fraction of any sign, the bottom positive: its parts are no larger -/
theorem frac_any {t b : Int} {B : Nat} (hb : 0 < b) (ht : t.natAbs < 2 ^ B) (bb : b.natAbs < 2 ^ B) : ∃ x y : Int, fracD t b = pr x y ∧ x.natAbs < 2 ^ B ∧ y.natAbs < 2 ^ B := by
  have hp : 0 < Nat.gcd t.natAbs b.natAbs := Nat.gcd_pos_of_pos_right _ (by omega)
  refine ⟨t / gcdI t b, b / gcdI t b, fracD_pr t b, ?_, ?_⟩
  · exact Nat.lt_of_le_of_lt (by first | exact Int.natAbs_ediv_le_natAbs _ _ | exact Int.natAbs_div_le_natAbs _ _) ht
  · exact Nat.lt_of_le_of_lt (by first | exact Int.natAbs_ediv_le_natAbs _ _ | exact Int.natAbs_div_le_natAbs _ _) bb

theorem added_ok {n : Nat} (h : 3 ≤ n) {a b : Nat} (hb : 1 ≤ b) (ba : a < 2 ^ 400) (bb : b < 2 ^ 400) : rn n 13 [pr a b, .tup [.int 1, .int 1000]] = .ok (.sh (fracD ((a : Int) * 1000 + 1 * b) ((b : Int) * 1000))) := by
  obtain ⟨m, rfl⟩ := u (show 1 ≤ n by omega)
  have bb2 : ((b : Int) * 1000).natAbs < 2 ^ 410 := natAbs_mul_lt (natAbs_lt bb) (b := 10) (by decide)
  have f := frac_ok (n := m) (t := (a : Int) * 1000 + 1 * b) (b := (b : Int) * 1000) (B := 410) (by omega) (by omega) bb2 (by decide)
  unfold rn at f
  refine un d__law_added rfl rfl ?_
  have m1 := op2_mul (mulOk_of (i := (a : Int)) (j := 1000) (natAbs_lt ba) (b := 10) (by decide) (by decide))
  have m2 := op2_mul (mulOk_of (i := 1) (j := (b : Int)) (a := 1) (by decide) (natAbs_lt bb) (by decide))
  have m3 := op2_mul (mulOk_of (i := (b : Int)) (j := 1000) (natAbs_lt bb) (b := 10) (by decide) (by decide))
  unfold pr
  simp -implicitDefEqProofs [-Int.one_mul, d__law_added, ixP, m1, m2, m3, f]
theorem less_ok {n : Nat} (h : 3 ≤ n) {a b : Nat} (hb : 1 ≤ b) (ba : a < 2 ^ 400) (bb : b < 2 ^ 400) : rn n 14 [pr a b, .tup [.int 1, .int 1000]] = .ok (.sh (fracD ((a : Int) * 1000 - 1 * b) ((b : Int) * 1000))) := by
  obtain ⟨m, rfl⟩ := u (show 1 ≤ n by omega)
  have bb2 : ((b : Int) * 1000).natAbs < 2 ^ 410 := natAbs_mul_lt (natAbs_lt bb) (b := 10) (by decide)
  have f := frac_ok (n := m) (t := (a : Int) * 1000 - 1 * b) (b := (b : Int) * 1000) (B := 410) (by omega) (by omega) bb2 (by decide)
  unfold rn at f
  refine un d__law_less rfl rfl ?_
  have m1 := op2_mul (mulOk_of (i := (a : Int)) (j := 1000) (natAbs_lt ba) (b := 10) (by decide) (by decide))
  have m2 := op2_mul (mulOk_of (i := 1) (j := (b : Int)) (a := 1) (by decide) (natAbs_lt bb) (by decide))
  have m3 := op2_mul (mulOk_of (i := (b : Int)) (j := 1000) (natAbs_lt bb) (b := 10) (by decide) (by decide))
  unfold pr
  simp -implicitDefEqProofs [-Int.one_mul, d__law_less, ixP, m1, m2, m3, f]
end L_onewarmth_k01_powers_and_roots
end

section
set_option Elab.async false
set_option linter.all false
set_option maxRecDepth 100000
/-! k01: the exponents hold, on. -/
namespace L_onewarmth_k01_powers_and_roots
open R
def eQ : List S := (d__law_exponents_hold.body.drop 2).take 3
theorem stageF {n : Nat} (h : 3 ≤ n) {row : List Int} {r4 : Int} (e4 : row[4]? = some r4) (b4 : 0 ≤ r4 ∧ r4 < 4) {PP : D} {a b : Nat} (ha : 1 ≤ a) (hb : 1 ≤ b) (ba : a < 2 ^ 400) (bb : b < 2 ^ 400) :
    ∃ x y : Int, x.natAbs < 2 ^ 3000 ∧ y.natAbs < 2 ^ 3000 ∧ exSs (run (funs.map (·.d)) n) eQ ⟨[some (.sh (.lst (row.map .int))), some (.sh PP), some (.sh (pr a b)), none], []⟩ = .nx ⟨[some (.sh (.lst (row.map .int))), some (.sh PP), some (.sh (pr x y)), none], []⟩ := by
  have i4 : ixR (.lst (row.map .int)) (.int 4) = .ok (.int r4) := ixRow e4
  have f1 := added_ok h hb ba bb
  have f2 := less_ok h hb ba bb
  obtain ⟨B, hB1, hB2⟩ : ∃ B : Nat, 420 ≤ B ∧ B ≤ 3000 := ⟨420, by decide, by decide⟩
  have up : ∀ {z : Int} {k : Nat}, z.natAbs < 2 ^ k → k ≤ 3000 → z.natAbs < 2 ^ 3000 := fun hz hk => Nat.lt_of_lt_of_le hz (Nat.pow_le_pow_right (by decide) hk)
  have bb2 : ((b : Int) * 1000).natAbs < 2 ^ 410 := natAbs_mul_lt (natAbs_lt bb) (b := 10) (by decide)
  have ba2 : ((a : Int) * 1000).natAbs < 2 ^ 410 := natAbs_mul_lt (natAbs_lt ba) (b := 10) (by decide)
  have bb3 : ((1 : Int) * b).natAbs < 2 ^ 410 := Nat.lt_of_lt_of_le (natAbs_mul_lt (a := 1) (by decide) (natAbs_lt bb)) (Nat.pow_le_pow_right (by decide) (by decide))
  have two : 2 ^ 410 + 2 ^ 410 = 2 ^ 411 := by rw [Nat.pow_succ 2 410]; omega
  have l411 : (2 : Nat) ^ 410 ≤ 2 ^ 411 := Nat.pow_le_pow_right (by decide) (by decide)
  generalize h410 : (2 : Nat) ^ 410 = M410 at *
  generalize h411 : (2 : Nat) ^ 411 = M411 at *
  have s1 : ((a : Int) * 1000 + 1 * b).natAbs < 2 ^ 411 := by rw [h411]; omega
  have s2 : ((a : Int) * 1000 - 1 * b).natAbs < 2 ^ 411 := by rw [h411]; omega
  have s3 : ((b : Int) * 1000).natAbs < 2 ^ 411 := by rw [h411]; omega
  obtain ⟨x1, y1, g1, g2, g3⟩ := frac_any (by omega) s1 s3
  obtain ⟨x2, y2, k1, k2, k3⟩ := frac_any (by omega) s2 s3
  unfold rn at f1 f2
  rw [g1] at f1
  rw [k1] at f2
  have eE : eQ = [.ifs (.op .eq (.idx (.var 0) (.int 4)) (.int 1)) [.set 2 (.tup [.int 0, .int 1])] [], .ifs (.op .eq (.idx (.var 0) (.int 4)) (.int 2)) [.set 2 (.call 13 [.var 2, .tup [.int 1, .int 1000]])] [],
    .ifs (.and (.op .eq (.idx (.var 0) (.int 4)) (.int 3)) (.op .gt (.idx (.var 2) (.int 0)) (.idx (.var 2) (.int 1)))) [.set 2 (.call 14 [.var 2, .tup [.int 1, .int 1000]])] []] := rfl
  rw [eE]
  have na := up (natAbs_lt ba) (by decide)
  have nb := up (natAbs_lt bb) (by decide)
  have t0 : (0 : Int).natAbs < 2 ^ 3000 := Nat.pow_pos (by decide)
  have t1 : (1 : Int).natAbs < 2 ^ 3000 := Nat.one_lt_two_pow (by decide)
  have g2' := up g2 (by decide)
  have g3' := up g3 (by decide)
  have k2' := up k2 (by decide)
  have k3' := up k3 (by decide)
  clear up
  generalize (2 : Nat) ^ 3000 = M3 at *
  have x0 : ixR (pr a b) (.int 0) = .ok (.int a) := rfl
  have xb : ixR (pr a b) (.int 1) = .ok (.int b) := rfl
  have c : r4 = 0 ∨ r4 = 1 ∨ r4 = 2 ∨ r4 = 3 := by omega
  rcases c with rfl | rfl | rfl | rfl
  · refine ⟨a, b, na, nb, ?_⟩
    simp -implicitDefEqProofs [i4]
  · refine ⟨0, 1, t0, t1, ?_⟩
    simp -implicitDefEqProofs [i4, two_le_LINE, pr]
  · refine ⟨x1, y1, g2', g3', ?_⟩
    simp -implicitDefEqProofs [i4, two_le_LINE, f1]
  · by_cases hab : b < a
    · refine ⟨x2, y2, k2', k3', ?_⟩
      simp -implicitDefEqProofs [i4, two_le_LINE, f2, x0, xb, hab]
    · refine ⟨a, b, na, nb, ?_⟩
      simp -implicitDefEqProofs [i4, two_le_LINE, x0, xb, hab]

def eR : List S := d__law_exponents_hold.body.drop 5
@[simp] theorem bi_max2' (i j : Int) : bi .max2 [.int i, .int j] = .ok (.int (max i j)) := rfl
theorem stageG {n : Nat} (h : 3 ≤ n) {row : List Int} {r0 r2 r3 r5 r6 : Int} (e0 : row[0]? = some r0) (e2 : row[2]? = some r2) (e3 : row[3]? = some r3) (e5 : row[5]? = some r5) (e6 : row[6]? = some r6) (b0 : 0 ≤ r0 ∧ r0 < 9) (b3 : 0 ≤ r3 ∧ r3 < 40) (b5 : 0 ≤ r5 ∧ r5 < 6)
    {p q : Nat} (bp : p < 2 ^ 10) (bq : q < 2 ^ 10) {x y : Int} (bx : x.natAbs < 2 ^ 3000) (bY : y.natAbs < 2 ^ 3000) :
    exSs (run (funs.map (·.d)) n) eR ⟨[some (.sh (.lst (row.map .int))), some (.sh (pr p q)), some (.sh (pr x y)), none], []⟩ = .rt (.sh (.bl true)) := by
  have i0 := ixRow e0
  simp only [Int.natCast_zero, Int.ofNat_zero] at i0
  have i2 : ixR (.lst (row.map .int)) (.int 2) = .ok (.int r2) := ixRow e2
  have i3 : ixR (.lst (row.map .int)) (.int 3) = .ok (.int r3) := ixRow e3
  have i5 : ixR (.lst (row.map .int)) (.int 5) = .ok (.int r5) := ixRow e5
  have i6 : ixR (.lst (row.map .int)) (.int 6) = .ok (.int r6) := ixRow e6
  have six : (6 : Nat) ≤ LINE := Nat.le_of_lt (Nat.lt_trans (by decide) LINE_big)
  have np : ((p : Nat) : Int).natAbs < 2 ^ 10 := natAbs_lt bp
  have nq : ((q : Nat) : Int).natAbs < 2 ^ 10 := natAbs_lt bq
  have fin : ∀ (x y lim : Int), x.natAbs < 2 ^ 3000 → y.natAbs < 2 ^ 3000 → 0 ≤ lim → lim ≤ 1500 → exSs (run (funs.map (·.d)) n) [.ret (.call 18 [.call 4 [.var 1, .var 2, .var 3], .call 21 [.var 1, .var 2, .var 3]])] ⟨[some (.sh (.lst (row.map .int))), some (.sh (pr p q)), some (.sh (pr x y)), some (.sh (.int lim))], []⟩ = .rt (.sh (.bl true)) := fun x y lim hx hy h0 h1 => by
    have a1 := least_ok (n := n) (by omega) np nq hx hy h0 h1
    have a2 := first_ok (n := n) (by omega) np nq hx hy h0 h1
    have a3 := sameLe (n := n) (by omega) p q x y lim
    unfold rn at a1 a2 a3
    simp -implicitDefEqProofs [a1, a2, a3]
  have lim : ∃ l : Int, 0 ≤ l ∧ l ≤ 1500 ∧ ixR (.lst [.int r3, .int (r3 + 1), .int (max 0 (r3 - 1)), .int 60, .int 0, .int 200]) (.int r5) = .ok (.int l) := by
    have c : r5 = 0 ∨ r5 = 1 ∨ r5 = 2 ∨ r5 = 3 ∨ r5 = 4 ∨ r5 = 5 := by omega
    rcases c with rfl | rfl | rfl | rfl | rfl | rfl
    · exact ⟨r3, by omega, by omega, rfl⟩
    · exact ⟨r3 + 1, by omega, by omega, rfl⟩
    · exact ⟨max 0 (r3 - 1), by omega, by omega, rfl⟩
    · exact ⟨60, by omega, by omega, rfl⟩
    · exact ⟨0, by omega, by omega, rfl⟩
    · exact ⟨200, by omega, by omega, rfl⟩
  obtain ⟨l, l1, l2, l3⟩ := lim
  have eE : eR = [.set 3 (.idx (.lst [.idx (.var 0) (.int 3), .op .add (.idx (.var 0) (.int 3)) (.int 1), .bi .max2 [.int 0, .op .sub (.idx (.var 0) (.int 3)) (.int 1)], .int 60, .int 0, .int 200]) (.idx (.var 0) (.int 5))),
    .ifs (.and (.op .eq (.idx (.var 0) (.int 2)) (.int 1)) (.op .eq (.idx (.var 0) (.int 6)) (.int 0))) [.set 2 (.tup [.op .add (.int 1) (.idx (.var 0) (.int 0)), .int 1]), .set 3 (.int 1000)] []] ++ [.ret (.call 18 [.call 4 [.var 1, .var 2, .var 3], .call 21 [.var 1, .var 2, .var 3]])] := rfl
  rw [eE, exSs_app]
  have t1 : (1 : Int).natAbs < 2 ^ 3000 := Nat.one_lt_two_pow (by decide)
  have t2 : (1 + r0).natAbs < 2 ^ 3000 := Nat.lt_of_lt_of_le (show (1 + r0).natAbs < 2 ^ 10 by omega) (Nat.pow_le_pow_right (by decide) (by decide))
  have f1 := fin x y l bx bY l1 l2
  have f2 := fin (1 + r0) 1 1000 t2 t1 (by decide) (by decide)
  clear fin
  generalize (2 : Nat) ^ 3000 = M3 at *
  generalize exSs (run (funs.map (·.d)) n) [.ret (.call 18 [.call 4 [.var 1, .var 2, .var 3], .call 21 [.var 1, .var 2, .var 3]])] = K at *
  by_cases z : r2 = 1 ∧ r6 = 0
  · obtain ⟨rfl, rfl⟩ := z
    rw [← f2]
    simp -implicitDefEqProofs [i0, i2, i3, i5, i6, six, two_le_LINE, l3, pr]
  · rw [← f1]
    by_cases z2 : r2 = 1
    · subst z2
      have z6 : (r6 == 0) = false := by simp; omega
      simp -implicitDefEqProofs [i0, i2, i3, i5, i6, six, two_le_LINE, l3, z6]
    · have z6 : (r2 == 1) = false := by simp [z2]
      simp -implicitDefEqProofs [i0, i2, i3, i5, i6, six, two_le_LINE, l3, z6]
end L_onewarmth_k01_powers_and_roots
end

section
set_option Elab.async false
set_option linter.all false
set_option maxRecDepth 100000
/-! k01: the exponents hold. -/
namespace L_onewarmth_k01_powers_and_roots
open R
def sz2 : List Int := [9, 9, 4, 40, 4, 6, 5]
theorem exponents_ok {n : Nat} (h : 4 ≤ n) {row : List Int} (hr : InB row sz2) : rn n 23 [.lst (row.map .int)] = .ok (.sh (.bl true)) := by
  obtain ⟨m, rfl⟩ := u (show 1 ≤ n by omega)
  obtain ⟨r0, e0, b0⟩ := InB.get hr (k := 0) (s := 9) rfl
  obtain ⟨r1, e1, b1⟩ := InB.get hr (k := 1) (s := 9) rfl
  obtain ⟨r2, e2, b2⟩ := InB.get hr (k := 2) (s := 4) rfl
  obtain ⟨r3, e3, b3⟩ := InB.get hr (k := 3) (s := 40) rfl
  obtain ⟨r4, e4, b4⟩ := InB.get hr (k := 4) (s := 4) rfl
  obtain ⟨r5, e5, b5⟩ := InB.get hr (k := 5) (s := 6) rfl
  obtain ⟨r6, e6, b6⟩ := InB.get hr (k := 6) (s := 5) rfl
  obtain ⟨p, q, a, b, h1, h2, h3, h4, h5, h6, h7, h8, sE⟩ := stageE (n := m) (by omega) e0 e1 e2 e3 b0 b1 b2 b3
  obtain ⟨x, y, hx, hy, sF⟩ := stageF (n := m) (by omega) e4 b4 (PP := pr p q) h5 h6 h7 h8
  have sG := stageG (n := m) (by omega) e0 e2 e3 e5 e6 b0 b3 b5 h3 h4 hx hy
  refine un d__law_exponents_hold rfl rfl ?_
  have eb : d__law_exponents_hold.body = eP ++ (eQ ++ eR) := rfl
  have en : enter d__law_exponents_hold.ns [.lst (row.map .int)] = ⟨[some (.sh (.lst (row.map .int))), none, none, none], []⟩ := rfl
  rw [eb, en, exSs_app, sE, Out.nxt_nx, exSs_app, sF, Out.nxt_nx, sG]
  rfl
end L_onewarmth_k01_powers_and_roots
end

section
set_option Elab.async false
set_option linter.all false
set_option maxRecDepth 100000
/-! k01: the roots hold. -/
namespace L_onewarmth_k01_powers_and_roots
open R
/-- the first e that divides d and whose root is there -/
def fD (d : Nat) (rt : Nat → D) : List Nat → Option D
  | [] => none
  | e :: es => if d % e = 0 ∧ (rt e).isNon = false then some (.tup [.int e, rt e]) else fD d rt es
def upN (a : Nat) : Nat → List Nat
  | 0 => []
  | k + 1 => a :: upN (a + 1) k
theorem rng_upN : ∀ (k a : Nat), rng a (a + k : Nat) = (upN a k).map fun e => D.int (e : Nat)
  | 0, a => by rw [rng_nil (by omega)]; rfl
  | k + 1, a => by
    rw [rng_cons (by omega), upN, List.map_cons, ← rng_upN k (a + 1)]
    congr 2
    omega
theorem upN_snoc : ∀ (k a : Nat), upN a (k + 1) = upN a k ++ [a + k]
  | 0, a => rfl
  | k + 1, a => by
    rw [upN, upN_snoc k (a + 1), upN]
    simp
    omega
theorem mem_upN : ∀ {k a e : Nat}, e ∈ upN a k → a ≤ e ∧ e < a + k
  | 0, a, e, h => by cases h
  | k + 1, a, e, h => by
    rw [upN] at h
    rcases List.mem_cons.mp h with rfl | h
    · omega
    · have := mem_upN h
      omega
theorem fD_app {d : Nat} {rt : Nat → D} : ∀ {a b : List Nat}, fD d rt (a ++ b) = match fD d rt a with | some x => some x | none => fD d rt b
  | [], b => rfl
  | e :: a, b => by
    rw [List.cons_append, fD, fD]
    split
    · rfl
    · exact fD_app
/-- the roots of (P, Q) by e, as a def c tells them -/
def Tells (Φ : R.Or) (c : Nat) (X : D) (d : Nat) (rt : Nat → D) : Prop := ∀ e : Nat, 1 ≤ e → e ≤ d → d % e = 0 → Φ c [X, .int ((d / e : Nat) : Int)] = .ok (.sh (rt e))
def tLp : List S := [.ifs (.op .eq (.op .mod (.var 0) (.var 2)) (.int 0)) [.set 3 (.call 6 [.var 1, .op .fdiv (.var 0) (.var 2)]), .ifs (.un .notN (.var 3)) [.ret (.tup [.var 2, .var 3])] []] []]
theorem divs {d e : Nat} (h1 : 1 ≤ e) (h2 : e ≤ d) (hd : d ≤ 1000) : op2 .mod (.int (d : Int)) (.int (e : Int)) = .ok (.int ((d % e : Nat) : Int)) ∧ op2 .fdiv (.int (d : Int)) (.int (e : Int)) = .ok (.int ((d / e : Nat) : Int)) := by
  constructor
  · rw [op2_mod (by omega)]
    simp
  · rw [op2_fdiv (divOk_of (a := 10) (by omega) (by simp; omega) (by decide))]
    simp
theorem lp_loop {Φ : R.Or} {X : D} {d : Nat} {rt : Nat → D} (hd : d ≤ 1000) (ht : Tells Φ 6 X d rt) : ∀ es : List Nat, (∀ e ∈ es, 1 ≤ e ∧ e ≤ d) →
    ∃ s', forR [2, 3] 0 (frB Φ [2] tLp) (es.map fun e => D.int (e : Nat)) ⟨[some (.sh (.int d)), some (.sh X), none, none], []⟩ = (match fD d rt es with | some x => .rt (.sh x) | none => .nx s')
      ∧ (fD d rt es = none → s' = ⟨[some (.sh (.int d)), some (.sh X), none, none], []⟩)
  | [], _ => ⟨_, rfl, fun _ => rfl⟩
  | e :: es, h => by
    obtain ⟨h1, h2⟩ := h e List.mem_cons_self
    obtain ⟨s', ih, ih2⟩ := lp_loop hd ht es fun x hx => h x (List.mem_cons_of_mem _ hx)
    obtain ⟨m1, m2⟩ := divs h1 h2 hd
    rw [List.map_cons, forR_cons, fD]
    by_cases hz : d % e = 0
    · have t := ht e h1 h2 hz
      rw [hz] at m1
      generalize d / e = W at m2 t
      have m1 : op2 .mod (.int (d : Int)) (.int (e : Int)) = .ok (.int 0) := m1
      by_cases hn : (rt e).isNon = false
      · rw [if_pos ⟨hz, hn⟩]
        refine ⟨⟨[], []⟩, ?_, fun q => by cases q⟩
        simp -implicitDefEqProofs [frB, tLp, m1, m2, t, hn, two_le_LINE]
      · rw [if_neg (fun q => hn q.2)]
        have hn : (rt e).isNon = true := by simpa using hn
        refine ⟨s', ?_, ih2⟩
        rw [← ih]
        simp -implicitDefEqProofs [frB, tLp, m1, m2, t, hn]
    · rw [if_neg (fun q => hz q.1)]
      have z : (((d % e : Nat) : Int) == 0) = false := by simp; omega
      refine ⟨s', ?_, ih2⟩
      rw [← ih]
      generalize d % e = M at *
      simp -implicitDefEqProofs [frB, tLp, m1, z]
end L_onewarmth_k01_powers_and_roots
end

section
set_option Elab.async false
set_option linter.all false
set_option maxRecDepth 100000
/-! k01: the due root, and the program's. -/
namespace L_onewarmth_k01_powers_and_roots
open R
def tDue : List S := [.ifs (.and (.un .isN (.var 5)) (.op .eq (.op .mod (.bi .int [(.var 2)]) (.var 6)) (.int 0))) [.set 7 (.call 20 [(.var 1), (.op .fdiv (.var 2) (.var 6))]), .ifs (.un .notN (.var 7)) [.set 5 (.tup [(.var 6), (.var 7)])] []] []]
def st7 (A X C G : Option SV) (d : Nat) (v : D) : PSt := ⟨[A, X, some (.sh (.int d)), C, G, some (.sh v), none, none], []⟩
theorem due_skip {Φ : R.Or} {A X C G : Option SV} {d : Nat} {a b : D} : ∀ es : List Nat,
    forR [6, 7] 0 (frB Φ [6] tDue) (es.map fun e => D.int (e : Nat)) (st7 A X C G d (.tup [a, b])) = .nx (st7 A X C G d (.tup [a, b]))
  | [] => rfl
  | e :: es => by
    rw [List.map_cons, forR_cons]
    have h : nextTurn [6, 7] 0 (frB Φ [6] tDue (D.int (e : Nat)) (st7 A X C G d (.tup [a, b]))) (forR [6, 7] 0 (frB Φ [6] tDue) (es.map fun e => D.int (e : Nat))) = forR [6, 7] 0 (frB Φ [6] tDue) (es.map fun e => D.int (e : Nat)) (st7 A X C G d (.tup [a, b])) := by
      have i : D.isNon (.tup [a, b]) = false := rfl
      simp -implicitDefEqProofs [frB, tDue, st7, i]
    rw [h, due_skip es]
theorem due_loop {Φ : R.Or} {A C G : Option SV} {X : R.D} {d : Nat} {rt : Nat → R.D} (hd : d ≤ 1000) (ht : Tells Φ 20 X d rt) : ∀ es : List Nat, (∀ e ∈ es, 1 ≤ e ∧ e ≤ d) →
    forR [6, 7] 0 (frB Φ [6] tDue) (es.map fun e => D.int (e : Nat)) (st7 A (some (.sh X)) C G d .non) = .nx (st7 A (some (.sh X)) C G d ((fD d rt es).getD .non))
  | [], _ => rfl
  | e :: es, h => by
    obtain ⟨h1, h2⟩ := h e List.mem_cons_self
    have ih := due_loop (A := A) (C := C) (G := G) hd ht es fun x hx => h x (List.mem_cons_of_mem _ hx)
    obtain ⟨m1, m2⟩ := divs h1 h2 hd
    rw [List.map_cons, forR_cons, fD]
    have i0 : D.isNon .non = true := rfl
    by_cases hz : d % e = 0
    · have t := ht e h1 h2 hz
      rw [hz] at m1
      generalize d / e = W at m2 t
      have m1 : op2 .mod (.int (d : Int)) (.int (e : Int)) = .ok (.int 0) := m1
      by_cases hn : (rt e).isNon = false
      · rw [if_pos ⟨hz, hn⟩, Option.getD_some, ← due_skip (Φ := Φ) es]
        simp -implicitDefEqProofs [frB, tDue, st7, i0, m1, m2, t, hn, two_le_LINE]
      · rw [if_neg (fun q => hn q.2)]
        have hn : (rt e).isNon = true := by simpa using hn
        rw [← ih]
        simp -implicitDefEqProofs [frB, tDue, st7, i0, m1, m2, t, hn]
    · rw [if_neg (fun q => hz q.1)]
      have z : (((d % e : Nat) : Int) == 0) = false := by simp; omega
      rw [← ih]
      generalize d % e = M at *
      simp -implicitDefEqProofs [frB, tDue, st7, i0, m1, z]
theorem lpow_ok {n : Nat} {k P Q : Nat} {rt : Nat → D} (hd : k + 1 ≤ 1000) (ht : Tells (rn n) 6 (.lst [.int P, .int Q]) (k + 1) rt) :
    rn (n + 1) 7 [.int (k + 1 : Nat), .lst [.int P, .int Q]] = .ok (.sh ((fD (k + 1) rt (upN 1 k)).getD (.tup [.int (k + 1 : Nat), pr P Q]))) := by
  obtain ⟨s', h1, h2⟩ := lp_loop (X := .lst [.int P, .int Q]) hd ht (upN 1 k) fun e he => by
    have := mem_upN he
    omega
  have rg := rng_upN k 1
  refine un d_least_power rfl rfl ?_
  have ro : rngOk 1 ((k + 1 : Nat) : Int) = true := rngOk_of (by omega) (by omega) (by omega) (by omega) (by omega)
  have e1 : ((1 + k : Nat) : Int) = ((k + 1 : Nat) : Int) := by omega
  rw [e1] at rg
  have rg : rng 1 ((k + 1 : Nat) : Int) = (upN 1 k).map fun e => D.int (e : Nat) := rg
  have eb : d_least_power.body = [.fr .r2 [2] [(.int 1), (.var 0)] tLp [2, 3], .ret (.tup [(.var 0), (.tup [(.idx (.var 1) (.int 0)), (.idx (.var 1) (.int 1))])])] := rfl
  have en : enter d_least_power.ns [.int (k + 1 : Nat), .lst [.int P, .int Q]] = ⟨[some (.sh (.int (k + 1 : Nat))), some (.sh (.lst [.int P, .int Q])), none, none], []⟩ := rfl
  rw [eb, en]
  unfold rn at h1
  generalize k + 1 = d at *
  cases hf : fD d rt (upN 1 k) with
  | some x =>
    rw [hf] at h1
    have h1 : forR [2, 3] 0 (frB (run (funs.map (·.d)) n) [2] tLp) ((upN 1 k).map fun e => D.int (e : Nat)) ⟨[some (.sh (.int d)), some (.sh (.lst [.int P, .int Q])), none, none], []⟩ = .rt (.sh x) := h1
    simp -implicitDefEqProofs [-List.map_map, srcR_r2 ro, rg, h1]
  | none =>
    rw [hf] at h1
    have h2 := h2 hf
    subst h2
    have h1 : forR [2, 3] 0 (frB (run (funs.map (·.d)) n) [2] tLp) ((upN 1 k).map fun e => D.int (e : Nat)) ⟨[some (.sh (.int d)), some (.sh (.lst [.int P, .int Q])), none, none], []⟩ = .nx ⟨[some (.sh (.int d)), some (.sh (.lst [.int P, .int Q])), none, none], []⟩ := h1
    have q0 : ixR (.lst [.int P, .int Q]) (.int 0) = .ok (.int P) := rfl
    have q1 : ixR (.lst [.int P, .int Q]) (.int 1) = .ok (.int Q) := rfl
    simp -implicitDefEqProofs [-List.map_map, srcR_r2 ro, rg, h1, q0, q1, two_le_LINE, pr]
/-- both tell the same roots -/
theorem tell {n : Nat} (h : 3 ≤ n) {k P Q b : Nat} (hP : 1 ≤ P) (hQ : 1 ≤ Q) (bP : P < 2 ^ b) (bQ : Q < 2 ^ b) (hd : k + 1 ≤ 1000) (hb : b ≤ 100000) :
    ∃ rt : Nat → D, Tells (rn n) 6 (.lst [.int P, .int Q]) (k + 1) rt ∧ Tells (rn (n + 1)) 20 (pr P Q) (k + 1) rt ∧ rt (k + 1) = pr P Q ∧ ∀ e, 1 ≤ e → e ≤ k + 1 → (k + 1) % e = 0 → RD (rt e) P Q ((k + 1) / e) := by
  have H : ∀ e : Nat, ∃ r : D, 1 ≤ e → e ≤ k + 1 → RD r P Q ((k + 1) / e) ∧ rn n 6 [.lst [.int P, .int Q], .int (((k + 1) / e : Nat) : Int)] = .ok (.sh r) ∧ rn (n + 1) 20 [pr P Q, .int (((k + 1) / e : Nat) : Int)] = .ok (.sh r) := fun e => by
    by_cases he : 1 ≤ e ∧ e ≤ k + 1
    · have q1 : 1 ≤ (k + 1) / e := Nat.div_pos he.2 he.1
      have q2 : (k + 1) / e ≤ 1000 := Nat.le_trans (Nat.div_le_self _ _) hd
      obtain ⟨r, r1, r2⟩ := root_ok h (parts_lst P Q) hP hQ bP bQ q1 q2 hb
      obtain ⟨r', r1', r2'⟩ := lroots_ok (n := n + 1) (by omega) (parts_pr P Q) hP hQ bP bQ q1 q2 hb
      rw [RD.one q1 r1' r1] at r2'
      exact ⟨r, fun _ _ => ⟨r1, r2, r2'⟩⟩
    · exact ⟨.non, fun a b => absurd ⟨a, b⟩ he⟩
  obtain ⟨rt, hr⟩ := Classical.axiomOfChoice H
  refine ⟨rt, fun e h1 h2 _ => (hr e h1 h2).2.1, fun e h1 h2 _ => (hr e h1 h2).2.2, ?_, fun e h1 h2 _ => (hr e h1 h2).1⟩
  have := (hr (k + 1) (by omega) (by omega)).1
  rw [Nat.div_self (by omega)] at this
  exact RD.one (by omega) this ⟨.int P, .int Q, Or.inl ⟨P, hP, Nat.pow_one P, rfl⟩, Or.inl ⟨Q, hQ, Nat.pow_one Q, rfl⟩, rfl⟩
theorem fD_top {k : Nat} {rt : Nat → D} {x : D} (h : rt (k + 1) = x) (hx : x.isNon = false) : (fD (k + 1) rt (upN 1 (k + 1))).getD .non = (fD (k + 1) rt (upN 1 k)).getD (.tup [.int (k + 1 : Nat), x]) := by
  rw [upN_snoc, fD_app]
  cases fD (k + 1) rt (upN 1 k) with
  | some y => rfl
  | none =>
    have e : 1 + k = k + 1 := by omega
    show (fD (k + 1) rt [1 + k]).getD .non = _
    rw [e, fD, if_pos ⟨Nat.mod_self _, by rw [h]; exact hx⟩, h]
    rfl
theorem fD_mem {d : Nat} {rt : Nat → D} {x : D} : ∀ {es : List Nat}, fD d rt es = some x → ∃ e, e ∈ es ∧ d % e = 0 ∧ x = .tup [.int e, rt e]
  | [], h => by cases h
  | e :: es, h => by
    rw [fD] at h
    split at h
    · next c => exact ⟨e, List.mem_cons_self, c.1, (Option.some.inj h).symm⟩
    · obtain ⟨e', h1, h2, h3⟩ := fD_mem h
      exact ⟨e', List.mem_cons_of_mem _ h1, h2, h3⟩
end L_onewarmth_k01_powers_and_roots
end

section
set_option Elab.async false
set_option linter.all false
set_option maxRecDepth 100000
/-! k01: the roots hold. -/
namespace L_onewarmth_k01_powers_and_roots
open R
def rA : List S := d__law_roots_hold.body.take 3
def rB : List S := (d__law_roots_hold.body.drop 3).take 3
def rC : List S := (d__law_roots_hold.body.drop 6).take 1
def rE : List S := (d__law_roots_hold.body.drop 7).take 4
def rF : List S := d__law_roots_hold.body.drop 11
theorem stageI {n : Nat} (h : 2 ≤ n) {row : List Int} {r0 r1 r2 r3 r4 : Int} (e0 : row[0]? = some r0) (e1 : row[1]? = some r1) (e2 : row[2]? = some r2) (e3 : row[3]? = some r3) (e4 : row[4]? = some r4) (b0 : 0 ≤ r0 ∧ r0 < 14) (b1 : 0 ≤ r1 ∧ r1 < 14) (b2 : 0 ≤ r2 ∧ r2 < 60) (b4 : 0 ≤ r4 ∧ r4 < 22) :
    ∃ p q d : Nat, 1 ≤ p ∧ 1 ≤ q ∧ 1 ≤ d ∧ d ≤ 1000 ∧ p ^ d < 2 ^ 900 ∧ q ^ d < 2 ^ 900 ∧ exSs (run (funs.map (·.d)) n) rA ⟨[some (.sh (.lst (row.map .int))), none, none, none, none, none, none, none], []⟩ = .nx ⟨[some (.sh (.lst (row.map .int))), some (.sh (pr p q)), some (.sh (.int d)), none, none, none, none, none], []⟩ := by
  have i0 := ixRow e0
  simp only [Int.natCast_zero, Int.ofNat_zero] at i0
  have i1 : ixR (.lst (row.map .int)) (.int 1) = .ok (.int r1) := ixRow e1
  have i2 : ixR (.lst (row.map .int)) (.int 2) = .ok (.int r2) := ixRow e2
  have i3 : ixR (.lst (row.map .int)) (.int 3) = .ok (.int r3) := ixRow e3
  have i4 : ixR (.lst (row.map .int)) (.int 4) = .ok (.int r4) := ixRow e4
  have d0 := op2_mod (i := r0) (j := 3) (by decide)
  have d1 := op2_mod (i := r1) (j := 3) (by decide)
  have m := op2_mul (mul_small (i := 19) (j := r4) (by decide) (by omega))
  have f1 := frac_ok (n := n) h (t := 1 + r0) (b := 1 + r1) (B := 10) (by omega) (by omega) (by decide)
  obtain ⟨p1, q1, g1, g2, g3, g4, g5⟩ := frac_small (t := 1 + r0) (b := 1 + r1) (B := 10) (by omega) (by omega) (by omega) (by omega)
  have f2 := frac_ok (n := n) h (t := 1 + r0 % 3) (b := 1 + r1 % 3) (B := 10) (by omega) (by omega) (by decide)
  obtain ⟨p2, q2, k1, k2, k3, k4, k5⟩ := frac_small (t := 1 + r0 % 3) (b := 1 + r1 % 3) (B := 10) (by omega) (by omega) (by omega) (by omega)
  unfold rn at f1 f2
  rw [g1] at f1
  rw [k1] at f2
  have small : ∀ x a d : Nat, x < 2 ^ a → a * d < 900 → x ^ d < 2 ^ 900 := fun x a d hx hd => by
    have l1 : x ^ d ≤ (2 ^ a) ^ d := Nat.pow_le_pow_left (Nat.le_of_lt hx) _
    rw [← Nat.pow_mul] at l1
    exact Nat.lt_of_le_of_lt l1 (Nat.pow_lt_pow_right (by decide) hd)
  have eA : rA = [.set 1 (.call 12 [(.op .add (.int 1) (.idx (.var 0) (.int 0))), (.op .add (.int 1) (.idx (.var 0) (.int 1)))]), .set 2 (.op .add (.int 1) (.idx (.var 0) (.int 2))), .ifs (.op .eq (.idx (.var 0) (.int 3)) (.int 0)) [.set 2 (.op .add (.int 1) (.op .mul (.int 19) (.idx (.var 0) (.int 4)))), .set 1 (.call 12 [(.op .add (.int 1) (.op .mod (.bi .int [(.idx (.var 0) (.int 0))]) (.int 3))), (.op .add (.int 1) (.op .mod (.bi .int [(.idx (.var 0) (.int 1))]) (.int 3)))])] []] := rfl
  rw [eA]
  by_cases z : r3 = 0
  · subst z
    have c : (((1 + 19 * r4).toNat : Nat) : Int) = 1 + 19 * r4 := by omega
    refine ⟨p2, q2, (1 + 19 * r4).toNat, k2, k3, by omega, by omega, small _ 2 _ (by omega) (by omega), small _ 2 _ (by omega) (by omega), ?_⟩
    rw [c]
    simp -implicitDefEqProofs [i0, i1, i2, i3, i4, d0, d1, m, f1, f2]
  · have z' : (r3 == 0) = false := by simp [z]
    have c : (((1 + r2).toNat : Nat) : Int) = 1 + r2 := by omega
    refine ⟨p1, q1, (1 + r2).toNat, g2, g3, by omega, by omega, small _ 4 _ (by omega) (by omega), small _ 4 _ (by omega) (by omega), ?_⟩
    rw [c]
    simp -implicitDefEqProofs [i0, i1, i2, i3, f1, z, z']
theorem stageJ {n : Nat} (h : 2 ≤ n) {row : List Int} {r5 : Int} (e5 : row[5]? = some r5) {p q d : Nat} (hp : 1 ≤ p) (hq : 1 ≤ q) (bp : p ^ d < 2 ^ 900) (bq : q ^ d < 2 ^ 900) :
    ∃ P Q : Nat, 1 ≤ P ∧ 1 ≤ Q ∧ P < 2 ^ 901 ∧ Q < 2 ^ 901 ∧ exSs (run (funs.map (·.d)) n) rB ⟨[some (.sh (.lst (row.map .int))), some (.sh (pr p q)), some (.sh (.int d)), none, none, none, none, none], []⟩ = .nx ⟨[some (.sh (.lst (row.map .int))), some (.sh (pr p q)), some (.sh (.int d)), some (.sh (pr P Q)), none, none, none, none], []⟩ := by
  have i5 : ixR (.lst (row.map .int)) (.int 5) = .ok (.int r5) := ixRow e5
  have fp := fpow_ok (n := n) (e := (d : Int)) h (B := 900) (by decide) hp hq bp bq
  unfold rn powD at fp
  rw [if_neg (by omega)] at fp
  have fp : run (funs.map (·.d)) n 17 [pr p q, .int d] = .ok (.sh (pr (p ^ d : Nat) (q ^ d : Nat))) := fp
  have hP : 1 ≤ p ^ d := Nat.pow_pos hp
  have hQ : 1 ≤ q ^ d := Nat.pow_pos hq
  have eB : rB = [.set 3 (.call 17 [(.var 1), (.var 2)]), .ifs (.op .eq (.idx (.var 0) (.int 5)) (.int 1)) [.set 3 (.call 12 [(.op .add (.idx (.var 3) (.int 0)) (.int 1)), (.idx (.var 3) (.int 1))])] [], .ifs (.op .eq (.idx (.var 0) (.int 5)) (.int 2)) [.set 3 (.call 12 [(.idx (.var 3) (.int 0)), (.op .add (.idx (.var 3) (.int 1)) (.int 1))])] []] := rfl
  rw [eB]
  generalize p ^ d = A at *
  generalize q ^ d = B at *
  have j0 : ∀ a b : Int, ixR (pr a b) (.int 0) = .ok (.int a) := fun _ _ => rfl
  have j1 : ∀ a b : Int, ixR (pr a b) (.int 1) = .ok (.int b) := fun _ _ => rfl
  obtain ⟨N, hN, hN2, hN3⟩ : ∃ N : Nat, N = 901 ∧ N < 9000 ∧ ∀ x : Nat, x < 2 ^ 900 → x + 1 < 2 ^ N := ⟨901, rfl, by decide, fun x hx => by
    have two : (2 : Nat) ^ 901 = 2 * 2 ^ 900 := by rw [Nat.pow_succ, Nat.mul_comm]
    have w : 1 < 2 ^ 900 := Nat.one_lt_two_pow (by decide)
    omega⟩
  rw [show (901 : Nat) = N from hN.symm] at *
  have bA := hN3 A bp
  have bB := hN3 B bq
  have bA' : ((A : Int) + 1) < 2 ^ N := by exact_mod_cast bA
  have bB' : ((B : Int) + 1) < 2 ^ N := by exact_mod_cast bB
  clear hN3 bp bq
  by_cases z1 : r5 = 1
  · subst z1
    have f1 := frac_ok (n := n) h (t := (A : Int) + 1) (b := B) (B := N) (by omega) (by omega) hN2
    obtain ⟨p1, q1, g1, g2, g3, g4, g5⟩ := frac_small (t := (A : Int) + 1) (b := B) (B := N) (by omega) (by omega) (by omega) (by omega)
    unfold rn at f1
    rw [g1] at f1
    refine ⟨p1, q1, g2, g3, by omega, by omega, ?_⟩
    simp -implicitDefEqProofs [i5, fp, j0, j1, f1]
  · by_cases z2 : r5 = 2
    · subst z2
      have f1 := frac_ok (n := n) h (t := (A : Int)) (b := (B : Int) + 1) (B := N) (by omega) (by omega) hN2
      obtain ⟨p1, q1, g1, g2, g3, g4, g5⟩ := frac_small (t := (A : Int)) (b := (B : Int) + 1) (B := N) (by omega) (by omega) (by omega) (by omega)
      unfold rn at f1
      rw [g1] at f1
      refine ⟨p1, q1, g2, g3, by omega, by omega, ?_⟩
      simp -implicitDefEqProofs [i5, fp, j0, j1, f1]
    · have z1' : (r5 == 1) = false := by simp [z1]
      have z2' : (r5 == 2) = false := by simp [z2]
      refine ⟨A, B, hP, hQ, by omega, by omega, ?_⟩
      simp -implicitDefEqProofs [i5, fp, z1, z1', z2, z2']
theorem stageK {n : Nat} (h : 4 ≤ n) {P Q d : Nat} (hP : 1 ≤ P) (hQ : 1 ≤ Q) (bP : P < 2 ^ 901) (bQ : Q < 2 ^ 901) (h1 : 1 ≤ d) (h2 : d ≤ 1000) (A B : Option SV) :
    exSs (run (funs.map (·.d)) n) rC ⟨[A, B, some (.sh (.int d)), some (.sh (pr P Q)), none, none, none, none], []⟩ = .nx ⟨[A, B, some (.sh (.int d)), some (.sh (pr P Q)), none, none, none, none], []⟩ := by
  obtain ⟨r, r1, r2⟩ := root_ok (n := n) (by omega) (parts_pr P Q) hP hQ bP bQ h1 h2 (by decide)
  obtain ⟨r', r1', r2'⟩ := lroots_ok (n := n) (by omega) (parts_pr P Q) hP hQ bP bQ h1 h2 (by decide)
  rw [RD.one h1 r1' r1] at r2'
  have s := sameR (n := n) (by omega) r1
  unfold rn at r2 r2' s
  have eC : rC = [.ifs (.not (.call 18 [(.call 6 [(.var 3), (.var 2)]), (.call 20 [(.var 3), (.var 2)])])) [.ret (.bl false)] []] := rfl
  rw [eC]
  simp -implicitDefEqProofs [r2, r2', s]
theorem stageL {n : Nat} (h : 2 ≤ n) {row : List Int} {r0 r1 r6 r7 : Int} (e0 : row[0]? = some r0) (e1 : row[1]? = some r1) (e6 : row[6]? = some r6) (e7 : row[7]? = some r7) (b0 : 0 ≤ r0 ∧ r0 < 14) (b1 : 0 ≤ r1 ∧ r1 < 14) (b6 : 0 ≤ r6 ∧ r6 < 12) (b7 : 0 ≤ r7 ∧ r7 < 8) (B G C : Option SV) :
    ∃ (P Q k : Nat) (L : Option SV), 1 ≤ P ∧ 1 ≤ Q ∧ P < 2 ^ 50 ∧ Q < 2 ^ 50 ∧ k + 1 ≤ 1000 ∧ exSs (run (funs.map (·.d)) n) rE ⟨[some (.sh (.lst (row.map .int))), B, G, C, none, none, none, none], []⟩ = .nx (st7 (some (.sh (.lst (row.map .int)))) (some (.sh (pr P Q))) C L (k + 1) .non) := by
  have i0 := ixRow e0
  simp only [Int.natCast_zero, Int.ofNat_zero] at i0
  have i1 : ixR (.lst (row.map .int)) (.int 1) = .ok (.int r1) := ixRow e1
  have i6 : ixR (.lst (row.map .int)) (.int 6) = .ok (.int r6) := ixRow e6
  have i7 : ixR (.lst (row.map .int)) (.int 7) = .ok (.int r7) := ixRow e7
  have d0 := op2_mod (i := r0) (j := 9) (by decide)
  have d1 := op2_mod (i := r1) (j := 7) (by decide)
  have m := op2_mul (mul_small (i := 1 + r6) (j := 1 + r7) (by omega) (by omega))
  have f1 := frac_ok (n := n) h (t := 1 + r0 % 9) (b := 1 + r1 % 7) (B := 10) (by omega) (by omega) (by decide)
  obtain ⟨p1, q1, g1, g2, g3, g4, g5⟩ := frac_small (t := 1 + r0 % 9) (b := 1 + r1 % 7) (B := 10) (by omega) (by omega) (by omega) (by omega)
  unfold rn at f1
  rw [g1] at f1
  have small : ∀ x a d : Nat, x < 2 ^ a → a * d < 50 → x ^ d < 2 ^ 50 := fun x a d hx hd => by
    have l1 : x ^ d ≤ (2 ^ a) ^ d := Nat.pow_le_pow_left (Nat.le_of_lt hx) _
    rw [← Nat.pow_mul] at l1
    exact Nat.lt_of_le_of_lt l1 (Nat.pow_lt_pow_right (by decide) hd)
  have sp := small p1 4 (1 + r7).natAbs (by omega) (by omega)
  have sq := small q1 4 (1 + r7).natAbs (by omega) (by omega)
  have fp := fpow_ok (n := n) (e := 1 + r7) h (B := 50) (by decide) g2 g3 sp sq
  unfold rn powD at fp
  rw [if_neg (by omega)] at fp
  have hP : 1 ≤ p1 ^ (1 + r7).natAbs := Nat.pow_pos g2
  have hQ : 1 ≤ q1 ^ (1 + r7).natAbs := Nat.pow_pos g3
  have eE : rE = [.set 4 (.op .add (.int 1) (.idx (.var 0) (.int 6))), .set 2 (.op .mul (.var 4) (.op .add (.int 1) (.idx (.var 0) (.int 7)))), .set 1 (.call 17 [(.call 12 [(.op .add (.int 1) (.op .mod (.bi .int [(.idx (.var 0) (.int 0))]) (.int 9))), (.op .add (.int 1) (.op .mod (.bi .int [(.idx (.var 0) (.int 1))]) (.int 7)))]), (.op .add (.int 1) (.idx (.var 0) (.int 7)))]), .set 5 .non] := rfl
  rw [eE]
  have hk : ∃ k : Nat, ((k + 1 : Nat) : Int) = (1 + r6) * (1 + r7) ∧ k + 1 ≤ 1000 := by
    have c : 1 ≤ (1 + r6) * (1 + r7) := Int.le_trans (by decide) (Int.mul_le_mul (a := 1) (b := 1) (by omega) (by omega) (by decide) (by omega))
    have c2 : (1 + r6) * (1 + r7) ≤ 12 * 8 := Int.mul_le_mul (by omega) (by omega) (by omega) (by decide)
    generalize (1 + r6) * (1 + r7) = K at *
    exact ⟨(K - 1).toNat, by omega, by omega⟩
  obtain ⟨k, hk1, hk2⟩ := hk
  rw [← hk1] at m
  refine ⟨p1 ^ (1 + r7).natAbs, q1 ^ (1 + r7).natAbs, k, some (.sh (.int (1 + r6))), hP, hQ, sp, sq, hk2, ?_⟩
  generalize p1 ^ (1 + r7).natAbs = PP at *
  generalize q1 ^ (1 + r7).natAbs = QQ at *
  unfold st7
  generalize k + 1 = K at *
  simp -implicitDefEqProofs [i0, i1, i6, i7, d0, d1, m, f1, fp]
theorem stageM {n : Nat} (h : 5 ≤ n) {P Q k : Nat} (hP : 1 ≤ P) (hQ : 1 ≤ Q) (bP : P < 2 ^ 50) (bQ : Q < 2 ^ 50) (hk : k + 1 ≤ 1000) (A C L : Option SV) :
    exSs (run (funs.map (·.d)) n) rF (st7 A (some (.sh (pr P Q))) C L (k + 1) .non) = .rt (.sh (.bl true)) := by
  obtain ⟨m, rfl⟩ := u (show 1 ≤ n by omega)
  obtain ⟨rt, t1, t2, t3, t4⟩ := tell (n := m) (by omega) hP hQ bP bQ hk (by decide)
  have l := lpow_ok hk t1
  unfold rn at t2
  have dl := due_loop (A := A) (C := C) (G := L) hk t2 (upN 1 (k + 1)) fun e he => by
    have := mem_upN he
    omega
  have rg := rng_upN (k + 1) 1
  have top := fD_top (k := k) t3 rfl
  have mem : ∀ x, (fD (k + 1) rt (upN 1 (k + 1))).getD .non = x → rn (m + 1) 18 [x, x] = .ok (.sh (.bl true)) := fun x hx => by
    cases hf : fD (k + 1) rt (upN 1 (k + 1)) with
    | none =>
      rw [hf] at hx
      subst hx
      exact sameN (by omega)
    | some y =>
      rw [hf] at hx
      have hx : y = x := hx
      subst hx
      obtain ⟨e, e1, e2, e3⟩ := fD_mem hf
      have e1 := mem_upN e1
      subst e3
      refine sameT (by omega) (by show 2 < 1000000; decide) fun z hz => ?_
      rcases List.mem_cons.mp hz with rfl | hz
      · exact sameI (by omega) _
      · rw [List.mem_singleton.mp hz]
        exact sameR (by omega) (t4 e (by omega) (by omega) e2)
  have mm := mem _ rfl
  rw [← top] at l
  generalize (fD (k + 1) rt (upN 1 (k + 1))).getD .non = V at *
  have ro : rngOk 1 (((k + 1 : Nat) : Int) + 1) = true := rngOk_of (by omega) (by omega) (by omega) (by omega) (by omega)
  have e1 : ((1 + (k + 1) : Nat) : Int) = ((k + 1 : Nat) : Int) + 1 := by omega
  rw [e1] at rg
  have rg : rng 1 (((k + 1 : Nat) : Int) + 1) = (upN 1 (k + 1)).map fun e => D.int (e : Nat) := rg
  have bl : bi .list [pr P Q] = .ok (.lst [.int P, .int Q]) := rfl
  have eF : rF = [.fr .r2 [6] [(.int 1), (.op .add (.var 2) (.int 1))] tDue [6, 7], .ret (.call 18 [(.call 7 [(.var 2), (.bi .list [(.var 1)])]), (.var 5)])] := rfl
  rw [eF]
  unfold rn at l mm
  unfold st7 at *
  generalize upN 1 (k + 1) = U at *
  generalize k + 1 = K at *
  simp -implicitDefEqProofs [-List.map_map, srcR_r2 ro, rg, dl, bl, l, mm]
def sz3 : List Int := [14, 14, 60, 9, 22, 3, 12, 8]
theorem roots_ok {n : Nat} (h : 6 ≤ n) {row : List Int} (hr : InB row sz3) : rn n 24 [.lst (row.map .int)] = .ok (.sh (.bl true)) := by
  obtain ⟨m, rfl⟩ := u (show 1 ≤ n by omega)
  obtain ⟨r0, e0, b0⟩ := InB.get hr (k := 0) (s := 14) rfl
  obtain ⟨r1, e1, b1⟩ := InB.get hr (k := 1) (s := 14) rfl
  obtain ⟨r2, e2, b2⟩ := InB.get hr (k := 2) (s := 60) rfl
  obtain ⟨r3, e3, b3⟩ := InB.get hr (k := 3) (s := 9) rfl
  obtain ⟨r4, e4, b4⟩ := InB.get hr (k := 4) (s := 22) rfl
  obtain ⟨r5, e5, b5⟩ := InB.get hr (k := 5) (s := 3) rfl
  obtain ⟨r6, e6, b6⟩ := InB.get hr (k := 6) (s := 12) rfl
  obtain ⟨r7, e7, b7⟩ := InB.get hr (k := 7) (s := 8) rfl
  obtain ⟨p, q, d, h1, h2, h3, h4, h5, h6, sI⟩ := stageI (n := m) (by omega) e0 e1 e2 e3 e4 b0 b1 b2 b4
  obtain ⟨P, Q, g1, g2, g3, g4, sJ⟩ := stageJ (n := m) (by omega) e5 h1 h2 h5 h6
  have sK := stageK (n := m) (by omega) g1 g2 g3 g4 h3 h4
  obtain ⟨P', Q', k, L, k1, k2, k3, k4, k5, sL⟩ := stageL (n := m) (by omega) e0 e1 e6 e7 b0 b1 b6 b7 (some (.sh (pr p q))) (some (.sh (.int d))) (some (.sh (pr P Q)))
  have sM := stageM (n := m) (by omega) k1 k2 k3 k4 k5
  refine un d__law_roots_hold rfl rfl ?_
  have eb : d__law_roots_hold.body = rA ++ (rB ++ (rC ++ (rE ++ rF))) := rfl
  have en : enter d__law_roots_hold.ns [.lst (row.map .int)] = ⟨[some (.sh (.lst (row.map .int))), none, none, none, none, none, none, none], []⟩ := rfl
  rw [eb, en, exSs_app, sI, Out.nxt_nx, exSs_app, sJ, Out.nxt_nx, exSs_app, sK, Out.nxt_nx, exSs_app, sL, Out.nxt_nx, sM]
  rfl
end L_onewarmth_k01_powers_and_roots
end

section
set_option Elab.async false
set_option linter.all false
set_option maxRecDepth 100000
/-! k01: the law. -/
namespace L_onewarmth_k01_powers_and_roots
open R
theorem row_ok {n : Nat} (h : 1 ≤ n) {ns : List Int} (hl : ns.length < 1000000) {k : Nat} (hk : k < 1000000) {sizes : List Int} (hs : SizesOk sizes) :
    ∃ (c : Int) (row : List Int), rn n 9 [.fz (ns.map .int), .int k] = .ok (.sh (.int c)) ∧ InB row sizes ∧ rn n 10 [.int c, .lst (sizes.map .int)] = .ok (.sh (.lst (row.map .int))) := by
  obtain ⟨c, hc⟩ := cell_ok h hl hk
  obtain ⟨row, r1, r2⟩ := dig_ok h c hs
  exact ⟨c, row, hc, r1, r2⟩
theorem sizesOk_of {l : List Int} (h : (l.all fun s => decide (0 < s) && decide (s < 2 ^ 62)) = true) (hl : l.length < 100000) : SizesOk l :=
  ⟨hl, fun s hs => by
    have := (List.all_eq_true.mp h) s hs
    simpa using this⟩
theorem sz1_eq : op2 .add (.lst [.int 12, .int 12, .int 4, .int 9, .int 81, .int 9, .int 7]) (.lst [.int 30, .int 61, .int 30, .int 61, .int 30, .int 61, .int 30, .int 61, .int 30, .int 61, .int 30, .int 61]) = .ok (.lst (sz1.map .int)) := by
  have l := LINE_big
  rw [op2]
  exact if_pos (show 7 + 12 ≤ LINE by omega)
theorem sz1_mul : op2 .mul (.lst [.int 30, .int 61]) (.int 6) = .ok (.lst [.int 30, .int 61, .int 30, .int 61, .int 30, .int 61, .int 30, .int 61, .int 30, .int 61, .int 30, .int 61]) := by
  have l := LINE_big
  rw [op2]
  have h : decide (([D.int 30, D.int 61] : List D).length * (6 : Int).toNat ≤ LINE) = true := decide_eq_true (show 12 ≤ LINE by omega)
  rw [h]
  rfl
theorem law_true (ns : List Int) (h : ns.length ≤ 63) : run (funs.map (·.d)) 100 25 [.fz (ns.map .int)] = .ok (.sh (.bl true)) := by
  obtain ⟨c1, w1, a1, a2, a3⟩ := row_ok (n := 99) (by decide) (ns := ns) (by omega) (k := 0) (by decide) (sizes := sz1) (sizesOk_of (by decide) (by decide))
  obtain ⟨c2, w2, b1, b2, b3⟩ := row_ok (n := 99) (by decide) (ns := ns) (by omega) (k := 1) (by decide) (sizes := sz2) (sizesOk_of (by decide) (by decide))
  obtain ⟨c3, w3, d1, d2, d3⟩ := row_ok (n := 99) (by decide) (ns := ns) (by omega) (k := 2) (by decide) (sizes := sz3) (sizesOk_of (by decide) (by decide))
  have p1 := powers_ok (n := 99) (by decide) a2
  have p2 := exponents_ok (n := 99) (by decide) b2
  have p3 := roots_ok (n := 99) (by decide) d2
  unfold rn at *
  refine un (n := 99) d_law rfl rfl ?_
  have l := LINE_big
  have l7 : 7 ≤ LINE := by omega
  have l8 : 8 ≤ LINE := by omega
  have m0 := sz1_mul
  have m1 := sz1_eq
  have a1 : run (funs.map (·.d)) 99 9 [.fz (ns.map .int), .int 0] = .ok (.sh (.int c1)) := a1
  have b1 : run (funs.map (·.d)) 99 9 [.fz (ns.map .int), .int 1] = .ok (.sh (.int c2)) := b1
  have d1 : run (funs.map (·.d)) 99 9 [.fz (ns.map .int), .int 2] = .ok (.sh (.int c3)) := d1
  have b3 : run (funs.map (·.d)) 99 10 [.int c2, .lst [.int 9, .int 9, .int 4, .int 40, .int 4, .int 6, .int 5]] = .ok (.sh (.lst (w2.map .int))) := b3
  have d3 : run (funs.map (·.d)) 99 10 [.int c3, .lst [.int 14, .int 14, .int 60, .int 9, .int 22, .int 3, .int 12, .int 8]] = .ok (.sh (.lst (w3.map .int))) := d3
  generalize sz1.map D.int = Z at *
  simp -implicitDefEqProofs [d_law, a1, b1, d1, m0, m1, a3, b3, d3, p1, p2, p3, l7, l8, two_le_LINE]
end L_onewarmth_k01_powers_and_roots
end

section
set_option Elab.async false
set_option linter.all false
set_option maxRecDepth 100000
set_option maxHeartbeats 0
namespace L_onewarmth_k01_powers_and_roots
open PySem PySem.Spec PyProof.Rows L2
abbrev RR : PySem.W.OpenRow := PySem.W.OpenLaw.row PySem.Challenge.rw_onewarmth_k01_powers_and_roots
abbrev hk : PySem.W.Hook := R.hookG 4 (R.faOf funs) (funs.map R.Fun.dd) (R.exOf true)
def ob (s : PySem.W.SharedT) : He.AlD × Bool := R.obsG 4 (R.faOf funs) (funs.map R.Fun.dd) (R.exOf true) (HandSHeadRun.getT s)
theorem ob_eq (s : PySem.W.SharedT) : ob s = hk.obs s.abs := R.obsG_eq (HandSHeadRun.getT_eq s)
def loose : List Str := ([("gcd" : Str), ("WarmthError" : Str), ("NoRatio" : Str), ("ratio" : Str), ("whole_power" : Str), ("power" : Str), ("power_product" : Str), ("least_exponent" : Str), ("whole_root" : Str), ("root" : Str), ("least_power" : Str), ("_law_whole" : Str), ("_law_cell" : Str), ("_law_digits" : Str), ("_law_gcd" : Str), ("_law_fraction" : Str), ("_law_added" : Str), ("_law_less" : Str), ("_law_power" : Str), ("_law_product" : Str)] : List Str) ++ ([("_law_fraction_power" : Str), ("_law_same" : Str), ("_law_whole_root" : Str), ("_law_fraction_root" : Str), ("_law_first_exponent" : Str), ("_law_powers_hold" : Str), ("_law_exponents_hold" : Str), ("_law_roots_hold" : Str)] : List Str)
theorem hrunT (w : World) : HandSHeadRun.RunEqI RR (PySem.W.view RR.prog [0, 32]) hk ob 3000 loose w := by
  unfold HandSHeadRun.RunEqI
  kernel_rfl
end L_onewarmth_k01_powers_and_roots
open PySem PySem.W PySem.Calls PyProof.Rows
theorem PySem.Challenge.cw_onewarmth_k01_powers_and_roots_holds : PySem.Challenge.rw_onewarmth_k01_powers_and_roots.Holds := by
  w_on; o_law
  refine HandSHeadRun.head_imp (r := OpenLaw.row PySem.Challenge.rw_onewarmth_k01_powers_and_roots) (q := view (OpenLaw.row PySem.Challenge.rw_onewarmth_k01_powers_and_roots).prog [0, 32]) (H := L_onewarmth_k01_powers_and_roots.hk) (ob := L_onewarmth_k01_powers_and_roots.ob) (M := 3000) (loose := L_onewarmth_k01_powers_and_roots.loose) (d := HandSHeadRun.topDef (OpenLaw.row PySem.Challenge.rw_onewarmth_k01_powers_and_roots).prog 32) (kwd := []) L_onewarmth_k01_powers_and_roots.ob_eq
    L_onewarmth_k01_powers_and_roots.hrunT (by kernel_rfl) (by kernel_rfl) (by kernel_rfl) (by rfl) (by first | assumption | decide +kernel) (by decide +kernel) ⟨rfl, rfl, rfl, rfl, rfl, by decide +kernel⟩ ?hw ?hc
  case hw => w_witness2
  case hc =>
    refine L2.walk_ofE (l := PySem.Challenge.rw_onewarmth_k01_powers_and_roots) (n := 63) (k := 100) (x := "script") (CX := R.CXa) rfl (by decide) (by kernel_rfl) ⟨rfl, by decide, by decide⟩ ?F (fun _ _ _ _ z => R.CXa_not z)
    intro w mg fa h Y G hmg0
    obtain ⟨K, KX, c, ce⟩ := Y
    have hmg : mg ("law" : PySem.Str) = some (.ref fa) := by
      have e : (HandSHeadRun.topDef (OpenLaw.row PySem.Challenge.rw_onewarmth_k01_powers_and_roots).prog 32).name = ("law" : PySem.Str) := by kernel_rfl
      rw [← e]
      exact hmg0
    exact R.law_of (i := 25) (fl := L_onewarmth_k01_powers_and_roots.f_law) KX G c ce L_onewarmth_k01_powers_and_roots.chk rfl rfl hmg L_onewarmth_k01_powers_and_roots.law_true
end
