import PyProof.Rows.All
import HandS.ForMost
import HandS.Exc
import HandS.Wide
import HandS.Gcd
import HandS.IsInst
import HandS.Style
import HandS.Zip
import HandS.TupAny
import HandS.Conv
import HandS.SortInts
import HandS.SortRule
import HandS.Defaults
import HandS.Property
import HandS.WordsExc
import HandS.ExcOwn
import HandS.WideBits
import HandS.HeadHook1
import HandS.Lambda
import KE.SortKeyHeap
import HandS.Rev
import HandS.TryOnly
import HandS.HeadHook2
import HandS.ForExc
import HandS.Head0
import HandS.Head1
import HandS.Head2
import HandS.HeadEnd
import HandS.Head3
import KE.KStateDown
import HandS.EndTab
import PySem.Challenge.RW_onewarmth_k75_walk_bounds_whole
set_option linter.all false
set_option Elab.async false
section
set_option Elab.async false
set_option linter.all false
set_option maxRecDepth 100000
/-! R1: plain data, the compact form of a def, its plain meaning. -/
namespace R
open PySem

/-! ### data -/
inductive D where
  | non | bl (b : Bool) | int (i : Int) | str (s : Str) | tup (xs : List D) | lst (xs : List D) | obj (c : Nat) (xs : List D)
  /-- a list that nobody changes (the script) -/
  | fz (xs : List D)

/-- no list within (nor an object with one) -/
def D.noL : D → Bool
  | .non => true | .bl _ => true | .int _ => true | .str _ => true
  | .tup xs => noLs xs
  | .lst _ => false
  | .obj _ xs => noLs xs
  | .fz _ => false
where noLs : List D → Bool
  | [] => true
  | d :: ds => d.noL && noLs ds

/-- a value with its own lists told apart -/
inductive T where
  | sh (d : D) | ow (ts : List T)
def T.d : T → D
  | .sh d => d
  | .ow ts => .lst (ds ts)
where ds : List T → List D
  | [] => []
  | t :: ts => t.d :: ds ts
def T.noL : T → Bool
  | .sh d => d.noL
  | .ow ts => noLs ts
where noLs : List T → Bool
  | [] => true
  | t :: ts => t.noL && noLs ts

inductive Res (α : Type) where
  | ok (a : α) | ex (c : Nat) (fs : List D) | bad
def Res.bind {α β : Type} (r : Res α) (f : α → Res β) : Res β := match r with
  | .ok a => f a
  | .ex c fs => .ex c fs
  | .bad => .bad
@[simp] theorem Res.bind_ok {α β : Type} (a : α) (f : α → Res β) : (Res.ok a).bind f = f a := rfl
@[simp] theorem Res.bind_ex {α β : Type} (c : Nat) (fs : List D) (f : α → Res β) : (Res.ex c fs : Res α).bind f = .ex c fs := rfl
@[simp] theorem Res.bind_bad {α β : Type} (f : α → Res β) : (Res.bad : Res α).bind f = .bad := rfl

/-- the greatest length of a list -/
@[irreducible] def LINE : Nat := sizeLine
theorem LINE_eq : LINE = sizeLine := by unfold LINE; rfl

/-! ### operators -/
inductive O2 where
  | add | sub | mul | fdiv | mod | pow | eq | ne | lt | le | gt | ge | isin | notin | shl
inductive O1 where
  | neg | isN | notN | isB (b : Bool) | notB (b : Bool)
inductive Ty where
  | int | bool | str | list | tuple | cls (c : Nat)
inductive Bi where
  | len | abs | int | min1 | max1 | min2 | max2 | sum | tuple | list | listR1 | listR2 | sorted | isinst (t : Ty) | gcd | all

def mulOk (i j : Int) : Bool := decide (i.natAbs.log2 + j.natAbs.log2 < 1000000)
def divOk (j : Int) : Bool := decide (0 < j) && decide (j.natAbs.log2 < 9000)
def shlOk (i j : Int) : Bool := decide (0 ≤ j) && decide (i.natAbs.log2 + j.toNat < 1000000)
/-- the bits of an int's size -/
def bitsI (i : Int) : Nat := if i = 0 then 0 else i.natAbs.log2 + 1
def powOk (i j : Int) : Bool := decide (0 ≤ j) && (decide (j ≤ 1000000) && decide (i.natAbs < 2 ^ 64))

/-- Python's == of data without objects -/
def D.eqv : D → D → Bool
  | .non, .non => true
  | .bl a, .bl b => a == b
  | .bl a, .int j => (if a then 1 else 0) == j
  | .int i, .bl b => i == (if b then 1 else 0)
  | .int i, .int j => i == j
  | .str x, .str y => x == y
  | .tup xs, .tup ys => eqvs xs ys
  | .lst xs, .lst ys => eqvs xs ys
  | _, _ => false
where eqvs : List D → List D → Bool
  | [], [] => true
  | x :: xs, y :: ys => x.eqv y && eqvs xs ys
  | _, _ => false
/-- comparable: no object within, not nested deeper -/
def D.plain : Nat → D → Bool
  | _, .non => true | _, .bl _ => true | _, .int _ => true | _, .str s => PyData.strOk s
  | 0, .tup _ => false | 0, .lst _ => false
  | n + 1, .tup xs => xs.all (D.plain n)
  | n + 1, .lst xs => xs.all (D.plain n)
  | _, .obj _ _ => false
  | _, .fz _ => false
def D.flat : D → Bool
  | .non => true | .bl _ => true | .int _ => true | .str _ => true
  | _ => false

def eqR (a b : D) (neg : Bool) : Res D := if a.plain 20 && b.plain 20 then .ok (.bl (neg ^^ a.eqv b)) else .bad
def inR (a b : D) (neg : Bool) : Res D := match b with
  | .lst xs => if a.flat && xs.all D.flat then .ok (.bl (neg ^^ xs.any fun x => x.eqv a)) else .bad
  | .tup xs => if a.flat && xs.all D.flat then .ok (.bl (neg ^^ xs.any fun x => x.eqv a)) else .bad
  | _ => .bad
def cmpI (p : Int → Int → Bool) (a b : D) : Res D := match a, b with
  | .int i, .int j => .ok (.bl (p i j))
  | _, _ => .bad

def op2 : O2 → D → D → Res D
  | .add, a, b => match a, b with
    | .int i, .int j => .ok (.int (i + j))
    | .lst xs, .lst ys => if xs.length + ys.length ≤ LINE then .ok (.lst (xs ++ ys)) else .bad
    | .tup xs, .tup ys => if xs.length + ys.length ≤ LINE then .ok (.tup (xs ++ ys)) else .bad
    | _, _ => .bad
  | .sub, a, b => match a, b with
    | .int i, .int j => .ok (.int (i - j))
    | _, _ => .bad
  | .mul, a, b => match a, b with
    | .int i, .int j => if mulOk i j then .ok (.int (i * j)) else .bad
    | .lst xs, .int k => if decide (-(2 ^ 63) ≤ k) && (decide (k < 2 ^ 63) && decide (xs.length * k.toNat ≤ LINE)) then .ok (.lst (List.replicate k.toNat xs).flatten) else .bad
    | _, _ => .bad
  | .fdiv, a, b => match a, b with
    | .int i, .int j => if divOk j then .ok (.int (i / j)) else .bad
    | _, _ => .bad
  | .mod, a, b => match a, b with
    | .int i, .int j => if decide (0 < j) then .ok (.int (i % j)) else .bad
    | _, _ => .bad
  | .pow, a, b => match a, b with
    | .int i, .int j => if powOk i j then .ok (.int (i ^ j.toNat)) else .bad
    | _, _ => .bad
  | .eq, a, b => eqR a b false
  | .ne, a, b => eqR a b true
  | .lt, a, b => cmpI (fun i j => decide (i < j)) a b
  | .le, a, b => cmpI (fun i j => decide (i ≤ j)) a b
  | .gt, a, b => cmpI (fun i j => decide (j < i)) a b
  | .ge, a, b => cmpI (fun i j => decide (j ≤ i)) a b
  | .isin, a, b => inR a b false
  | .notin, a, b => inR a b true
  | .shl, a, b => match a, b with
    | .int i, .int j => if shlOk i j then .ok (.int (i * 2 ^ j.toNat)) else .bad
    | _, _ => .bad

def D.isNon : D → Bool
  | .non => true
  | _ => false
def D.isBl (b : Bool) : D → Bool
  | .bl c => b == c
  | _ => false
def op1 : O1 → D → Res D
  | .neg, a => match a with
    | .int i => .ok (.int (-i))
    | _ => .bad
  | .isN, a => .ok (.bl a.isNon)
  | .notN, a => .ok (.bl (!a.isNon))
  | .isB b, a => .ok (.bl (a.isBl b))
  | .notB b, a => .ok (.bl (!a.isBl b))

def D.ints : List D → Option (List Int)
  | [] => some []
  | .int i :: ds => (D.ints ds).map (i :: ·)
  | _ :: _ => none
def D.bools : List D → Option (List Bool)
  | [] => some []
  | .bl i :: ds => (D.bools ds).map (i :: ·)
  | _ :: _ => none
def D.seq : D → Option (List D)
  | .tup xs => some xs
  | .lst xs => some xs
  | .fz xs => some xs
  | _ => none
def intsOf (d : D) : Option (List Int) := d.seq.bind D.ints
def maxL : List Int → Int
  | [] => 0
  | [x] => x
  | x :: xs => max x (maxL xs)
def minL : List Int → Int
  | [] => 0
  | [x] => x
  | x :: xs => min x (minL xs)
def insI (x : Int) : List Int → List Int
  | [] => [x]
  | y :: ys => if x ≤ y then x :: y :: ys else y :: insI x ys
/-- pairs of ints -/
def D.pairs : List D → Option (List (Int × Int))
  | [] => some []
  | .tup [.int a, .int b] :: ds => (D.pairs ds).map ((a, b) :: ·)
  | _ :: _ => none
def pLe (p q : Int × Int) : Bool := decide (p.1 < q.1 ∨ (p.1 = q.1 ∧ p.2 ≤ q.2))
def pD (p : Int × Int) : D := .tup [.int p.1, .int p.2]
def sortI : List Int → List Int
  | [] => []
  | x :: xs => insI x (sortI xs)
def hasTy : Ty → D → Bool
  | .int, .int _ => true
  | .int, .bl _ => true
  | .bool, .bl _ => true
  | .str, .str _ => true
  | .list, .lst _ => true
  | .list, .fz _ => true
  | .tuple, .tup _ => true
  | .cls c, .obj c' _ => c == c'
  | _, _ => false
def rng (a b : Int) : List D := (List.range (b - a).toNat).map fun i => D.int (a + (i : Nat))
def rngOk (a b : Int) : Bool := decide (-(2 ^ 62) ≤ a) && (decide (a < 2 ^ 62) && (decide (-(2 ^ 62) ≤ b) && (decide (b < 2 ^ 62) && decide ((b - a).toNat ≤ LINE))))

def bi : Bi → List D → Res D
  | .len, ds => match ds with
    | [.tup xs] => .ok (.int xs.length)
    | [.lst xs] => .ok (.int xs.length)
    | [.fz xs] => .ok (.int xs.length)
    | _ => .bad
  | .abs, ds => match ds with
    | [.int i] => .ok (.int (if i < 0 then -i else i))
    | _ => .bad
  | .int, ds => match ds with
    | [.int i] => .ok (.int i)
    | [.bl b] => .ok (.int (if b then 1 else 0))
    | _ => .bad
  | .min2, ds => match ds with
    | [.int i, .int j] => .ok (.int (min i j))
    | _ => .bad
  | .max2, ds => match ds with
    | [.int i, .int j] => .ok (.int (max i j))
    | _ => .bad
  | .min1, ds => match ds with
    | [d] => match intsOf d with
      | some (x :: xs) => .ok (.int (minL (x :: xs)))
      | _ => .bad
    | _ => .bad
  | .max1, ds => match ds with
    | [d] => match intsOf d with
      | some (x :: xs) => .ok (.int (maxL (x :: xs)))
      | _ => .bad
    | _ => .bad
  | .sum, ds => match ds with
    | [d] => match intsOf d with
      | some xs => .ok (.int xs.sum)
      | _ => .bad
    | _ => .bad
  | .all, ds => match ds with
    | [.lst xs] => match D.bools xs with
      | some bs => .ok (.bl (bs.all id))
      | _ => .bad
    | _ => .bad
  | .tuple, ds => match ds with
    | [.lst xs] => .ok (.tup xs)
    | [.tup xs] => .ok (.tup xs)
    | _ => .bad
  | .list, ds => match ds with
    | [.lst xs] => .ok (.lst xs)
    | [.tup xs] => .ok (.lst xs)
    | _ => .bad
  | .listR1, ds => match ds with
    | [.int n] => if rngOk 0 n then .ok (.lst (rng 0 n)) else .bad
    | _ => .bad
  | .listR2, ds => match ds with
    | [.int a, .int b] => if rngOk a b then .ok (.lst (rng a b)) else .bad
    | _ => .bad
  | .sorted, ds => match ds with
    | [.lst ds] => match D.ints ds with
      | some xs => .ok (.lst ((sortI xs).map .int))
      | none => match D.pairs ds with
        | some ps => .ok (.lst ((ps.mergeSort pLe).map pD))
        | none => .bad
    | _ => .bad
  | .isinst t, ds => match ds with
    | [d] => .ok (.bl (hasTy t d))
    | _ => .bad
  | .gcd, ds => match ds with
    | [.int i, .int j] => .ok (.int ((Nat.gcd i.natAbs j.natAbs : Nat) : Int))
    | _ => .bad

/-! ### subscripts -/
def ixR (a i : D) : Res D := match i with
  | .int k => match a.seq with
    | some xs => match L2.atI xs k with
      | some d => .ok d
      | none => .bad
    | none => .bad
  | _ => .bad
def cutD (xs : List D) (lo hi : Option Int) : List D := (xs.drop (HT.sIx xs.length 0 lo)).take (HT.sIx xs.length xs.length hi - HT.sIx xs.length 0 lo)
def slR (a : D) (lo hi : Option Int) : Res D := match a with
  | .tup xs => .ok (.tup (cutD xs lo hi))
  | .lst xs => .ok (.lst (cutD xs lo hi))
  | _ => .bad

/-! ### the compact form -/
inductive Sk where
  | seq | r1 | r2 | zip
inductive E where
  | var (i : Nat) | non | bl (b : Bool) | int (z : Int) | str (s : Str)
  | tup (es : List E) | lst (es : List E)
  | op (o : O2) (a b : E) | un (o : O1) (a : E)
  | not (a : E) | and (a b : E) | or (a b : E) | ite (c a b : E)
  | idx (a i : E) | slc (a lo hi : E) | slo (a lo : E) | shi (a hi : E)
  | bi (b : Bi) (es : List E)
  | call (f : Nat) (es : List E) | mk (c f : Nat) (es : List E) (df : List D) | fld (a : E) (c p : Nat) | meth (a : E) (c f : Nat) (es : List E) | prop (a : E) (c f : Nat) | bits (a : E)
  | comp (sk : Sk) (tg : List Nat) (srcs conds : List E) (elt : E)
  | comp2 (sk : Sk) (tg : List Nat) (srcs conds : List E) (sk2 : Sk) (tg2 : List Nat) (srcs2 conds2 : List E) (elt : E)

def mapR {α : Type} (f : D → Res (Option α)) : List D → Res (List α)
  | [] => .ok []
  | x :: xs => (f x).bind fun o => (mapR f xs).bind fun ys => .ok (match o with | some y => y :: ys | none => ys)
def noEx {α : Type} : Res α → Res α
  | .ok a => .ok a
  | _ => .bad
def srcR (sk : Sk) (ds : List D) : Res (List D) := match sk with
  | .seq => match ds with
    | [d] => match d.seq with
      | some xs => .ok xs
      | none => .bad
    | _ => .bad
  | .r1 => match ds with
    | [.int n] => if rngOk 0 n then .ok (rng 0 n) else .bad
    | _ => .bad
  | .r2 => match ds with
    | [.int a, .int b] => if rngOk a b then .ok (rng a b) else .bad
    | _ => .bad
  | .zip => match ds with
    | [.lst xs, .lst ys] => .ok (List.zipWith (fun x y => D.tup [x, y]) xs ys)
    | [.tup xs, .tup ys] => .ok (List.zipWith (fun x y => D.tup [x, y]) xs ys)
    | _ => .bad
def wipe (Δ : List (Option D)) : List Nat → List (Option D)
  | [] => Δ
  | v :: vs => (wipe Δ vs).set v none
def bindT (tg : List Nat) (x : D) (Δ : List (Option D)) : Option (List (Option D)) := match tg with
  | [i] => some (Δ.set i (some x))
  | [i, j] => match x with
    | .tup [a, b] => some ((Δ.set i (some a)).set j (some b))
    | _ => none
  | _ => none

/-- what the called defs yield -/
abbrev Or := Nat → List D → Res T

/-- as a test -/
def tob (r : Res D) : Res Bool := r.bind fun d => match d with
  | .bl b => .ok b
  | _ => .bad
mutual
def ev (Φ : Or) : E → List (Option D) → Res D
  | .var i, Δ => match Δ[i]? with
    | some (some d) => .ok d
    | _ => .bad
  | .non, _ => .ok .non
  | .bl b, _ => .ok (.bl b)
  | .int z, _ => .ok (.int z)
  | .str s, _ => .ok (.str s)
  | .tup es, Δ => (evs Φ es Δ).bind fun ds => if ds.length ≤ LINE then .ok (.tup ds) else .bad
  | .lst es, Δ => (evs Φ es Δ).bind fun ds => if ds.length ≤ LINE then .ok (.lst ds) else .bad
  | .op o a b, Δ => (ev Φ a Δ).bind fun x => (ev Φ b Δ).bind fun y => op2 o x y
  | .un o a, Δ => (ev Φ a Δ).bind fun x => op1 o x
  | .not a, Δ => (tob (ev Φ a Δ)).bind fun b => .ok (.bl !b)
  | .and a b, Δ => (tob (ev Φ a Δ)).bind fun x => if x then (tob (ev Φ b Δ)).bind fun y => .ok (.bl y) else .ok (.bl false)
  | .or a b, Δ => (tob (ev Φ a Δ)).bind fun x => if x then .ok (.bl true) else (tob (ev Φ b Δ)).bind fun y => .ok (.bl y)
  | .ite c a b, Δ => (tob (ev Φ c Δ)).bind fun x => if x then ev Φ a Δ else ev Φ b Δ
  | .idx a i, Δ => (ev Φ a Δ).bind fun x => (ev Φ i Δ).bind fun y => ixR x y
  | .slc a l h, Δ => (ev Φ a Δ).bind fun x => (ev Φ l Δ).bind fun y => match y with
    | .int i => (ev Φ h Δ).bind fun z => (match z with
      | .int j => slR x (some i) (some j)
      | _ => .bad)
    | _ => .bad
  | .slo a l, Δ => (ev Φ a Δ).bind fun x => (ev Φ l Δ).bind fun y => match y with
    | .int i => slR x (some i) none
    | _ => .bad
  | .shi a h, Δ => (ev Φ a Δ).bind fun x => (ev Φ h Δ).bind fun y => match y with
    | .int i => slR x none (some i)
    | _ => .bad
  | .bi b es, Δ => (evs Φ es Δ).bind fun ds => bi b ds
  | .call f es, Δ => (evs Φ es Δ).bind fun ds => (Φ f ds).bind fun t => .ok t.d
  | .mk _ f es df, Δ => (evs Φ es Δ).bind fun ds => (Φ f (.non :: (ds ++ df))).bind fun t => match t with
    | .sh d => .ok d
    | .ow _ => .bad
  | .fld a c p, Δ => (ev Φ a Δ).bind fun x => match x with
    | .obj c' xs => if c' = c then (match xs[p]? with | some d => .ok d | none => .bad) else .bad
    | _ => .bad
  | .meth a c f es, Δ => (ev Φ a Δ).bind fun x => match x with
    | .obj c' xs => if c' = c then (evs Φ es Δ).bind fun ds => (Φ f (.obj c' xs :: ds)).bind fun t => .ok t.d else .bad
    | _ => .bad
  | .prop a c f, Δ => (ev Φ a Δ).bind fun x => match x with
    | .obj c' xs => if c' = c then (Φ f [.obj c' xs]).bind fun t => .ok t.d else .bad
    | _ => .bad
  | .bits a, Δ => (ev Φ a Δ).bind fun x => match x with
    | .int i => .ok (.int (bitsI i))
    | _ => .bad
  | .comp sk tg srcs conds elt, Δ => (evs Φ srcs Δ).bind fun ds => (srcR sk ds).bind fun items =>
    (noEx (mapR (fun x => match bindT tg x (wipe Δ tg) with
      | none => .bad
      | some Δ' => (evc Φ conds Δ').bind fun b => if b then (ev Φ elt Δ').bind fun d => .ok (some d) else .ok none) items)).bind fun ys => if ys.length ≤ LINE then .ok (.lst ys) else .bad
  | .comp2 sk tg srcs conds sk2 tg2 srcs2 conds2 elt, Δ => (evs Φ srcs Δ).bind fun ds => (srcR sk ds).bind fun items =>
    (noEx (mapR (fun x => match bindT tg x (wipe Δ (tg ++ tg2)) with
      | none => .bad
      | some Δ' => (evc Φ conds Δ').bind fun b => if b then ((evs Φ srcs2 Δ').bind fun ds2 => (srcR sk2 ds2).bind fun items2 =>
          (mapR (fun x2 => match bindT tg2 x2 (wipe Δ' tg2) with
            | none => .bad
            | some Δ2 => (evc Φ conds2 Δ2).bind fun b => if b then (ev Φ elt Δ2).bind fun d => .ok (some d) else .ok none) items2).bind fun ys => .ok (some ys)) else .ok none) items)).bind fun yss => if yss.flatten.length ≤ LINE then .ok (.lst yss.flatten) else .bad
def evs (Φ : Or) : List E → List (Option D) → Res (List D)
  | [], _ => .ok []
  | e :: es, Δ => (ev Φ e Δ).bind fun d => (evs Φ es Δ).bind fun ds => .ok (d :: ds)
/-- a clause's tests -/
def evc (Φ : Or) : List E → List (Option D) → Res Bool
  | [], _ => .ok true
  | e :: es, Δ => (tob (ev Φ e Δ)).bind fun b => if b then evc Φ es Δ else .ok false
end
end R
end

section
set_option autoImplicit true
set_option linter.all false
/-! R1eq: printed by eqs.py -/
namespace R
open PySem
theorem ev_var : ev Φ (.var i) Δ = match Δ[i]? with
      | some (some d) => .ok d
      | _ => .bad := rfl
theorem ev_non : ev Φ .non u1 = .ok .non := rfl
theorem ev_bl : ev Φ (.bl b) u1 = .ok (.bl b) := rfl
theorem ev_int : ev Φ (.int z) u1 = .ok (.int z) := rfl
theorem ev_str : ev Φ (.str s) u1 = .ok (.str s) := rfl
theorem ev_tup : ev Φ (.tup es) Δ = (evs Φ es Δ).bind fun ds => if ds.length ≤ LINE then .ok (.tup ds) else .bad := rfl
theorem ev_lst : ev Φ (.lst es) Δ = (evs Φ es Δ).bind fun ds => if ds.length ≤ LINE then .ok (.lst ds) else .bad := rfl
theorem ev_op : ev Φ (.op o a b) Δ = (ev Φ a Δ).bind fun x => (ev Φ b Δ).bind fun y => op2 o x y := rfl
theorem ev_un : ev Φ (.un o a) Δ = (ev Φ a Δ).bind fun x => op1 o x := rfl
theorem ev_not : ev Φ (.not a) Δ = (tob (ev Φ a Δ)).bind fun b => .ok (.bl !b) := rfl
theorem ev_and : ev Φ (.and a b) Δ = (tob (ev Φ a Δ)).bind fun x => if x then (tob (ev Φ b Δ)).bind fun y => .ok (.bl y) else .ok (.bl false) := rfl
theorem ev_or : ev Φ (.or a b) Δ = (tob (ev Φ a Δ)).bind fun x => if x then .ok (.bl true) else (tob (ev Φ b Δ)).bind fun y => .ok (.bl y) := rfl
theorem ev_ite : ev Φ (.ite c a b) Δ = (tob (ev Φ c Δ)).bind fun x => if x then ev Φ a Δ else ev Φ b Δ := rfl
theorem ev_idx : ev Φ (.idx a i) Δ = (ev Φ a Δ).bind fun x => (ev Φ i Δ).bind fun y => ixR x y := rfl
theorem ev_slc : ev Φ (.slc a l h) Δ = (ev Φ a Δ).bind fun x => (ev Φ l Δ).bind fun y => match y with
      | .int i => (ev Φ h Δ).bind fun z => (match z with
        | .int j => slR x (some i) (some j)
        | _ => .bad)
      | _ => .bad := rfl
theorem ev_slo : ev Φ (.slo a l) Δ = (ev Φ a Δ).bind fun x => (ev Φ l Δ).bind fun y => match y with
      | .int i => slR x (some i) none
      | _ => .bad := rfl
theorem ev_shi : ev Φ (.shi a h) Δ = (ev Φ a Δ).bind fun x => (ev Φ h Δ).bind fun y => match y with
      | .int i => slR x none (some i)
      | _ => .bad := rfl
theorem ev_bi : ev Φ (.bi b es) Δ = (evs Φ es Δ).bind fun ds => bi b ds := rfl
theorem ev_call : ev Φ (.call f es) Δ = (evs Φ es Δ).bind fun ds => (Φ f ds).bind fun t => .ok t.d := rfl
theorem ev_mk : ev Φ (.mk u1 f es df) Δ = (evs Φ es Δ).bind fun ds => (Φ f (.non :: (ds ++ df))).bind fun t => match t with
      | .sh d => .ok d
      | .ow _ => .bad := rfl
theorem ev_fld : ev Φ (.fld a c p) Δ = (ev Φ a Δ).bind fun x => match x with
      | .obj c' xs => if c' = c then (match xs[p]? with | some d => .ok d | none => .bad) else .bad
      | _ => .bad := rfl
theorem ev_meth : ev Φ (.meth a c f es) Δ = (ev Φ a Δ).bind fun x => match x with
      | .obj c' xs => if c' = c then (evs Φ es Δ).bind fun ds => (Φ f (.obj c' xs :: ds)).bind fun t => .ok t.d else .bad
      | _ => .bad := rfl
theorem ev_prop : ev Φ (.prop a c f) Δ = (ev Φ a Δ).bind fun x => match x with
      | .obj c' xs => if c' = c then (Φ f [.obj c' xs]).bind fun t => .ok t.d else .bad
      | _ => .bad := rfl
theorem ev_bits : ev Φ (.bits a) Δ = (ev Φ a Δ).bind fun x => match x with
      | .int i => .ok (.int (bitsI i))
      | _ => .bad := rfl
theorem ev_comp : ev Φ (.comp sk tg srcs conds elt) Δ = (evs Φ srcs Δ).bind fun ds => (srcR sk ds).bind fun items =>
      (noEx (mapR (fun x => match bindT tg x (wipe Δ tg) with
        | none => .bad
        | some Δ' => (evc Φ conds Δ').bind fun b => if b then (ev Φ elt Δ').bind fun d => .ok (some d) else .ok none) items)).bind fun ys => if ys.length ≤ LINE then .ok (.lst ys) else .bad := rfl
theorem ev_comp2 : ev Φ (.comp2 sk tg srcs conds sk2 tg2 srcs2 conds2 elt) Δ = (evs Φ srcs Δ).bind fun ds => (srcR sk ds).bind fun items =>
      (noEx (mapR (fun x => match bindT tg x (wipe Δ (tg ++ tg2)) with
        | none => .bad
        | some Δ' => (evc Φ conds Δ').bind fun b => if b then ((evs Φ srcs2 Δ').bind fun ds2 => (srcR sk2 ds2).bind fun items2 =>
            (mapR (fun x2 => match bindT tg2 x2 (wipe Δ' tg2) with
              | none => .bad
              | some Δ2 => (evc Φ conds2 Δ2).bind fun b => if b then (ev Φ elt Δ2).bind fun d => .ok (some d) else .ok none) items2).bind fun ys => .ok (some ys)) else .ok none) items)).bind fun yss => if yss.flatten.length ≤ LINE then .ok (.lst yss.flatten) else .bad := rfl
theorem evs_l0 : evs Φ [] u1 = .ok [] := rfl
theorem evs_cons1 : evs Φ (e :: es) Δ = (ev Φ e Δ).bind fun d => (evs Φ es Δ).bind fun ds => .ok (d :: ds) := rfl
theorem evc_l0 : evc Φ [] u1 = .ok true := rfl
theorem evc_cons1 : evc Φ (e :: es) Δ = (tob (ev Φ e Δ)).bind fun b => if b then evc Φ es Δ else .ok false := rfl
end R
end

section
set_option Elab.async false
set_option linter.all false
set_option maxRecDepth 100000
/-! R2: how plain data stands in the heap. -/
namespace R
open PySem PySem.Spec PyProof.Rows L2

/-- what the text has written: the classes' addresses, their fields (in the order in which they are stored) -/
structure Wo where
  K : PySem.W.Frag
  nC : Nat
  cA : Nat → Addr
  fl : Nat → List PySem.Str
  /-- the own errors' addresses, their fields -/
  xA : Nat → Addr
  xf : Nat → List PySem.Str
  /-- what slot 0 holds all along, if told (an object that is being made) -/
  s0 : Option V := none
  /-- the code objects' tables, the names that their lambdas bear -/
  tb : List (Addr × PySem.Str) := []

mutual
def Rep (W : Wo) (Z : Hp) : D → V → Prop
  | .non, v => v = .non
  | .bl b, v => v = .bl b
  | .int i, v => v = .int i
  | .str s, v => v = .str s
  | .tup ds, v => ∃ a vs, v = .ref a ∧ SqT W.K Z a vs ∧ RepL W Z ds vs
  | .lst ds, v => ∃ a vs, v = .ref a ∧ Z a = some (.lst vs) ∧ RepL W Z ds vs
  | .fz ds, v => ∃ a vs, v = .ref a ∧ SqL W.K Z a vs ∧ RepL W Z ds vs
  | .obj c ds, v => ∃ a dx vs, v = .ref a ∧ c < W.nC ∧ Z a = some (.ins (W.cA c) dx ((W.fl c).zip vs)) ∧ vs.length ≤ (W.fl c).length ∧ RepL W Z ds vs
def RepL (W : Wo) (Z : Hp) : List D → List V → Prop
  | [], vs => vs = []
  | d :: ds, vs => ∃ v us, vs = v :: us ∧ Rep W Z d v ∧ RepL W Z ds us
end

theorem sqT_mono {K : PySem.W.Frag} {Z Z' : Hp} {a : Addr} {xs : List V} (e : Same Z Z') (h : SqT K Z a xs) : SqT K Z' a xs := by
  rcases h with (h | ⟨o, h⟩) | h
  · exact .inl (.inl (e _ _ h))
  · exact .inl (.inr ⟨o, e _ _ h⟩)
  · exact .inr h
mutual
theorem Rep.mono {W : Wo} {Z Z' : Hp} (e : Same Z Z') : ∀ {d : D} {v : V}, Rep W Z d v → Rep W Z' d v
  | .non, _, h => by simpa only [Rep] using h
  | .bl _, _, h => by simpa only [Rep] using h
  | .int _, _, h => by simpa only [Rep] using h
  | .str _, _, h => by simpa only [Rep] using h
  | .tup ds, _, h => by
    simp only [Rep] at h ⊢
    obtain ⟨a, vs, h1, h2, h3⟩ := h
    exact ⟨a, vs, h1, sqT_mono e h2, RepL.mono e h3⟩
  | .lst ds, _, h => by
    simp only [Rep] at h ⊢
    obtain ⟨a, vs, h1, h2, h3⟩ := h
    exact ⟨a, vs, h1, e _ _ h2, RepL.mono e h3⟩
  | .fz ds, _, h => by
    simp only [Rep] at h ⊢
    obtain ⟨a, vs, h1, h2, h3⟩ := h
    exact ⟨a, vs, h1, e.seq h2, RepL.mono e h3⟩
  | .obj c ds, _, h => by
    simp only [Rep] at h ⊢
    obtain ⟨a, dx, vs, h1, h0, h2, h3, h4⟩ := h
    exact ⟨a, dx, vs, h1, h0, e _ _ h2, h3, RepL.mono e h4⟩
theorem RepL.mono {W : Wo} {Z Z' : Hp} (e : Same Z Z') : ∀ {ds : List D} {vs : List V}, RepL W Z ds vs → RepL W Z' ds vs
  | [], _, h => by simpa only [RepL] using h
  | d :: ds, _, h => by
    simp only [RepL] at h ⊢
    obtain ⟨v, us, h1, h2, h3⟩ := h
    exact ⟨v, us, h1, Rep.mono e h2, RepL.mono e h3⟩
end
section
variable {W : Wo} {Z Z' H H' H2 Z2 : Hp}
theorem RepL.length : ∀ {ds : List D} {vs : List V}, RepL W Z ds vs → vs.length = ds.length
  | [], _, h => by simp only [RepL] at h; rw [h]; rfl
  | d :: ds, _, h => by
    simp only [RepL] at h
    obtain ⟨v, us, rfl, _, h3⟩ := h
    rw [List.length_cons, List.length_cons, RepL.length h3]
theorem RepL.nil : RepL W Z [] [] := by simp only [RepL]
theorem RepL.cons {d : D} {v : V} {ds : List D} {vs : List V} (h : Rep W Z d v) (t : RepL W Z ds vs) : RepL W Z (d :: ds) (v :: vs) := by
  simp only [RepL]; exact ⟨v, vs, rfl, h, t⟩
theorem RepL.uncons {d : D} {ds : List D} {vs : List V} (h : RepL W Z (d :: ds) vs) : ∃ v us, vs = v :: us ∧ Rep W Z d v ∧ RepL W Z ds us := by
  simpa only [RepL] using h
theorem RepL.unnil {vs : List V} (h : RepL W Z [] vs) : vs = [] := by simpa only [RepL] using h
theorem RepL.get : ∀ {ds : List D} {vs : List V} {i : Nat} {d : D}, RepL W Z ds vs → ds[i]? = some d → ∃ v, vs[i]? = some v ∧ Rep W Z d v
  | [], _, _, _, _, e => by simp at e
  | d :: ds, _, i, x, h, e => by
    obtain ⟨v, us, rfl, h1, h2⟩ := h.uncons
    cases i with
    | zero => simp at e; subst e; exact ⟨v, by simp, h1⟩
    | succ i =>
      obtain ⟨w, e1, e2⟩ := RepL.get (i := i) (d := x) h2 (by simpa using e)
      exact ⟨w, by simpa using e1, e2⟩
theorem RepL.getV : ∀ {ds : List D} {vs : List V} {i : Nat} {v : V}, RepL W Z ds vs → vs[i]? = some v → ∃ d, ds[i]? = some d ∧ Rep W Z d v
  | [], _, _, _, h, e => by rw [h.unnil] at e; simp at e
  | d :: ds, _, i, x, h, e => by
    obtain ⟨v, us, rfl, h1, h2⟩ := h.uncons
    cases i with
    | zero => simp at e; subst e; exact ⟨d, by simp, h1⟩
    | succ i =>
      obtain ⟨w, e1, e2⟩ := RepL.getV (i := i) (v := x) h2 (by simpa using e)
      exact ⟨w, by simpa using e1, e2⟩
theorem RepL.append : ∀ {ds : List D} {vs : List V} {es : List D} {us : List V}, RepL W Z ds vs → RepL W Z es us → RepL W Z (ds ++ es) (vs ++ us)
  | [], _, _, _, h, t => by rw [h.unnil]; exact t
  | d :: ds, _, es, us, h, t => by
    obtain ⟨v, vs, rfl, h1, h2⟩ := h.uncons
    exact .cons h1 (RepL.append h2 t)
theorem RepL.take : ∀ {ds : List D} {vs : List V} (n : Nat), RepL W Z ds vs → RepL W Z (ds.take n) (vs.take n)
  | [], _, n, h => by rw [h.unnil]; simp [RepL]
  | d :: ds, _, 0, h => by simp [RepL]
  | d :: ds, _, n + 1, h => by
    obtain ⟨v, vs, rfl, h1, h2⟩ := h.uncons
    exact .cons h1 (RepL.take n h2)
theorem RepL.drop : ∀ {ds : List D} {vs : List V} (n : Nat), RepL W Z ds vs → RepL W Z (ds.drop n) (vs.drop n)
  | [], _, n, h => by rw [h.unnil]; simp [RepL]
  | d :: ds, _, 0, h => h
  | d :: ds, _, n + 1, h => by
    obtain ⟨v, vs, rfl, h1, h2⟩ := h.uncons
    exact RepL.drop n h2
theorem RepL.set {d : D} {v : V} (r : Rep W Z d v) : ∀ {ds : List D} {vs : List V} (n : Nat), RepL W Z ds vs → RepL W Z (ds.set n d) (vs.set n v)
  | [], _, n, h => by rw [h.unnil]; simp [RepL]
  | x :: ds, _, 0, h => by
    obtain ⟨w, vs, rfl, h1, h2⟩ := h.uncons
    exact .cons r h2
  | x :: ds, _, n + 1, h => by
    obtain ⟨w, vs, rfl, h1, h2⟩ := h.uncons
    exact .cons h1 (RepL.set r n h2)
theorem RepL.rep {ds : List D} {vs : List V} (h : RepL W Z ds vs) : ∀ n : Nat, RepL W Z (List.replicate n ds).flatten (List.replicate n vs).flatten
  | 0 => by simp [RepL]
  | n + 1 => by
    rw [List.replicate_succ, List.replicate_succ, List.flatten_cons, List.flatten_cons]
    exact h.append (RepL.rep h n)
/-- what is read as a list of ints -/
theorem RepL.ints : ∀ {ds : List D} {vs : List V} {ns : List Int}, RepL W Z ds vs → D.ints ds = some ns → vs = ns.map V.int
  | [], _, _, h, e => by
    rw [h.unnil]; simp [D.ints] at e; rw [e]; rfl
  | d :: ds, _, ns, h, e => by
    obtain ⟨v, vs, rfl, h1, h2⟩ := h.uncons
    cases d with
    | int i =>
      simp only [D.ints, Option.map_eq_some_iff] at e
      obtain ⟨ms, e1, rfl⟩ := e
      simp only [Rep] at h1
      rw [h1, RepL.ints h2 e1]; rfl
    | _ => simp [D.ints] at e
theorem RepL.bools : ∀ {ds : List D} {vs : List V} {ns : List Bool}, RepL W Z ds vs → D.bools ds = some ns → vs = ns.map V.bl
  | [], _, _, h, e => by
    rw [h.unnil]; simp [D.bools] at e; rw [e]; rfl
  | d :: ds, _, ns, h, e => by
    obtain ⟨v, vs, rfl, h1, h2⟩ := h.uncons
    cases d with
    | bl i =>
      simp only [D.bools, Option.map_eq_some_iff] at e
      obtain ⟨ms, e1, rfl⟩ := e
      simp only [Rep] at h1
      rw [h1, RepL.bools h2 e1]; rfl
    | _ => simp [D.bools] at e
theorem RepL.ofInts : ∀ (ns : List Int), RepL W Z (ns.map D.int) (ns.map V.int)
  | [] => .nil
  | n :: ns => .cons (by simp only [Rep]) (RepL.ofInts ns)
theorem RepL.cutV {ds : List D} {vs : List V} (h : RepL W Z ds vs) (lo hi : Option Int) : RepL W Z (cutD ds lo hi) (L2.cutV vs lo hi) := by
  unfold cutD L2.cutV
  rw [h.length]
  exact (h.drop _).take _

/-! ### what grows -/
/-- all stands as before, but tables may grow -/
structure Grow (H H' : Hp) : Prop where
  at_ : ∀ b o, H b = some o → (∀ ps, o ≠ .tbl ps) → H' b = some o
  free : ∀ {b}, H' b = none → H b = none
theorem Grow.refl (H : Hp) : Grow H H := ⟨fun _ _ h _ => h, fun h => h⟩
theorem Grow.trans {H H1 H2 : Hp} (a : Grow H H1) (b : Grow H1 H2) : Grow H H2 := ⟨fun x o h n => b.at_ x o (a.at_ x o h n) n, fun h => a.free (b.free h)⟩
theorem Grow.of {H H' : Hp} (s : Same H H') : Grow H H' := ⟨fun b o h _ => s b o h, fun h => s.free h⟩
theorem Grow.lst {H H' : Hp} (g : Grow H H') {a : Addr} {xs : List V} (h : H a = some (.lst xs)) : H' a = some (.lst xs) := g.at_ a _ h fun _ e => nomatch e
theorem Grow.ins {H H' : Hp} (g : Grow H H') {a C d : Addr} {fs : List (PySem.Str × V)} (h : H a = some (.ins C d fs)) : H' a = some (.ins C d fs) := g.at_ a _ h fun _ e => nomatch e
/-- what is read stands in the heap; the tables are there, out of sight -/
structure Zh (W : Wo) (Z H : Hp) : Prop where
  sub : Same Z H
  tab : ∀ p ∈ W.tb, LamX.TabS H p.1 p.2
  out : ∀ p ∈ W.tb, Z p.1 = none
instance {W : Wo} {Z H : Hp} : CoeFun (Zh W Z H) fun _ => ∀ b o, Z b = some o → H b = some o := ⟨fun z => z.sub⟩
instance {W : Wo} {Z H : Hp} : CoeOut (Zh W Z H) (Same Z H) := ⟨fun z => z.sub⟩
theorem Zh.seq {W : Wo} {Z H : Hp} {K : PySem.W.Frag} {a : Addr} {xs : List V} (z : Zh W Z H) (h : SqL K Z a xs) : SqL K H a xs := z.sub.seq h
theorem Zh.free {W : Wo} {Z H : Hp} (z : Zh W Z H) {a : Addr} (h : H a = none) : Z a = none := z.sub.free h
theorem _root_.LamX.TabS.go {H H' : Hp} {P : Addr} {q : PySem.Str} (t : LamX.TabS H P q) (e1 : ∀ ps, H P = some (.tbl ps) → H' P = some (.tbl ps)) (e2 : ∀ c, H c = some (LamX.CodeO c q) → H' c = some (LamX.CodeO c q)) : LamX.TabS H' P q := by
  obtain ⟨ps, h1, h2, h3⟩ := t
  refine ⟨ps, e1 _ h1, h2, fun pos cv hc => ?_⟩
  obtain ⟨c, q1, q2⟩ := h3 pos cv hc
  exact ⟨c, q1, e2 _ q2⟩
/-- the same tables in a heap that has all of the first -/
theorem Zh.up {W : Wo} {Z H Z' H' : Hp} (z : Zh W Z H) (s : Same H H') (z' : Same Z' H') (n : ∀ a o, Z' a = some o → Z a = some o ∨ H a = none) : Zh W Z' H' :=
  ⟨z', fun p hp => (z.tab p hp).ext s, fun p hp => by
    obtain ⟨ps, h1, _⟩ := z.tab p hp
    cases e : Z' p.1 with
    | none => rfl
    | some o =>
      rcases n _ _ e with q | q
      · rw [z.out p hp] at q; cases q
      · rw [h1] at q; cases q⟩
/-- another thing at a -/
theorem Zh.wrG {W : Wo} {Z H : Hp} {a : Addr} {u o : HO} (z : Zh W Z H) (h : H a = some u) (h1 : ∀ ps, u ≠ .tbl ps) (h2 : ∀ c q, u ≠ LamX.CodeO c q) (ha : Z a = none) : Zh W Z (upd H a o) :=
  ⟨fun b u e => by rw [upd_ne (fun q => by rw [q, ha] at e; cases e)]; exact z.sub b u e,
    fun p hp => (z.tab p hp).go (fun ps e => by rw [upd_ne (fun q => by rw [q, h] at e; injection e with e; exact h1 _ e)]; exact e) (fun c e => by rw [upd_ne (fun q => by rw [q, h] at e; injection e with e; exact h2 _ _ e)]; exact e), z.out⟩
theorem Zh.wr {W : Wo} {Z H : Hp} {a : Addr} {xs : List V} {o : HO} (z : Zh W Z H) (h : H a = some (.lst xs)) (ha : Z a = none) : Zh W Z (upd H a o) :=
  z.wrG h (fun _ e => nomatch e) (fun _ _ e => by unfold LamX.CodeO at e; cases e) ha
theorem Zh.wrI {W : Wo} {Z H : Hp} {a C d : Addr} {fs : List (PySem.Str × V)} {o : HO} (z : Zh W Z H) (h : H a = some (.ins C d fs)) (ha : Z a = none) : Zh W Z (upd H a o) :=
  z.wrG h (fun _ e => nomatch e) (fun _ _ e => by unfold LamX.CodeO at e; cases e) ha
/-- all but x -/
structure GrowX (x : Addr) (H H' : Hp) : Prop where
  at_ : ∀ b o, b ≠ x → H b = some o → (∀ ps, o ≠ .tbl ps) → H' b = some o
  free : ∀ {b}, b ≠ x → H' b = none → H b = none
theorem GrowX.refl (x : Addr) (H : Hp) : GrowX x H H := ⟨fun _ _ _ h _ => h, fun _ h => h⟩
theorem GrowX.trans {x : Addr} {H H1 H2 : Hp} (a : GrowX x H H1) (b : GrowX x H1 H2) : GrowX x H H2 := ⟨fun c o n h q => b.at_ c o n (a.at_ c o n h q) q, fun n h => a.free n (b.free n h)⟩
theorem Grow.x {H H' : Hp} (g : Grow H H') (x : Addr) : GrowX x H H' := ⟨fun b o _ h n => g.at_ b o h n, fun _ h => g.free h⟩
theorem GrowX.upd (x : Addr) (H : Hp) (o : HO) : GrowX x H (upd H x o) := ⟨fun b u n h _ => by rw [upd_ne n]; exact h, fun n h => by rw [upd_ne n] at h; exact h⟩
theorem GrowX.full {x : Addr} {H H' : Hp} (g : GrowX x H H') (h : H x = none) : Grow H H' := ⟨fun b o e n => g.at_ b o (ne_of_none e h) e n, fun {b} e => by
  by_cases q : b = x
  · rw [q]; exact h
  · exact g.free q e⟩
theorem Grow.wr {H H' : Hp} (g : Grow H H') {p : Addr} {o : HO} (h : H p = none) : Grow H (upd H' p o) :=
  ⟨fun b u e n => by rw [upd_ne (ne_of_none e h)]; exact g.at_ b u e n, fun {b} e => by
    by_cases hb : b = p
    · rw [hb]; exact h
    · rw [upd_ne hb] at e; exact g.free e⟩
theorem Grow.set {H H' : Hp} (g : Grow H H') {p : Addr} {o u : HO} (h : H p = none) (h' : H' p = some u) : Grow H (upd H' p o) := g.wr h
theorem Zh.addG {W : Wo} {Z H : Hp} {p : Addr} {o : HO} (z : Zh W Z H) (h : H p = some o) (h0 : ∀ ps, o ≠ .tbl ps) : Zh W (upd Z p o) H :=
  ⟨fun b u e => by
    by_cases hb : b = p
    · subst hb; rw [upd_same] at e; rw [← e]; exact h
    · rw [upd_ne hb] at e; exact z.sub b u e, z.tab, fun q hq => by
    obtain ⟨ps, h1, _⟩ := z.tab q hq
    rw [upd_ne (fun e => by rw [e, h] at h1; injection h1 with h1; exact h0 _ h1)]
    exact z.out q hq⟩
theorem Zh.add1 {W : Wo} {Z H : Hp} {p : Addr} {xs : List V} (z : Zh W Z H) (h : H p = some (.lst xs)) : Zh W (upd Z p (.lst xs)) H := z.addG h fun _ e => nomatch e
theorem Zh.less {W : Wo} {Z Z' H : Hp} (z : Zh W Z H) (s : Same Z' Z) : Zh W Z' H := ⟨s.trans z.sub, z.tab, fun p hp => s.free (z.out p hp)⟩
theorem Zh.of0 {W : Wo} {H : Hp} (e : W.tb = []) : Zh W H H := ⟨Same.refl _, fun p hp => (by rw [e] at hp; cases hp), fun p hp => (by rw [e] at hp; cases hp)⟩
/-- the heap goes on from H to H', its read part from Z to Z': only new objects come in -/
structure Ext (W : Wo) (Z H Z' H' : Hp) : Prop where
  hh : Grow H H'
  zz : Same Z Z'
  zh : Zh W Z' H'
  new : ∀ a o, Z' a = some o → Z a = some o ∨ H a = none
theorem Ext.refl (h : Zh W Z H) : Ext W Z H Z H := ⟨Grow.refl _, Same.refl _, h, fun _ _ e => .inl e⟩
theorem Ext.trans (a : Ext W Z H Z' H') (b : Ext W Z' H' Z2 H2) : Ext W Z H Z2 H2 :=
  ⟨a.hh.trans b.hh, a.zz.trans b.zz, b.zh, fun x o e => (b.new x o e).elim (a.new x o) fun n => .inr (a.hh.free n)⟩
theorem same_upd {H : Hp} {p : Addr} {o : HO} (h : H p = none) : Same H (upd H p o) := fun b x e => by
  rw [upd_ne (ne_of_none e h)]; exact e
theorem Ext.none (a : Ext W Z H Z' H') {p : Addr} (h : H' p = .none) : Z' p = .none := by
  cases e : Z' p with
  | none => rfl
  | some o => have := a.zh _ _ e; rw [h] at this; cases this
theorem Zh.hup {p : Addr} {o : HO} (z : Zh W Z H) (h : H p = .none) : Zh W Z (upd H p o) := z.up (same_upd h) (z.sub.trans (same_upd h)) fun _ _ e => .inl e
/-- a new object that is read from then on -/
theorem Ext.laid (a : Ext W Z H Z' H') {p : Addr} {o : HO} (h : H' p = .none) : Ext W Z H (upd Z' p o) (upd H' p o) := by
  have hz := a.none h
  refine ⟨a.hh.trans (.of (same_upd h)), a.zz.trans (same_upd hz), a.zh.up (same_upd h) (fun b x e => ?_) fun b x e => ?_, fun b x e => ?_⟩
  · by_cases hb : b = p
    · subst hb; rw [upd_same] at e ⊢; exact e
    · rw [upd_ne hb] at e ⊢; exact a.zh _ _ e
  · by_cases hb : b = p
    · subst hb; exact .inr h
    · rw [upd_ne hb] at e; exact .inl e
  · by_cases hb : b = p
    · subst hb; exact .inr (a.hh.free h)
    · rw [upd_ne hb] at e; exact a.new _ _ e

/-! ### a value with lists of its own -/
mutual
def RepT (W : Wo) (Z H : Hp) : T → V → List Addr → Prop
  | .sh d, v, as => Rep W Z d v ∧ as = []
  | .ow ts, v, as => ∃ a vs bs, v = .ref a ∧ H a = some (.lst vs) ∧ as = a :: bs ∧ RepTs W Z H ts vs bs
def RepTs (W : Wo) (Z H : Hp) : List T → List V → List Addr → Prop
  | [], vs, as => vs = [] ∧ as = []
  | t :: ts, vs, as => ∃ v us bs cs, vs = v :: us ∧ as = bs ++ cs ∧ RepT W Z H t v bs ∧ RepTs W Z H ts us cs
end
/-- the lists at as are read from then on -/
def addZ (Z H : Hp) (as : List Addr) : Hp := fun b => if b ∈ as then H b else Z b
theorem addZ_in {as : List Addr} {b : Addr} (h : b ∈ as) : addZ Z H as b = H b := if_pos h
theorem addZ_out {as : List Addr} {b : Addr} (h : b ∉ as) : addZ Z H as b = Z b := if_neg h
theorem addZ_same (zh : Same Z H) (as : List Addr) : Same Z (addZ Z H as) := fun b o e => by
  by_cases hb : b ∈ as
  · rw [addZ_in hb]; exact zh _ _ e
  · rw [addZ_out hb]; exact e
theorem addZ_sb (zh : Same Z H) (as : List Addr) : Same (addZ Z H as) H := fun b o e => by
  by_cases hb : b ∈ as
  · rw [addZ_in hb] at e; exact e
  · rw [addZ_out hb] at e; exact zh _ _ e
theorem addZ_sub (zh : Same Z H) {as bs : List Addr} (h : ∀ a ∈ as, a ∈ bs) : Same (addZ Z H as) (addZ Z H bs) := fun b o e => by
  by_cases hb : b ∈ as
  · rw [addZ_in hb] at e; rw [addZ_in (h b hb)]; exact e
  · rw [addZ_out hb] at e; exact addZ_same zh bs _ _ e
mutual
theorem RepT.close (zh : Same Z H) : ∀ {t : T} {v : V} {as : List Addr}, RepT W Z H t v as → Rep W (addZ Z H as) t.d v
  | .sh d, v, as, h => by
    simp only [RepT] at h
    simp only [T.d]
    exact h.1.mono (addZ_same zh _)
  | .ow ts, v, as, h => by
    simp only [RepT] at h
    obtain ⟨a, vs, bs, rfl, h1, rfl, h2⟩ := h
    simp only [T.d, Rep]
    refine ⟨a, vs, rfl, ?_, (RepTs.close zh h2).mono (addZ_sub zh fun x hx => List.mem_cons_of_mem _ hx)⟩
    rw [addZ_in List.mem_cons_self]; exact h1
theorem RepTs.close (zh : Same Z H) : ∀ {ts : List T} {vs : List V} {as : List Addr}, RepTs W Z H ts vs as → RepL W (addZ Z H as) (T.d.ds ts) vs
  | [], vs, as, h => by
    simp only [RepTs] at h
    simp only [T.d.ds, RepL]
    exact h.1
  | t :: ts, vs, as, h => by
    simp only [RepTs] at h
    obtain ⟨v, us, bs, cs, rfl, rfl, h1, h2⟩ := h
    simp only [T.d.ds]
    exact .cons ((RepT.close zh h1).mono (addZ_sub zh fun x hx => List.mem_append_left _ hx)) ((RepTs.close zh h2).mono (addZ_sub zh fun x hx => List.mem_append_right _ hx))
end
theorem addZ_H (zh : Zh W Z H) {as : List Addr} (L : ∀ b ∈ as, ∃ vs, H b = some (.lst vs)) : Zh W (addZ Z H as) H :=
  ⟨addZ_sb zh.sub as, zh.tab, fun p hp => by
    rw [addZ_out fun hb => ?_]
    · exact zh.out p hp
    · obtain ⟨ps, h1, _⟩ := zh.tab p hp
      obtain ⟨vs, h2⟩ := L _ hb
      rw [h1] at h2; cases h2⟩
theorem Ext.add (a : Ext W Z H Z' H') {as : List Addr} (h : ∀ b ∈ as, H b = .none) (L : ∀ b ∈ as, ∃ vs, H' b = some (.lst vs)) : Ext W Z H (addZ Z' H' as) H' :=
  ⟨a.hh, a.zz.trans (addZ_same a.zh.sub as), addZ_H a.zh L, fun b o e => by
    by_cases hb : b ∈ as
    · exact .inr (h b hb)
    · rw [addZ_out hb] at e; exact a.new _ _ e⟩
mutual
theorem RepT.lsts : ∀ {t : T} {v : V} {as : List Addr}, RepT W Z H t v as → ∀ b ∈ as, ∃ vs, H b = some (.lst vs)
  | .sh d, v, as, h => by
    simp only [RepT] at h
    intro b hb; rw [h.2] at hb; cases hb
  | .ow ts, v, as, h => by
    simp only [RepT] at h
    obtain ⟨a, vs, bs, rfl, h1, rfl, h2⟩ := h
    intro b hb
    rcases List.mem_cons.mp hb with rfl | hb
    · exact ⟨vs, h1⟩
    · exact RepTs.lsts h2 b hb
theorem RepTs.lsts : ∀ {ts : List T} {vs : List V} {as : List Addr}, RepTs W Z H ts vs as → ∀ b ∈ as, ∃ vs, H b = some (.lst vs)
  | [], vs, as, h => by
    simp only [RepTs] at h
    intro b hb; rw [h.2] at hb; cases hb
  | t :: ts, vs, as, h => by
    simp only [RepTs] at h
    obtain ⟨v, us, bs, cs, rfl, rfl, h1, h2⟩ := h
    intro b hb
    rcases List.mem_append.mp hb with hb | hb
    · exact RepT.lsts h1 b hb
    · exact RepTs.lsts h2 b hb
end
/-- lists aside, what is read stands in the larger heap -/
theorem Rep.data {d : D} {v : V} (h : Rep W Z d v) (x : D) (e : d = x) : Rep W Z x v := e ▸ h
end

/-! ### slots -/
/-- the slots hold these data -/
def EnvOk (W : Wo) (Z : Hp) (σ : L2.St) (Δ : List (Option D)) : Prop := Δ.length ≤ σ.length ∧ ∀ (i : Nat) (d : D), Δ[i]? = some (some d) → ∃ v, σ[i]? = some (some v) ∧ Rep W Z d v
theorem EnvOk.mono {W : Wo} {Z Z' : Hp} {σ : L2.St} {Δ : List (Option D)} (e : Same Z Z') (h : EnvOk W Z σ Δ) : EnvOk W Z' σ Δ := ⟨h.1, fun i d q => by
  obtain ⟨v, h1, h2⟩ := h.2 i d q
  exact ⟨v, h1, h2.mono e⟩⟩
theorem EnvOk.set {W : Wo} {Z : Hp} {σ : L2.St} {Δ : List (Option D)} (h : EnvOk W Z σ Δ) (i : Nat) {d : D} {v : V} (r : Rep W Z d v) : EnvOk W Z (σ.set i (some v)) (Δ.set i (some d)) := by
  refine ⟨by rw [List.length_set, List.length_set]; exact h.1, fun j e q => ?_⟩
  rw [List.getElem?_set] at q
  rw [List.getElem?_set]
  split at q
  · rename_i hj
    subst hj
    split at q
    · rename_i hl
      injection q with q
      injection q with q
      subst q
      rw [if_pos rfl, if_pos (Nat.lt_of_lt_of_le hl h.1)]
      exact ⟨v, rfl, r⟩
    · cases q
  · rename_i hj
    rw [if_neg hj]
    exact h.2 j e q
theorem EnvOk.drop {W : Wo} {Z : Hp} {σ : L2.St} {Δ : List (Option D)} (h : EnvOk W Z σ Δ) (i : Nat) (x : Option V) : EnvOk W Z (σ.set i x) (Δ.set i none) := by
  refine ⟨by rw [List.length_set, List.length_set]; exact h.1, fun j e q => ?_⟩
  rw [List.getElem?_set] at q
  rw [List.getElem?_set]
  split at q
  · split at q
    · cases q
    · cases q
  · rename_i hj
    rw [if_neg hj]
    exact h.2 j e q
theorem EnvOk.wipe {W : Wo} {Z : Hp} {σ : L2.St} {Δ : List (Option D)} (h : EnvOk W Z σ Δ) : ∀ vs : List Nat, EnvOk W Z (L2.wipe σ vs) (R.wipe Δ vs)
  | [] => h
  | v :: vs => (EnvOk.wipe h vs).drop v none
theorem wipe_get {σ : L2.St} {j : Nat} : ∀ vs : List Nat, (L2.wipe σ vs)[j]? = if j ∈ vs then (σ[j]?).map fun _ => none else σ[j]?
  | [] => by simp [L2.wipe]
  | v :: vs => by
    show ((L2.wipe σ vs).set v none)[j]? = _
    rw [List.getElem?_set, L2.wipe_length, wipe_get vs]
    by_cases hv : v = j
    · subst hv
      rw [if_pos rfl, if_pos List.mem_cons_self]
      split
      · rename_i hl
        rw [List.getElem?_eq_getElem hl]
        rfl
      · rename_i hl
        rw [List.getElem?_eq_none (Nat.le_of_not_lt hl)]
        rfl
    · rw [if_neg hv]
      by_cases hj : j ∈ vs
      · rw [if_pos hj, if_pos (List.mem_cons_of_mem _ hj)]
      · rw [if_neg hj, if_neg (by simp only [List.mem_cons, not_or]; exact ⟨fun e => hv e.symm, hj⟩)]
theorem wipe_set {σ : L2.St} {i : Nat} {x : Option V} {vs : List Nat} (h : i ∈ vs) : L2.wipe (σ.set i x) vs = L2.wipe σ vs := by
  apply List.ext_getElem?
  intro j
  rw [wipe_get, wipe_get, List.getElem?_set]
  by_cases hi : i = j
  · subst hi
    rw [if_pos h, if_pos h, if_pos rfl]
    split
    · rename_i hl
      rw [List.getElem?_eq_getElem hl]
      rfl
    · rename_i hl
      rw [List.getElem?_eq_none (Nat.le_of_not_lt hl)]
  · rw [if_neg hi]
theorem wipe_wipe {σ : L2.St} {vs : List Nat} : ∀ {us : List Nat}, (∀ u ∈ us, u ∈ vs) → L2.wipe (L2.wipe σ us) vs = L2.wipe σ vs
  | [], _ => rfl
  | u :: us, h => by
    show L2.wipe ((L2.wipe σ us).set u none) vs = _
    rw [wipe_set (h u List.mem_cons_self)]
    exact wipe_wipe fun x hx => h x (List.mem_cons_of_mem _ hx)
end R
end

section
set_option Elab.async false
set_option linter.all false
set_option maxRecDepth 100000
set_option maxHeartbeats 2000000
/-! KL: sorted(xs, key=lambda a: (y[a], a)), (-y[a], a): the key's call, told of the heap alone. -/
namespace R
open PySem PySem.Spec PyProof.Rows L2

/-- a list or a tuple of these items -/
def SeqAt (h : Heap) (p : Addr) (its : List Value) : Prop := IsTup h p its.toArray ∨ h.IsList p its.toArray
theorem SeqAt.keeps {h h' : Heap} {p : Addr} {its : List Value} (x : SeqAt h p its) (k : ∀ b o, h.get? b = some o → h'.get? b = some o) : SeqAt h' p its := by
  rcases x with ⟨o, e, r⟩ | ⟨o, e, r⟩
  · exact .inl ⟨o, k _ _ e, r⟩
  · exact .inr ⟨o, k _ _ e, r⟩
def kEx (neg : Bool) (y a : PySem.Str) (p1 p2 p3 p4 : Pos) : Expr := if neg then .UnaryOp .USub (.Subscript (.Name y p1) (.Name a p2) p3) p4 else .Subscript (.Name y p1) (.Name a p2) p3
def kBody (neg : Bool) (y a : PySem.Str) (p1 p2 p3 p4 p5 p6 : Pos) : Expr := .Tuple [kEx neg y a p1 p2 p3 p4, .Name a p5] 0 p6
def kNum (neg : Bool) (i : Int) : Int := if neg then -i else i
section
variable {prog : Program} {w : World} {A : Around} {s : Shared} {env : Env} {a y : PySem.Str} {m : PySem.Str → Option Value} {n i : Int} {t t2 : Tok} {c p : Addr} {its : List Value} {E : Value → Shared → Prop}
theorem key_ix {p1 p2 p3 : Pos} {Q : Value → Shared → Prop} (hk : env.scope.kind = .function) (hla : env.kindOf a = some .local) (hn : s.heap.Ns env.locals m) (hm : m a = some (.int n t)) (hly : env.kindOf y = some .free) (hcy : env.cells.lookup y = some c) (hcell : s.heap.IsCell c (some (.ref p)))
    (hq : SeqAt s.heap p its) (h0 : 0 ≤ n) (hb : n < 2 ^ 63) (hi : its[n.toNat]? = some (.int i t2)) (hda : (a == ("__debug__" : PySem.Str)) = false) (hdy : (y == ("__debug__" : PySem.Str)) = false) (hcl : (y == ("__classdict__" : PySem.Str)) = false) (h : Q (.int i t2) s) :
    wpAny (model prog w) A (eval (.Subscript (.Name y p1) (.Name a p2) p3) env) Q E s := by
  refine Subscript_ (wpAny_Name (wpAny_loadName_free hk hly hcy hcell ?_ hcl) hdy)
  refine wpAny_Name (wpAny_loadName_local hk hla hn hm ?_) hda
  rcases hq with hq | hq
  · have hlt : n.toNat < its.length := (List.getElem?_eq_some_iff.mp hi).1
    exact item_tupleL (j := n.toNat) hq (by omega) hb (seqIndex_of h0 (by omega)) hi h
  · exact item_listR hq h0 hb (by simpa using hi) h
theorem key_body {neg : Bool} {p1 p2 p3 p4 p5 p6 : Pos} (hk : env.scope.kind = .function) (hla : env.kindOf a = some .local) (hn : s.heap.Ns env.locals m) (hm : m a = some (.int n t)) (hly : env.kindOf y = some .free) (hcy : env.cells.lookup y = some c) (hcell : s.heap.IsCell c (some (.ref p)))
    (hq : SeqAt s.heap p its) (h0 : 0 ≤ n) (hb : n < 2 ^ 63) (hi : its[n.toNat]? = some (.int i t2)) (hda : (a == ("__debug__" : PySem.Str)) = false) (hdy : (y == ("__debug__" : PySem.Str)) = false) (hcl : (y == ("__classdict__" : PySem.Str)) = false) :
    wpAny (model prog w) A (eval (kBody neg y a p1 p2 p3 p4 p5 p6) env) (PySem.W.KeyPure (.tuple [.int (kNum neg i), .int n]) s) E s := by
  have fin : ∀ (s1 : Shared) (t3 : Tok), (∃ tk, s1 = { s with toks := tk }) → wpAny (model prog w) A (spliced [(false, eval (.Name a p5) env)]) (fun vs s₁ => (Value.int (kNum neg i) t3 :: vs).length ≤ sizeLine ∧ PySem.W.KeyPure (.tuple [.int (kNum neg i), .int n]) s (.ref s₁.heap.objs.size) { s₁ with heap := s₁.heap.push { cls := .type "tuple", data := .seq (Value.int (kNum neg i) t3 :: vs).toArray } }) E s1 := by
    rintro s1 t3 ⟨tk, rfl⟩
    refine Calls.spliced_cons (wpAny_Name (wpAny_loadName_local hk hla hn hm ?_) hda)
    refine Calls.spliced_nil ⟨?_, ?_⟩
    · show 2 ≤ sizeLine
      decide
    · refine ⟨_, tk, rfl, fun b o e => Heap.get?_push_of_some _ e, ?_⟩
      exact .tuple (as := []) (Heap.get?_push_size _ rfl) rfl rfl (.cons (as := []) (bs := []) (.int _ _) (.cons (as := []) (bs := []) (.int _ _) .nil))
  refine wpAny_Tuple_spliced ?_
  cases neg with
  | false =>
    show wpAny _ _ (spliced [(false, eval (.Subscript (.Name y p1) (.Name a p2) p3) env), (false, eval (.Name a p5) env)]) _ _ _
    exact Calls.spliced_cons (key_ix hk hla hn hm hly hcy hcell hq h0 hb hi hda hdy hcl (fin s t2 ⟨s.toks, rfl⟩))
  | true =>
    show wpAny _ _ (spliced [(false, eval (.UnaryOp .USub (.Subscript (.Name y p1) (.Name a p2) p3) p4) env), (false, eval (.Name a p5) env)]) _ _ _
    exact Calls.spliced_cons (wpAny_UnaryOp (key_ix hk hla hn hm hly hcy hcell hq h0 hb hi hda hdy hcl (neg_int (fin _ s.toks ⟨s.toks + 1, rfl⟩))))
end
/-! ### the call -/
def parK (a : PySem.Str) : Arguments → Bool
  | ⟨[], [⟨b, none, _⟩], none, [], [], none, []⟩ => decide (b = a)
  | _ => false
theorem par_bind {a : PySem.Str} {params : Arguments} (h : parK a params = true) (q : PySem.Str) (body : Expr) (scope : Scope) (cl : List (PySem.Str × Addr)) (pm cdv ct : Value) (v : Value) :
    bindArgs (PySem.W.kla_fn "<lambda>" q params body scope cl pm cdv ct) ⟨[v], []⟩ = pure [(a, v)] := by
  unfold parK at h
  split at h
  · have e := of_decide_eq_true h
    subst e
    unfold bindArgs
    simp [PySem.W.kla_fn, seqItems?]
    rw [show notAStandIn Value.none = pure () from rfl]
    simp
  · cases h
structure KSc (sc : Scope) (a y : PySem.Str) : Prop where
  kind : sc.kind = .function
  co : sc.isCoroutine = false
  gen : sc.isGenerator = false
  nocell : ∀ x ∈ sc.names, x.2 ≠ .cell
  a_ : sc.names.lookup a = some .local
  y_ : sc.names.lookup y = some .free
section
variable {prog : Program} {w : World} {A : Around} {s : Shared} {a y : PySem.Str} {n i : Int} {t t2 : Tok} {c p f c' : Addr} {its : List Value} {q : PySem.Str} {params : Arguments} {scope : Scope} {cl : List (PySem.Str × Addr)} {pm ctv : Value}
theorem key_call {neg : Bool} {p1 p2 p3 p4 p5 p6 : Pos} (hroom : A.depth < recursionLimit) (hf : s.heap.get? f = some (PySem.W.kla_obj "<lambda>" q params (kBody neg y a p1 p2 p3 p4 p5 p6) scope cl pm c' ctv))
    (hco : ∃ (oc : Obj) (vs : Array Value) (t : Tok), s.heap.get? c' = some oc ∧ oc.data = .fields vs ∧ vs[1]? = some (.str q t)) (hlim : s.heap.NoLimit) (hp : parK a params = true) (S : KSc scope a y)
    (hcy : cl.lookup y = some c) (hcell : s.heap.IsCell c (some (.ref p))) (hq : SeqAt s.heap p its) (h0 : 0 ≤ n) (hb : n < 2 ^ 63) (hi : its[n.toNat]? = some (.int i t2))
    (hda : (a == ("__debug__" : PySem.Str)) = false) (hdy : (y == ("__debug__" : PySem.Str)) = false) (hcl : (y == ("__classdict__" : PySem.Str)) = false) :
    wpAny (model prog w) A (call (.ref f) [.int n t]) (PySem.W.KeyPure (.tuple [.int (kNum neg i), .int n]) s) (fun _ _ => False) s := by
  obtain ⟨oc, vs, tq, hoc, hdc, hvc⟩ := hco
  refine wpAny_call ?_
  refine PySem.W.kla_callFunE hroom hf rfl S.co S.gen rfl ⟨c', oc, vs, tq, rfl, hoc, hdc, hvc⟩ ?_
  rw [par_bind hp]
  refine wpAny_pure (wpAny_newFunctionEnv S.nocell (fun x hx => ?_) (fun h₁ hns hsb => ⟨hlim.fresh _ hsb, ?_⟩) S.kind)
  · rw [List.mem_singleton] at hx
    rw [hx]
    exact S.a_
  · have kp : ∀ b o, s.heap.get? b = some o → h₁.get? b = some o := fun b o e => hsb.extBut b o (Nat.ne_of_lt (Heap.lt_size e)) (Heap.get?_push_of_some _ e)
    refine PySem.W.kla_codeExpr ?_
    refine wpAny_mono (key_body (A := _) (s := { s with heap := h₁, toks := s.toks + 1 }) (E := fun _ _ => False) (m := fun x => List.lookup x [(a, Value.int n t)].reverse) (n := n) (t := t) (i := i) (t2 := t2) (c := c) (p := p) (its := its) (neg := neg) (a := a) (y := y) S.kind S.a_ hns ?_ S.y_ hcy ?_ (hq.keeps kp) h0 hb hi hda hdy hcl) (fun v s' r => ?_) fun _ _ x => x.elim
    · simp
    · obtain ⟨o, e, d⟩ := hcell
      exact ⟨o, kp _ _ e, d⟩
    · obtain ⟨h', tk, rfl, k2, r⟩ := r
      exact ⟨h', tk, rfl, fun b o e => k2 b o (kp b o e), r⟩
end
end R
end

section
set_option Elab.async false
set_option linter.all false
set_option maxRecDepth 100000
set_option maxHeartbeats 2000000
/-! R3: rules beside the layer's own: sums of tuples, x is True of any x, what a loop walks. -/
namespace R3
open PySem PySem.Spec PyProof.Rows L2

section
variable {prog : Program} {w : World} {A : Around} {E : Value → Shared → Prop} {s : Shared} {l : Addr} {xs : Array (Int × Tok)} {its : List Value} {ns : List Int} {Q : Value → Shared → Prop}
theorem iter_tup (hl : s.heap.IsTuple l (intItems xs))
    (h : ∀ s₂ : Shared, s₂ = { s with heap := s.heap.push { cls := .type "tuple_iterator", data := .fields #[.ref l, .int 0 0] } } →
      (s₂.heap.IsTupleIter s.heap.objs.size l 0 ∧ s₂.heap.IsTuple l (intItems xs)) → (∀ b ∈ [s.heap.objs.size, l], b < s₂.heap.objs.size) → l ≠ s.heap.objs.size → Q (.ref s.heap.objs.size) s₂) :
    wpAny (model prog w) A (pyIter (.ref l)) Q E s := by
  have hlt : l < s.heap.objs.size := by obtain ⟨_, e, _⟩ := hl; exact Heap.lt_size e
  have hl2 : (s.heap.push { cls := .type "tuple_iterator", data := .fields #[.ref l, .int 0 0] }).IsTuple l (intItems xs) := by
    obtain ⟨o, e, r⟩ := hl
    exact ⟨o, Heap.get?_push_of_some _ e, r⟩
  refine wpAny_pyIter_tuple hl (h _ rfl ⟨⟨_, Heap.get?_push_size _ rfl, rfl, rfl⟩, hl2⟩ (fun b hb => ?_) (Nat.ne_of_lt hlt))
  show b < (s.heap.push _).objs.size
  rw [Heap.size_push]
  rcases List.mem_cons.mp hb with rfl | hb
  · exact Nat.lt_succ_self _
  · rcases List.mem_cons.mp hb with rfl | hb
    · exact Nat.lt_succ_of_lt hlt
    · cases hb
theorem old_kept {h' : Heap} (hk : ∀ b o, b ∉ [s.heap.objs.size] → (s.heap.push { cls := .type "tuple_iterator", data := .fields #[.ref l, .int 0 0] }).get? b = some o → h'.get? b = some o) :
    ∀ b o, s.heap.get? b = some o → h'.get? b = some o := fun b o e => by
  refine hk b o (fun hm => ?_) (Heap.get?_push_of_some _ e)
  rcases List.mem_cons.mp hm with e1 | hm
  · exact absurd (e1 ▸ Heap.lt_size e) (Nat.lt_irrefl _)
  · cases hm
theorem sum_tup (hh : A.handled = none) (hl : s.heap.IsTuple l (intItems xs))
    (h : ∀ h' tk t', (∀ b o, s.heap.get? b = some o → h'.get? b = some o) → Q (.int (preSum (numAt xs) xs.size) t') { s with heap := h', toks := tk }) :
    wpAny (model prog w) A (call (.builtin "sum") [.ref l]) Q E s := by
  refine call_sum_walkG (iter_tup hl fun s₂ e st hfp hlI => ?_)
  subst e
  refine ⟨_, _, _, _, _, _, numAt xs, rfl, Walks.tuple (A := A.in1) hh _ l hlI (intItems xs), st, hfp, (fun _ _ => intItems_at), fun h' tk t' hk => ?_⟩
  have := h h' tk t' (old_kept hk)
  simpa [intItems] using this
theorem max_tup (hh : A.handled = none) (hl : s.heap.IsTuple l (intItems xs)) (hne : 0 < xs.size)
    (h : ∀ v h' tk, (intItems xs)[argBest (fun i j => decide (numAt xs i > numAt xs j)) (xs.size - 1)]? = some v → (∀ b o, s.heap.get? b = some o → h'.get? b = some o) → Q v { s with heap := h', toks := tk }) :
    wpAny (model prog w) A (call (.builtin "max") [.ref l]) Q E s := by
  refine call_max_walk (iter_tup hl fun s₂ e st hfp hlI => ?_)
  subst e
  refine ⟨_, _, _, _, _, _, _, rfl, Walks.tuple (A := A.in1) hh _ l hlI (intItems xs), st, hfp, by simpa [intItems] using hne, CmpOf.ints_gt (numAt xs) (fun _ _ => intItems_at), fun v h' tk hP hk => ?_⟩
  exact h v h' tk (by simpa [intItems] using hP) (old_kept hk)
theorem min_tup (hh : A.handled = none) (hl : s.heap.IsTuple l (intItems xs)) (hne : 0 < xs.size)
    (h : ∀ v h' tk, (intItems xs)[argBest (fun i j => decide (numAt xs i < numAt xs j)) (xs.size - 1)]? = some v → (∀ b o, s.heap.get? b = some o → h'.get? b = some o) → Q v { s with heap := h', toks := tk }) :
    wpAny (model prog w) A (call (.builtin "min") [.ref l]) Q E s := by
  refine call_min_walk (iter_tup hl fun s₂ e st hfp hlI => ?_)
  subst e
  refine ⟨_, _, _, _, _, _, _, rfl, Walks.tuple (A := A.in1) hh _ l hlI (intItems xs), st, hfp, by simpa [intItems] using hne, CmpOf.ints_lt (numAt xs) (fun _ _ => intItems_at), fun v h' tk hP hk => ?_⟩
  exact h v h' tk (by simpa [intItems] using hP) (old_kept hk)
theorem sumT_raw (hh : A.handled = none) (hl : s.heap.IsTuple l its.toArray) (hi : IntsAre its ns)
    (h : ∀ h' tk t', (∀ b o, s.heap.get? b = some o → h'.get? b = some o) → Q (.int ns.sum t') { s with heap := h', toks := tk }) : wpAny (model prog w) A (call (.builtin "sum") [.ref l]) Q E s := by
  obtain ⟨xs, e⟩ := hi.allInts.items
  have hn : numsOf (intItems xs).toList = ns := by rw [← e]; exact hi.numsOf
  rw [nums_intItems] at hn
  rw [e] at hl
  refine sum_tup hh hl fun h' tk t' hk => ?_
  have := h h' tk t' hk
  rw [preSum_eq, List.take_of_length_le (by simp), hn]; exact this
theorem maxT_raw (hh : A.handled = none) (hl : s.heap.IsTuple l its.toArray) (hi : IntsAre its ns) (hne : 0 < ns.length)
    (h : ∀ h' tk M t', (∀ b o, s.heap.get? b = some o → h'.get? b = some o) → M ∈ ns → (∀ a, a ∈ ns → a ≤ M) → Q (.int M t') { s with heap := h', toks := tk }) : wpAny (model prog w) A (call (.builtin "max") [.ref l]) Q E s := by
  obtain ⟨xs, e⟩ := hi.allInts.items
  have hn : numsOf (intItems xs).toList = ns := by rw [← e]; exact hi.numsOf
  rw [nums_intItems] at hn
  subst hn
  rw [e] at hl
  have hsz : 0 < xs.size := by simpa using hne
  refine max_tup hh hl hsz fun v h' tk hv hk => ?_
  obtain ⟨t, rfl⟩ := intItems_at hv
  obtain ⟨h1, h2⟩ := argBest_gt (numAt xs) (xs.size - 1)
  refine h h' tk _ t hk ?_ fun a ha => ?_
  · rw [numAt_eq]; exact PySem.getD_mem (by rw [List.length_map, Array.length_toList]; omega)
  · obtain ⟨j, hj, rfl⟩ := mem_getD ha
    rw [List.length_map, Array.length_toList] at hj
    rw [← numAt_eq]; exact h2 j (by omega)
theorem minT_raw (hh : A.handled = none) (hl : s.heap.IsTuple l its.toArray) (hi : IntsAre its ns) (hne : 0 < ns.length)
    (h : ∀ h' tk M t', (∀ b o, s.heap.get? b = some o → h'.get? b = some o) → M ∈ ns → (∀ a, a ∈ ns → M ≤ a) → Q (.int M t') { s with heap := h', toks := tk }) : wpAny (model prog w) A (call (.builtin "min") [.ref l]) Q E s := by
  obtain ⟨xs, e⟩ := hi.allInts.items
  have hn : numsOf (intItems xs).toList = ns := by rw [← e]; exact hi.numsOf
  rw [nums_intItems] at hn
  subst hn
  rw [e] at hl
  have hsz : 0 < xs.size := by simpa using hne
  refine min_tup hh hl hsz fun v h' tk hv hk => ?_
  obtain ⟨t, rfl⟩ := intItems_at hv
  obtain ⟨h1, h2⟩ := argBest_lt (numAt xs) (xs.size - 1)
  refine h h' tk _ t hk ?_ fun a ha => ?_
  · rw [numAt_eq]; exact PySem.getD_mem (by rw [List.length_map, Array.length_toList]; omega)
  · obtain ⟨j, hj, rfl⟩ := mem_getD ha
    rw [List.length_map, Array.length_toList] at hj
    rw [← numAt_eq]; exact h2 j (by omega)
end

section
variable {X : Cx}
/-- a list or a tuple of ints -/
def SqI (K : PySem.W.Frag) (H : Hp) (a : Addr) (ns : List Int) : Prop := SqL K H a (ns.map V.int) ∨ SqT K H a (ns.map V.int)
def rSumA (K : PySem.W.Frag) : List V → Hp → VK → Prop := fun vs H Q => ∃ (a : Addr) (ns : List Int), vs = [V.ref a] ∧ SqI K H a ns ∧ Q (.int ns.sum) H
def rMaxA (K : PySem.W.Frag) : List V → Hp → VK → Prop := fun vs H Q => ∃ (a : Addr) (ns : List Int), vs = [V.ref a] ∧ SqI K H a ns ∧ 0 < ns.length ∧ ∀ m, m ∈ ns → (∀ y, y ∈ ns → y ≤ m) → Q (.int m) H
def rMinA (K : PySem.W.Frag) : List V → Hp → VK → Prop := fun vs H Q => ∃ (a : Addr) (ns : List Int), vs = [V.ref a] ∧ SqI K H a ns ∧ 0 < ns.length ∧ ∀ m, m ∈ ns → (∀ y, y ∈ ns → m ≤ y) → Q (.int m) H
theorem cr_sumA (hc : X.calm = true) : CallR X (.builtin "sum") (rSumA X.K) := by
  intro pins s σ H vs us Q I r h
  obtain ⟨a, ns, rfl, hs, q⟩ := h
  rw [Vals.ref1 r]
  rcases hs with hs | hs
  · obtain ⟨its, rv, hl, _⟩ := I.list hs
    exact sum_raw (I.ok.hd hc) hl.isList rv.ints fun h' tk t' hk => ⟨.int _, H, I.kept hk, ⟨_, rfl⟩, q⟩
  · obtain ⟨its, rv, hl, _⟩ := I.tuple hs
    exact sumT_raw (I.ok.hd hc) (show s.heap.IsTuple a its.toArray from hl) rv.ints fun h' tk t' hk => ⟨.int _, H, I.kept hk, ⟨_, rfl⟩, q⟩
theorem cr_maxA (hc : X.calm = true) : CallR X (.builtin "max") (rMaxA X.K) := by
  intro pins s σ H vs us Q I r h
  obtain ⟨a, ns, rfl, hs, hne, q⟩ := h
  rw [Vals.ref1 r]
  rcases hs with hs | hs
  · obtain ⟨its, rv, hl, _⟩ := I.list hs
    exact max_raw (I.ok.hd hc) hl.isList rv.ints hne fun h' tk m t' hk h1 h2 => ⟨.int _, H, I.kept hk, ⟨_, rfl⟩, q m h1 h2⟩
  · obtain ⟨its, rv, hl, _⟩ := I.tuple hs
    exact maxT_raw (I.ok.hd hc) (show s.heap.IsTuple a its.toArray from hl) rv.ints hne fun h' tk m t' hk h1 h2 => ⟨.int _, H, I.kept hk, ⟨_, rfl⟩, q m h1 h2⟩
theorem cr_minA (hc : X.calm = true) : CallR X (.builtin "min") (rMinA X.K) := by
  intro pins s σ H vs us Q I r h
  obtain ⟨a, ns, rfl, hs, hne, q⟩ := h
  rw [Vals.ref1 r]
  rcases hs with hs | hs
  · obtain ⟨its, rv, hl, _⟩ := I.list hs
    exact min_raw (I.ok.hd hc) hl.isList rv.ints hne fun h' tk m t' hk h1 h2 => ⟨.int _, H, I.kept hk, ⟨_, rfl⟩, q m h1 h2⟩
  · obtain ⟨its, rv, hl, _⟩ := I.tuple hs
    exact minT_raw (I.ok.hd hc) (show s.heap.IsTuple a its.toArray from hl) rv.ints hne fun h' tk m t' hk h1 h2 => ⟨.int _, H, I.kept hk, ⟨_, rfl⟩, q m h1 h2⟩

/-! ### x is True, x is False, of any x -/
theorem op_isBg : OpR X (compareOp .Is) (fun x y H Q => ∃ b, y = .bl b ∧ Q (.bl (decide (x = .bl b))) H) := by
  intro pins s σ H x y v u Q I rx ry h
  obtain ⟨b, rfl, q⟩ := h
  cases (show u = Value.bool b from ry)
  cases x with
  | bl a =>
    cases (show v = Value.bool a from rx)
    by_cases e : a = b
    · subst e
      exact wpAny_is_self rfl ⟨.bl true, H, I, rfl, by simpa using q⟩
    · exact wpAny_is_other rfl (fun z => e (Value.bool.inj z)) ⟨.bl false, H, I, rfl, by simpa [e] using q⟩
  | non => cases rx; exact wpAny_is_other rfl (fun z => nomatch z) ⟨.bl false, H, I, rfl, by simpa using q⟩
  | int i => obtain ⟨t, rfl⟩ := rx; exact wpAny_is_other rfl (fun z => nomatch z) ⟨.bl false, H, I, rfl, by simpa using q⟩
  | str i => obtain ⟨t, rfl⟩ := rx; exact wpAny_is_other rfl (fun z => nomatch z) ⟨.bl false, H, I, rfl, by simpa using q⟩
  | byt i => obtain ⟨t, rfl⟩ := rx; exact wpAny_is_other rfl (fun z => nomatch z) ⟨.bl false, H, I, rfl, by simpa using q⟩
  | flt i => obtain ⟨t, rfl⟩ := rx; exact wpAny_is_other rfl (fun z => nomatch z) ⟨.bl false, H, I, rfl, by simpa using q⟩
  | ref a => cases rx; exact wpAny_is_other rfl (fun z => nomatch z) ⟨.bl false, H, I, rfl, by simpa using q⟩
  | ty n => cases rx; exact wpAny_is_other rfl (fun z => nomatch z) ⟨.bl false, H, I, rfl, by simpa using q⟩
theorem op_notBg : OpR X (compareOp .IsNot) (fun x y H Q => ∃ b, y = .bl b ∧ Q (.bl (!decide (x = .bl b))) H) := by
  intro pins s σ H x y v u Q I rx ry h
  obtain ⟨b, rfl, q⟩ := h
  cases (show u = Value.bool b from ry)
  cases x with
  | bl a =>
    cases (show v = Value.bool a from rx)
    by_cases e : a = b
    · subst e
      exact wpAny_isNot_self rfl ⟨.bl false, H, I, rfl, by simpa using q⟩
    · exact wpAny_isNot_other rfl (fun z => e (Value.bool.inj z)) ⟨.bl true, H, I, rfl, by simpa [e] using q⟩
  | non => cases rx; exact wpAny_isNot_other rfl (fun z => nomatch z) ⟨.bl true, H, I, rfl, by simpa using q⟩
  | int i => obtain ⟨t, rfl⟩ := rx; exact wpAny_isNot_other rfl (fun z => nomatch z) ⟨.bl true, H, I, rfl, by simpa using q⟩
  | str i => obtain ⟨t, rfl⟩ := rx; exact wpAny_isNot_other rfl (fun z => nomatch z) ⟨.bl true, H, I, rfl, by simpa using q⟩
  | byt i => obtain ⟨t, rfl⟩ := rx; exact wpAny_isNot_other rfl (fun z => nomatch z) ⟨.bl true, H, I, rfl, by simpa using q⟩
  | flt i => obtain ⟨t, rfl⟩ := rx; exact wpAny_isNot_other rfl (fun z => nomatch z) ⟨.bl true, H, I, rfl, by simpa using q⟩
  | ref a => cases rx; exact wpAny_isNot_other rfl (fun z => nomatch z) ⟨.bl true, H, I, rfl, by simpa using q⟩
  | ty n => cases rx; exact wpAny_isNot_other rfl (fun z => nomatch z) ⟨.bl true, H, I, rfl, by simpa using q⟩

/-! ### what is walked: a list or a tuple -/
def iSeq (K : PySem.W.Frag) (tl : TE) : TI := fun σ H R => tl σ H fun x H1 => ∃ a xs, x = .ref a ∧ ((SqL K H1 a xs ∧ R (Itl K a) H1) ∨ (SqT K H1 a xs ∧ R (Itt K a) H1))
theorem pi_seq {tg l : Expr} {tl : TE} (hl : PE X l tl) : PI X tg l (iSeq X.K tl) := by
  refine ⟨fun pins s σ H R I h => ?_⟩
  refine thn (hl.run pins s σ H _ I h) fun v s1 ⟨x, H1, I1, r1, q1⟩ => ?_
  obtain ⟨a, xs, e, q1⟩ := q1
  subst e
  cases r1
  rcases q1 with ⟨hq, q⟩ | ⟨hq, q⟩
  · obtain ⟨its, rv, p, hz⟩ := I1.list hq
    refine wpAny_pyIter_list p.isList ?_
    refine ⟨s1.heap.objs.size, [s1.heap.objs.size], _, _, H1, rfl, I1.kept (t' := s1.toks) fun b o e => Heap.get?_push_of_some _ e, turn_list a _, ⟨_, Heap.get?_push_size _ rfl, rfl, rfl⟩, fun b hb => ?_, q⟩
    have e : b = s1.heap.objs.size := by simpa using hb
    subst e
    exact I1.fpOk (Nat.le_refl _) (I1.hok.fresh (Nat.le_refl _))
  · obtain ⟨its, rv, p, hz⟩ := I1.tuple hq
    refine wpAny_pyIter_tuple (show s1.heap.IsTuple a its.toArray from p) ?_
    refine ⟨s1.heap.objs.size, [s1.heap.objs.size], _, _, H1, rfl, I1.kept (t' := s1.toks) fun b o e => Heap.get?_push_of_some _ e, turn_tuple a _, ⟨_, Heap.get?_push_size _ rfl, rfl, rfl⟩, fun b hb => ?_, q⟩
    have e : b = s1.heap.objs.size := by simpa using hb
    subst e
    exact I1.fpOk (Nat.le_refl _) (I1.hok.fresh (Nat.le_refl _))
end
end R3
end

section
set_option Elab.async false
set_option linter.all false
set_option maxRecDepth 100000
set_option maxHeartbeats 4000000
/-! R4: the compact form against the text; what an expression yields stands in the heap. -/
namespace R
open PySem PySem.Spec PyProof.Rows L2

/-! ### what is known of a text -/
inductive FnN where
  | glob (x : PySem.Str) (n : Nat) | init (c n : Nat) | meth (c : Nat) (m : PySem.Str) (n : Nat) | prop (c : Nat) (m : PySem.Str)
structure ClsI where
  name : PySem.Str
  flds : List PySem.Str
  dfl : List D := []
structure ExcI where
  name : PySem.Str
  flds : List PySem.Str
structure Th where
  fns : List FnN
  cls : List ClsI
  exs : List ExcI
  gcd : Bool := false
  /-- slot 0 is never bound -/
  hid : Bool := false
  /-- lambdas are made -/
  lam : Bool := false

/-! ### what is wanted behind a result -/
def ExcR (W : Wo) (Z H : Hp) (c : Nat) (fs : List D) (dx : Option Addr) : Prop :=
  (W.xf c = [] ∧ fs = [] ∧ dx = none) ∨ ∃ a vs, dx = some a ∧ H a = some (.xd ((W.xf c).zip vs)) ∧ vs.length = (W.xf c).length ∧ RepL W Z fs vs
def PostE {α β : Type} (W : Wo) (Rp : Hp → α → β → Prop) (Z H : Hp) (r : Res α) (Q : β → Hp → Prop) (E : XK) : Prop := match r with
  | .ok d => ∀ v Z' H', Ext W Z H Z' H' → Rp Z' d v → Q v H'
  | .ex c fs => ∀ dx Z' H', Ext W Z H Z' H' → ExcR W Z' H' c fs dx → E (.ref (W.xA c)) dx H'
  | .bad => False
theorem PostE_bad {α β : Type} {W : Wo} {Rp : Hp → α → β → Prop} {Z H : Hp} {Q : β → Hp → Prop} {E : XK} : PostE W Rp Z H .bad Q E = False := rfl
def PostT (W : Wo) (Z H : Hp) (r : Res T) (Q : VK) (E : XK) : Prop := match r with
  | .ok t => ∀ v Z' H' as, Ext W Z H Z' H' → RepT W Z' H' t v as → (∀ b ∈ as, H b = none ∧ Z' b = none) → as.Nodup → Q v H'
  | .ex c fs => ∀ dx Z' H', Ext W Z H Z' H' → ExcR W Z' H' c fs dx → E (.ref (W.xA c)) dx H'
  | .bad => False
/-- a def's promise -/
def spF (W : Wo) (Φ : Or) (f n : Nat) : Sp := fun vs H Q E => vs.length = n ∧ ∃ ds Z, Zh W Z H ∧ RepL W Z ds vs ∧ PostT W Z H (Φ f ds) Q E
/-- an __init__'s promise: x is the new object, Hb the heap without it -/
def spI (W : Wo) (Φ : Or) (f c n : Nat) : Sp := fun vs H Q E => vs.length = n ∧ ∃ x dx Hb us ds Z, vs = .ref x :: us ∧ H = upd (upd Hb dx (.own x)) x (.ins (W.cA c) dx []) ∧ Hb x = none ∧ Hb dx = none ∧ dx ≠ x ∧
  Zh W Z Hb ∧ RepL W Z ds us ∧ match Φ f (.non :: ds) with
    | .ok t => match t with
      | .sh d => ∀ Z' H', Ext W Z Hb Z' H' → Rep W Z' d (.ref x) → Q .non H'
      | _ => False
    | .ex c fs => ∀ dy Z' H', Ext W Z Hb Z' H' → ExcR W Z' H' c fs dy → E (.ref (W.xA c)) dy H'
    | .bad => False

def tyOfD (W : Wo) : D → Value
  | .non => .type "NoneType"
  | .bl _ => .type "bool"
  | .int _ => .type "int"
  | .str _ => .type "str"
  | .tup _ => .type "tuple"
  | .lst _ => .type "list"
  | .fz _ => .type "list"
  | .obj c _ => .ref (W.cA c)
def tyVal (W : Wo) : Ty → Value
  | .int => .type "int"
  | .bool => .type "bool"
  | .str => .type "str"
  | .list => .type "list"
  | .tuple => .type "tuple"
  | .cls c => .ref (W.cA c)
def bNames : List PySem.Str := ["len", "abs", "int", "min", "max", "sum", "tuple", "list", "sorted", "range", "isinstance", "zip", "all", "bool", "str"]
structure ClsFacts (W : Wo) (T : Th) (c : Nat) (ci : ClsI) : Prop where
  cl : Cls W.K (W.cA c)
  fl : W.fl c = ci.flds
  nd : ci.flds.Nodup
  na : ∀ f ∈ ci.flds, NoAttr W.K (W.cA c) f
  ha : PySem.W.findIn W.K (.ref (W.cA c)) "__class__" = some (some (.builtin "object.__class__"))
  hm : PySem.W.mroIn W.K (W.cA c) (.type "object") = some true
  isO : ∀ t, (∀ c', t = .cls c' → c' < T.cls.length) → PySem.W.kitOne W.K (.ref (W.cA c)) (tyVal W t) = some (hasTy t (.obj c []))
  isB : ∀ n ∈ ["int", "bool", "str", "list", "tuple", "NoneType"], PySem.W.kitOne W.K (.type n) (.ref (W.cA c)) = some false
/-- a context in which the compact form means what it says -/
structure Good (T : Th) (W : Wo) (Φ : Or) (k : Nat) (N : List PySem.Str) (sc : Scope) (X : Cx) : Prop where
  hN : X.N = N
  nd : List.Nodup N
  hsc : X.env.scope = sc
  calm : X.calm = true
  room : Room k X.A
  hK : X.K = W.K
  blt : ∀ x ∈ bNames, X.mg x = none
  gcd : T.gcd = true → X.mg "gcd" = some (.builtin "math.gcd")
  fn : ∀ f x n, T.fns[f]? = some (.glob x n) → ∃ a fd ps, ps.length = n ∧ X.mg x = some (.ref a) ∧ PySem.W.keepIn W.K (.ref a) = true ∧
    FnOk X.prog X.w W.K X.mg X.base (L2.CX X.prog X.w) k a fd ps (spF W Φ f ps.length) ∧ Binds W.K fd ps []
  hid : W.s0 ≠ none → T.hid = true
  nC : W.nC = T.cls.length
  cls : ∀ c ci, T.cls[c]? = some ci → ClsFacts W T c ci
  clsg : ∀ c ci, T.cls[c]? = some ci → X.mg ci.name = some (.ref (W.cA c))
  dc : PySem.W.specialIn W.K (.builtin "object.__class__") "__get__" = some (some (.builtin "getset_descriptor.__get__")) ∧ PySem.W.takesIn W.K (.builtin "object.__class__") = some true
  mkc : ∀ f c n ci, T.fns[f]? = some (.init c n) → T.cls[c]? = some ci → ∃ fI fd ps j, j + 1 ≤ k ∧ ps.length = n ∧ X.mg ci.name = some (.ref (W.cA c)) ∧ Mk W.K (W.cA c) fI ∧
    FnOk X.prog X.w W.K X.mg X.base (L2.CX X.prog X.w) j fI fd ps (spI W Φ f c ps.length) ∧
    (Binds W.K fd ps []) ∧ ∃ ds dvs, Binds W.K fd ps ds ∧ Vals dvs ds ∧ ∀ Z, RepL W Z ci.dfl dvs

section
variable {T : Th} {W : Wo} {Φ : Or} {k : Nat} {N : List PySem.Str} {sc : Scope} {X : Cx}
/-- the block of a comprehension -/
theorem Good.blk (G : Good T W Φ k N sc X) (s : Shared) (H : Hp) (scope : Scope) (C : Addr) (cl : List (PySem.Str × Addr)) (fp : List Addr) :
    Good T W Φ k N (relS scope sc) (X.blk s H scope (compEnvC scope cl C X.env) fp) :=
  ⟨G.hN, G.nd, by rw [← G.hsc]; rfl, G.calm, G.room, G.hK, G.blt, G.gcd, G.fn, G.hid, G.nC, G.cls, G.clsg, G.dc, G.mkc⟩
theorem _root_.L2.PE.imp {X : Cx} {e : Expr} {t t' : TE} (h : PE X e t) (i : ∀ σ H Q, t' σ H Q → t σ H Q) : PE X e t' := ⟨fun pins s σ H Q I q => h.run pins s σ H Q I (i σ H Q q)⟩
theorem _root_.L2.PT.imp {X : Cx} {e : Expr} {t t' : TT} (h : PT X e t) (i : ∀ σ H Q, t' σ H Q → t σ H Q) : PT X e t' := ⟨fun pins s σ H Q I q => h.run pins s σ H Q I (i σ H Q q)⟩
theorem _root_.L2.PA.imp {X : Cx} {e : List Expr} {t t' : TA} (h : PA X e t) (i : ∀ σ H Q, t' σ H Q → t σ H Q) : PA X e t' := ⟨fun pos pins s σ H Q I q => h.run pos pins s σ H Q I (i σ H Q q)⟩
end

/-! ### readings -/
section
variable (W : Wo) (Φ : Or)
def tE (e : E) (Wx : WX) : TE := fun σ H Q => ∃ Δ Z, EnvOk W Z σ Δ ∧ Zh W Z H ∧ PostE W (Rep W) Z H (ev Φ e Δ) Q fun c d H' => Wx c d σ H'
def tEs (es : List E) (Wx : WX) : TA := fun σ H Q => ∃ Δ Z, EnvOk W Z σ Δ ∧ Zh W Z H ∧ PostE W (RepL W) Z H (evs Φ es Δ) Q fun c d H' => Wx c d σ H'
def RepB (_ : Hp) (b : Bool) (c : Bool) : Prop := c = b
def tT (e : E) (Wx : WX) : TT := fun σ H Q => ∃ Δ Z, EnvOk W Z σ Δ ∧ Zh W Z H ∧ PostE W RepB Z H (tob (ev Φ e Δ)) Q fun c d H' => Wx c d σ H'
def tTs (es : List E) (Wx : WX) : TT := fun σ H Q => ∃ Δ Z, EnvOk W Z σ Δ ∧ Zh W Z H ∧ PostE W RepB Z H (evc Φ es Δ) Q fun c d H' => Wx c d σ H'
end
section
variable {W : Wo} {Φ : Or} {Wx : WX} {α β γ δ : Type} {Rp : Hp → α → β → Prop} {Rq : Hp → γ → δ → Prop} {Z H Z1 H1 : Hp} {σ : L2.St} {Δ : List (Option D)} {Ek : XK}
theorem PostE.ext {r : Res α} {Q : β → Hp → Prop} (h : PostE W Rp Z H r Q Ek) (x : Ext W Z H Z1 H1) : PostE W Rp Z1 H1 r Q Ek := by
  cases r with
  | ok d => exact fun v Z' H' y q => h v Z' H' (x.trans y) q
  | ex c fs => exact fun dx Z' H' y q => h dx Z' H' (x.trans y) q
  | bad => exact h
theorem PostE.imp {r : Res α} {Q Q' : β → Hp → Prop} (h : PostE W Rp Z H r Q Ek) (i : ∀ v H', Q v H' → Q' v H') : PostE W Rp Z H r Q' Ek := by
  cases r with
  | ok d => exact fun v Z' H' y q => i _ _ (h v Z' H' y q)
  | ex c fs => exact h
  | bad => exact h
theorem PostE.bind {r : Res α} {f : α → Res γ} {Q : δ → Hp → Prop} (h : PostE W Rq Z H (r.bind f) Q Ek) : PostE W Rp Z H r (fun v H1 => ∃ d Z1, r = .ok d ∧ Ext W Z H Z1 H1 ∧ Rp Z1 d v ∧ PostE W Rq Z1 H1 (f d) Q Ek) Ek := by
  cases r with
  | ok d => exact fun v Z' H' x q => ⟨d, Z', rfl, x, q, h.ext x⟩
  | ex c fs => exact h
  | bad => exact h
theorem PostE.ret {d : α} {v : β} {Q : β → Hp → Prop} (h : PostE W Rp Z H (.ok d) Q Ek) (z : Zh W Z H) (r : Rp Z d v) : Q v H := h v Z H (Ext.refl z) r
/-- one part first -/
theorem tE_bind {a : E} {f : D → Res γ} {Q : δ → Hp → Prop} (hE : EnvOk W Z σ Δ) (hz : Zh W Z H) (h : PostE W Rq Z H ((ev Φ a Δ).bind f) Q fun c d H' => Wx c d σ H') :
    tE W Φ a Wx σ H fun v H1 => ∃ d Z1, Ext W Z H Z1 H1 ∧ Rep W Z1 d v ∧ PostE W Rq Z1 H1 (f d) Q fun c d H' => Wx c d σ H' :=
  ⟨Δ, Z, hE, hz, (PostE.bind (Rp := Rep W) h).imp fun v H1 ⟨d, Z1, _, x, r, q⟩ => ⟨d, Z1, x, r, q⟩⟩
theorem tEs_bind {a : List E} {f : List D → Res γ} {Q : δ → Hp → Prop} (hE : EnvOk W Z σ Δ) (hz : Zh W Z H) (h : PostE W Rq Z H ((evs Φ a Δ).bind f) Q fun c d H' => Wx c d σ H') :
    tEs W Φ a Wx σ H fun v H1 => ∃ d Z1, Ext W Z H Z1 H1 ∧ RepL W Z1 d v ∧ PostE W Rq Z1 H1 (f d) Q fun c d H' => Wx c d σ H' :=
  ⟨Δ, Z, hE, hz, (PostE.bind (Rp := RepL W) h).imp fun v H1 ⟨d, Z1, _, x, r, q⟩ => ⟨d, Z1, x, r, q⟩⟩
theorem tT_bind {a : E} {f : Bool → Res γ} {Q : δ → Hp → Prop} (hE : EnvOk W Z σ Δ) (hz : Zh W Z H) (h : PostE W Rq Z H ((tob (ev Φ a Δ)).bind f) Q fun c d H' => Wx c d σ H') :
    tT W Φ a Wx σ H fun v H1 => ∃ Z1, Ext W Z H Z1 H1 ∧ PostE W Rq Z1 H1 (f v) Q fun c d H' => Wx c d σ H' :=
  ⟨Δ, Z, hE, hz, (PostE.bind (Rp := RepB) h).imp fun v H1 ⟨d, Z1, _, x, r, q⟩ => ⟨Z1, x, by rw [show v = d from r]; exact q⟩⟩
end
end R
end

section
set_option Elab.async false
set_option linter.all false
set_option maxRecDepth 100000
set_option maxHeartbeats 4000000
/-! R5: the compact form of an expression, checked against the text. -/
namespace R
open PySem PySem.Spec PyProof.Rows L2

def visB (sc : Scope) (x : PySem.Str) : Bool := match sc.names.lookup x with
  | some .local => true
  | some .cell => true
  | some .free => true
  | _ => false
def locB (sc : Scope) (x : PySem.Str) : Bool := match sc.names.lookup x with
  | some .local => true
  | some .cell => true
  | _ => false
def lclB (sc : Scope) (x : PySem.Str) : Bool := match sc.names.lookup x with
  | some .local => true
  | _ => false
def celB (sc : Scope) (x : PySem.Str) : Bool := match sc.names.lookup x with
  | some .cell => true
  | _ => false
def glB (sc : Scope) (x : PySem.Str) : Bool := match sc.names.lookup x with
  | some .globalImplicit => true
  | _ => false
def plainNm (x : PySem.Str) : Bool := !(x == ("__debug__" : PySem.Str)) && !(x == ("__classdict__" : PySem.Str))
def nst : Expr → Bool
  | .Starred _ _ => false
  | _ => true
def nsup : Expr → Bool
  | .Call (.Name _ _) [] [] _ => false
  | _ => true
def nsl : Expr → Bool
  | .Slice _ _ _ _ => false
  | _ => true
def nset : Expr → Bool
  | .Set _ _ _ => false
  | _ => true
def binO : O2 → Operator → Bool
  | .add, .Add => true | .sub, .Sub => true | .mul, .Mult => true | .fdiv, .FloorDiv => true | .mod, .Mod => true | .pow, .Pow => true | .shl, .LShift => true
  | _, _ => false
def cmpO : O2 → CmpOp → Bool
  | .eq, .Eq => true | .ne, .NotEq => true | .lt, .Lt => true | .le, .LtE => true | .gt, .Gt => true | .ge, .GtE => true | .isin, .In => true | .notin, .NotIn => true
  | _, _ => false
def cmp1 : O1 → CmpOp → Const → Bool
  | .isN, .Is, .none => true
  | .notN, .IsNot, .none => true
  | .isB b, .Is, .bool c => b == c
  | .notB b, .IsNot, .bool c => b == c
  | _, _, _ => false
def biNm : Bi → PySem.Str → Nat → Bool
  | .len, x, n => decide (x = "len") && n == 1
  | .abs, x, n => decide (x = "abs") && n == 1
  | .int, x, n => decide (x = "int") && n == 1
  | .min1, x, n => decide (x = "min") && n == 1
  | .max1, x, n => decide (x = "max") && n == 1
  | .min2, x, n => decide (x = "min") && n == 2
  | .max2, x, n => decide (x = "max") && n == 2
  | .sum, x, n => decide (x = "sum") && n == 1
  | .tuple, x, n => decide (x = "tuple") && n == 1
  | .list, x, n => decide (x = "list") && n == 1
  | .sorted, x, n => decide (x = "sorted") && n == 1
  | .all, x, n => decide (x = "all") && n == 1
  | .gcd, x, n => decide (x = "gcd") && n == 2
  | _, _, _ => false
def tyNm (T : Th) : Ty → PySem.Str → Bool
  | .int, x => decide (x = "int")
  | .bool, x => decide (x = "bool")
  | .str, x => decide (x = "str")
  | .list, x => decide (x = "list")
  | .tuple, x => decide (x = "tuple")
  | .cls c, x => match T.cls[c]? with
    | some ci => decide (x = ci.name)
    | none => false
/-- a target's slots: the names and their places -/
def tgB (N : List PySem.Str) (own : List (PySem.Str × Nat)) : Expr → List Nat → Bool
  | .Name x _, [i] => decide (own = [(x, i)]) && decide (N[i]? = some x)
  | .Tuple [.Name x _, .Name y _] _ _, [i, j] => decide (own = [(x, i), (y, j)]) && (decide (N[i]? = some x) && decide (N[j]? = some y))
  | _, _ => false
def ownOf : Expr → List Nat → List (PySem.Str × Nat)
  | .Name x _, [i] => [(x, i)]
  | .Tuple [.Name x _, .Name y _] _ _, [i, j] => [(x, i), (y, j)]
  | _, _ => []
/-- the block's own names may be stored -/
def storeB (scope sc' : Scope) (own : List (PySem.Str × Nat)) : Bool := own.all fun p => lclB sc' p.1 || (celB sc' p.1 && celB scope p.1)

def isNeg : O1 → Bool
  | .neg => true
  | _ => false
def gcdB (T : Th) : Bi → Bool
  | .gcd => T.gcd
  | _ => true
def fnIs (T : Th) (f : Nat) (x : PySem.Str) (m : Nat) : Bool := match T.fns[f]? with
  | some (.glob z n) => decide (z = x) && decide (n = m)
  | _ => false
def emptyTup : D → Bool
  | .tup [] => true
  | _ => false
/-- C(..) of the class c by its __init__ f: no default is used, or all (each of them the empty tuple) -/
def mkIs (T : Th) (f c : Nat) (x : PySem.Str) (df : List D) (m : Nat) : Bool := (match T.fns[f]? with
  | some (.init c' n) => decide (c' = c) && decide (n = m + df.length + 1)
  | _ => false) && (match T.cls[c]? with
  | some ci => decide (ci.name = x) && (df.isEmpty || (df.length == ci.dfl.length && (ci.dfl.all emptyTup && df.all emptyTup)))
  | none => false)
def fldIs (T : Th) (c p : Nat) (f : PySem.Str) : Bool := match T.cls[c]? with
  | some ci => decide (ci.flds[p]? = some f)
  | none => false
/-- may stand as a test -/
def tok : E → Bool
  | .not a => tok a
  | .and a b => tok a && tok b
  | .or a b => tok a && tok b
  | .ite _ _ _ => false
  | _ => true
section
variable (T : Th) (N : List PySem.Str)
mutual
def chkE (sc : Scope) : E → Expr → Bool
  | .var i, ex => match ex with
    | .Name x _ => decide (N[i]? = some x) && (visB sc x && plainNm x)
    | _ => false
  | .non, ex => match ex with
    | .Constant .none _ _ => true
    | _ => false
  | .bl b, ex => match ex with
    | .Constant (.bool c) _ _ => b == c
    | _ => false
  | .int z, ex => match ex with
    | .Constant (.int i) _ _ => decide (z = i)
    | _ => false
  | .str s, ex => match ex with
    | .Constant (.str x) _ _ => decide (s = x)
    | _ => false
  | .tup es, ex => match ex with
    | .Tuple xs _ _ => chkEs sc es xs
    | _ => false
  | .lst es, ex => match ex with
    | .List xs _ => chkEs sc es xs
    | _ => false
  | .op o a b, ex => match ex with
    | .BinOp l p r _ => binO o p && (chkE sc a l && chkE sc b r)
    | .Compare l [p] [r] _ => cmpO o p && (nset r && (chkE sc a l && chkE sc b r))
    | _ => false
  | .un o a, ex => match ex with
    | .UnaryOp .USub x _ => isNeg o && chkE sc a x
    | .Compare l [p] [.Constant c _ _] _ => cmp1 o p c && chkE sc a l
    | _ => false
  | .not a, ex => match ex with
    | .UnaryOp .Not x _ => chkE sc a x
    | _ => false
  | .and a b, ex => match ex with
    | .BoolOp .And (x :: y :: r) p => chkE sc a x && (match r with | [] => chkE sc b y | z :: r' => chkE sc b (.BoolOp .And (y :: z :: r') p))
    | _ => false
  | .or a b, ex => match ex with
    | .BoolOp .Or (x :: y :: r) p => chkE sc a x && (match r with | [] => chkE sc b y | z :: r' => chkE sc b (.BoolOp .Or (y :: z :: r') p))
    | _ => false
  | .ite c a b, ex => match ex with
    | .IfExp t x y _ => tok c && (chkE sc c t && (chkE sc a x && chkE sc b y))
    | _ => false
  | .idx a i, ex => match ex with
    | .Subscript x s _ => nsl s && (chkE sc a x && chkE sc i s)
    | _ => false
  | .slc a l h, ex => match ex with
    | .Subscript x (.Slice (some y) (some z) none _) _ => chkE sc a x && (chkE sc l y && chkE sc h z)
    | _ => false
  | .slo a l, ex => match ex with
    | .Subscript x (.Slice (some y) none none _) _ => chkE sc a x && chkE sc l y
    | _ => false
  | .shi a h, ex => match ex with
    | .Subscript x (.Slice none (some z) none _) _ => chkE sc a x && chkE sc h z
    | _ => false
  | .bi b es, ex => match b with
    | .isinst t => (match ex with
      | .Call (.Name f _) [x, .Name c _] [] _ => decide (f = "isinstance") && (glB sc f && (glB sc c && (tyNm T t c && (plainNm c && chkEs sc es [x]))))
      | _ => false)
    | .listR1 => (match ex with
      | .Call (.Name f _) [.Call (.Name g _) [x] [] _] [] _ => decide (f = "list") && (decide (g = "range") && (glB sc f && (glB sc g && chkEs sc es [x])))
      | _ => false)
    | .listR2 => (match ex with
      | .Call (.Name f _) [.Call (.Name g _) [x, y] [] _] [] _ => decide (f = "list") && (decide (g = "range") && (glB sc f && (glB sc g && chkEs sc es [x, y])))
      | _ => false)
    | b => (match ex with
      | .Call (.Name f _) (x :: xs) [] _ => biNm b f (x :: xs).length && (gcdB T b && (glB sc f && chkEs sc es (x :: xs)))
      | _ => false)
  | .call f es, ex => match ex with
    | .Call (.Name x _) (y :: ys) [] _ => fnIs T f x (y :: ys).length && (glB sc x && (plainNm x && chkEs sc es (y :: ys)))
    | _ => false
  | .mk c f es df, ex => match ex with
    | .Call (.Name x _) (y :: ys) [] _ => mkIs T f c x df (y :: ys).length && (glB sc x && (plainNm x && chkEs sc es (y :: ys)))
    | _ => false
  | .fld a c p, ex => match ex with
    | .Attribute x f _ => fldIs T c p f && (nsup x && chkE sc a x)
    | _ => false
  | .meth _ _ _ _, _ => false
  | .prop _ _ _, _ => false
  | .bits a, ex => match ex with
    | .Call (.Attribute x m p) [] [] q => decide (m = "bit_length") && (p.endLine == q.line && (nsup x && chkE sc a x))
    | _ => false
  | .comp sk tg srcs conds elt, ex => match ex with
    | .ListComp el [⟨t, i, ifs, 0⟩] scope _ => tgB N (ownOf t tg) t tg && (blkC N sc scope (ownOf t tg) && (storeB scope (relS scope sc) (ownOf t tg) &&
      (chkI sc sk tg i srcs && (chkC (relS scope sc) ifs conds && (nset i && chkE (relS scope sc) elt el)))))
    | _ => false
  | .comp2 sk tg srcs conds sk2 tg2 srcs2 conds2 elt, ex => match ex with
    | .ListComp el [⟨t, i, ifs, 0⟩, ⟨t2, i2, ifs2, 0⟩] scope _ => tgB N (ownOf t tg) t tg && (tgB N (ownOf t2 tg2) t2 tg2 && (blkC N sc scope (ownOf t tg ++ ownOf t2 tg2) && (storeB scope (relS scope sc) (ownOf t tg ++ ownOf t2 tg2) &&
      (chkI sc sk tg i srcs && (chkC (relS scope sc) ifs conds && (chkI (relS scope sc) sk2 tg2 i2 srcs2 && (chkC (relS scope sc) ifs2 conds2 && (nset i && (nset i2 && chkE (relS scope sc) elt el)))))))))
    | _ => false
def chkI (sc : Scope) (sk : Sk) (tg : List Nat) (i : Expr) : List E → Bool
  | [] => false
  | [s] => (match sk with
    | .seq => chkE sc s i
    | .r1 => (match i with
      | .Call (.Name f _) [x] [] _ => decide (f = "range") && (glB sc f && (nst x && chkE sc s x))
      | _ => false)
    | _ => false)
  | [a, b] => (match i with
    | .Call (.Name f _) [x, y] [] _ => (match sk with
      | .r2 => decide (f = "range") && (glB sc f && (nst x && (nst y && (chkE sc a x && chkE sc b y))))
      | .zip => (tg.length == 2) && (decide (f = "zip") && (glB sc f && (nst x && (nst y && (chkE sc a x && chkE sc b y)))))
      | _ => false)
    | _ => false)
  | _ :: _ :: _ :: _ => false
def chkC (sc : Scope) (ifs : List Expr) : List E → Bool
  | [] => ifs.isEmpty
  | [c] => (match ifs with
    | [x] => tok c && chkE sc c x
    | _ => false)
  | _ :: _ :: _ => false
def chkEs (sc : Scope) : List E → List Expr → Bool
  | [], xs => xs.isEmpty
  | e :: es, xs => match xs with
    | x :: xs => nst x && (chkE sc e x && chkEs sc es xs)
    | [] => false
end
end
end R
end

section
set_option autoImplicit true
set_option linter.all false
/-! R5eq: printed by eqs.py -/
namespace R
open PySem PySem.Spec PyProof.Rows L2
variable {T : Th} {N : List PySem.Str} {sc : Scope}
theorem chkE_var : chkE T N sc (.var i) ex = match ex with
      | .Name x _ => decide (N[i]? = some x) && (visB sc x && plainNm x)
      | _ => false := rfl
theorem chkE_non : chkE T N sc .non ex = match ex with
      | .Constant .none _ _ => true
      | _ => false := rfl
theorem chkE_bl : chkE T N sc (.bl b) ex = match ex with
      | .Constant (.bool c) _ _ => b == c
      | _ => false := rfl
theorem chkE_int : chkE T N sc (.int z) ex = match ex with
      | .Constant (.int i) _ _ => decide (z = i)
      | _ => false := rfl
theorem chkE_str : chkE T N sc (.str s) ex = match ex with
      | .Constant (.str x) _ _ => decide (s = x)
      | _ => false := rfl
theorem chkE_tup : chkE T N sc (.tup es) ex = match ex with
      | .Tuple xs _ _ => chkEs T N sc es xs
      | _ => false := rfl
theorem chkE_lst : chkE T N sc (.lst es) ex = match ex with
      | .List xs _ => chkEs T N sc es xs
      | _ => false := rfl
theorem chkE_op : chkE T N sc (.op o a b) ex = match ex with
      | .BinOp l p r _ => binO o p && (chkE T N sc a l && chkE T N sc b r)
      | .Compare l [p] [r] _ => cmpO o p && (nset r && (chkE T N sc a l && chkE T N sc b r))
      | _ => false := rfl
theorem chkE_un : chkE T N sc (.un o a) ex = match ex with
      | .UnaryOp .USub x _ => isNeg o && chkE T N sc a x
      | .Compare l [p] [.Constant c _ _] _ => cmp1 o p c && chkE T N sc a l
      | _ => false := rfl
theorem chkE_not : chkE T N sc (.not a) ex = match ex with
      | .UnaryOp .Not x _ => chkE T N sc a x
      | _ => false := rfl
theorem chkE_and : chkE T N sc (.and a b) ex = match ex with
      | .BoolOp .And (x :: y :: r) p => chkE T N sc a x && (match r with | [] => chkE T N sc b y | z :: r' => chkE T N sc b (.BoolOp .And (y :: z :: r') p))
      | _ => false := rfl
theorem chkE_or : chkE T N sc (.or a b) ex = match ex with
      | .BoolOp .Or (x :: y :: r) p => chkE T N sc a x && (match r with | [] => chkE T N sc b y | z :: r' => chkE T N sc b (.BoolOp .Or (y :: z :: r') p))
      | _ => false := rfl
theorem chkE_ite : chkE T N sc (.ite c a b) ex = match ex with
      | .IfExp t x y _ => tok c && (chkE T N sc c t && (chkE T N sc a x && chkE T N sc b y))
      | _ => false := rfl
theorem chkE_idx : chkE T N sc (.idx a i) ex = match ex with
      | .Subscript x s _ => nsl s && (chkE T N sc a x && chkE T N sc i s)
      | _ => false := rfl
theorem chkE_slc : chkE T N sc (.slc a l h) ex = match ex with
      | .Subscript x (.Slice (some y) (some z) none _) _ => chkE T N sc a x && (chkE T N sc l y && chkE T N sc h z)
      | _ => false := rfl
theorem chkE_slo : chkE T N sc (.slo a l) ex = match ex with
      | .Subscript x (.Slice (some y) none none _) _ => chkE T N sc a x && chkE T N sc l y
      | _ => false := rfl
theorem chkE_shi : chkE T N sc (.shi a h) ex = match ex with
      | .Subscript x (.Slice none (some z) none _) _ => chkE T N sc a x && chkE T N sc h z
      | _ => false := rfl
theorem chkE_bi : chkE T N sc (.bi b es) ex = match b with
      | .isinst t => (match ex with
        | .Call (.Name f _) [x, .Name c _] [] _ => decide (f = "isinstance") && (glB sc f && (glB sc c && (tyNm T t c && (plainNm c && chkEs T N sc es [x]))))
        | _ => false)
      | .listR1 => (match ex with
        | .Call (.Name f _) [.Call (.Name g _) [x] [] _] [] _ => decide (f = "list") && (decide (g = "range") && (glB sc f && (glB sc g && chkEs T N sc es [x])))
        | _ => false)
      | .listR2 => (match ex with
        | .Call (.Name f _) [.Call (.Name g _) [x, y] [] _] [] _ => decide (f = "list") && (decide (g = "range") && (glB sc f && (glB sc g && chkEs T N sc es [x, y])))
        | _ => false)
      | b => (match ex with
        | .Call (.Name f _) (x :: xs) [] _ => biNm b f (x :: xs).length && (gcdB T b && (glB sc f && chkEs T N sc es (x :: xs)))
        | _ => false) := rfl
theorem chkE_call : chkE T N sc (.call f es) ex = match ex with
      | .Call (.Name x _) (y :: ys) [] _ => fnIs T f x (y :: ys).length && (glB sc x && (plainNm x && chkEs T N sc es (y :: ys)))
      | _ => false := rfl
theorem chkE_mk : chkE T N sc (.mk c f es df) ex = match ex with
      | .Call (.Name x _) (y :: ys) [] _ => mkIs T f c x df (y :: ys).length && (glB sc x && (plainNm x && chkEs T N sc es (y :: ys)))
      | _ => false := rfl
theorem chkE_fld : chkE T N sc (.fld a c p) ex = match ex with
      | .Attribute x f _ => fldIs T c p f && (nsup x && chkE T N sc a x)
      | _ => false := rfl
theorem chkE_meth : chkE T N sc (.meth u1 u2 u3 u4) u5 = false := rfl
theorem chkE_prop : chkE T N sc (.prop u1 u2 u3) u4 = false := rfl
theorem chkE_bits : chkE T N sc (.bits a) ex = match ex with
      | .Call (.Attribute x m p) [] [] q => decide (m = "bit_length") && (p.endLine == q.line && (nsup x && chkE T N sc a x))
      | _ => false := rfl
theorem chkE_comp : chkE T N sc (.comp sk tg srcs conds elt) ex = match ex with
      | .ListComp el [⟨t, i, ifs, 0⟩] scope _ => tgB N (ownOf t tg) t tg && (blkC N sc scope (ownOf t tg) && (storeB scope (relS scope sc) (ownOf t tg) &&
        (chkI T N sc sk tg i srcs && (chkC T N (relS scope sc) ifs conds && (nset i && chkE T N (relS scope sc) elt el)))))
      | _ => false := rfl
theorem chkE_comp2 : chkE T N sc (.comp2 sk tg srcs conds sk2 tg2 srcs2 conds2 elt) ex = match ex with
      | .ListComp el [⟨t, i, ifs, 0⟩, ⟨t2, i2, ifs2, 0⟩] scope _ => tgB N (ownOf t tg) t tg && (tgB N (ownOf t2 tg2) t2 tg2 && (blkC N sc scope (ownOf t tg ++ ownOf t2 tg2) && (storeB scope (relS scope sc) (ownOf t tg ++ ownOf t2 tg2) &&
        (chkI T N sc sk tg i srcs && (chkC T N (relS scope sc) ifs conds && (chkI T N (relS scope sc) sk2 tg2 i2 srcs2 && (chkC T N (relS scope sc) ifs2 conds2 && (nset i && (nset i2 && chkE T N (relS scope sc) elt el)))))))))
      | _ => false := rfl
theorem chkI_l0 : chkI T N sc sk tg i [] = false := rfl
theorem chkI_l1 : chkI T N sc sk tg i [s] = (match sk with
      | .seq => chkE T N sc s i
      | .r1 => (match i with
        | .Call (.Name f _) [x] [] _ => decide (f = "range") && (glB sc f && (nst x && chkE T N sc s x))
        | _ => false)
      | _ => false) := rfl
theorem chkI_l2 : chkI T N sc sk tg i [a, b] = (match i with
      | .Call (.Name f _) [x, y] [] _ => (match sk with
        | .r2 => decide (f = "range") && (glB sc f && (nst x && (nst y && (chkE T N sc a x && chkE T N sc b y))))
        | .zip => (tg.length == 2) && (decide (f = "zip") && (glB sc f && (nst x && (nst y && (chkE T N sc a x && chkE T N sc b y)))))
        | _ => false)
      | _ => false) := rfl
theorem chkI_cons3 : chkI T N sc sk tg i (u1 :: u2 :: u3 :: u4) = false := rfl
theorem chkC_l0 : chkC T N sc ifs [] = ifs.isEmpty := rfl
theorem chkC_l1 : chkC T N sc ifs [c] = (match ifs with
      | [x] => tok c && chkE T N sc c x
      | _ => false) := rfl
theorem chkC_cons2 : chkC T N sc ifs (u1 :: u2 :: u3) = false := rfl
theorem chkEs_l0 : chkEs T N sc [] xs = xs.isEmpty := rfl
theorem chkEs_cons1 : chkEs T N sc (e :: es) xs = match xs with
      | x :: xs => nst x && (chkE T N sc e x && chkEs T N sc es xs)
      | [] => false := rfl
end R
end

section
set_option Elab.async false
set_option linter.all false
set_option maxRecDepth 100000
set_option maxHeartbeats 4000000
/-! R6: operators on data, met by the layer's rules. -/
namespace R
open PySem PySem.Spec PyProof.Rows L2

section
variable {W : Wo} {Φ : Or} {Z H Z1 H1 : Hp} {Ek : XK} {Q : VK} {ds : List D} {vs : List V} {p : Addr}
theorem post_lst (h : PostE W (Rep W) Z H (.ok (.lst ds)) Q Ek) (z : Zh W Z H) (r : RepL W Z ds vs) (hp : H p = none) : Q (.ref p) (upd H p (.lst vs)) := by
  have x := (Ext.refl z).laid (o := .lst vs) hp
  refine h (.ref p) _ _ x ?_
  simp only [Rep]
  exact ⟨p, vs, rfl, upd_same, r.mono x.zz⟩
theorem post_tup (h : PostE W (Rep W) Z H (.ok (.tup ds)) Q Ek) (z : Zh W Z H) (r : RepL W Z ds vs) (hp : H p = none) : Q (.ref p) (upd H p (.tup vs)) := by
  have x := (Ext.refl z).laid (o := .tup vs) hp
  refine h (.ref p) _ _ x ?_
  simp only [Rep]
  exact ⟨p, vs, rfl, .inl (.inl upd_same), r.mono x.zz⟩
theorem post_int {i : Int} (h : PostE W (Rep W) Z H (.ok (.int i)) Q Ek) (z : Zh W Z H) : Q (.int i) H := h.ret z (by simp only [Rep])
theorem post_bl {b : Bool} (h : PostE W (Rep W) Z H (.ok (.bl b)) Q Ek) (z : Zh W Z H) : Q (.bl b) H := h.ret z (by simp only [Rep])
end

/-! ### data as the library has it -/
mutual
def toPy : D → PyData
  | .non => .none
  | .bl b => .bool b
  | .int i => .int i
  | .str s => .str s
  | .tup xs => .tuple (toPys xs)
  | .lst xs => .list (toPys xs)
  | .obj _ _ => .none
  | .fz _ => .none
def toPys : List D → List PyData
  | [] => []
  | d :: ds => toPy d :: toPys ds
end
theorem plain_tup {n : Nat} {xs : List D} (h : D.plain n (.tup xs) = true) : ∃ m, n = m + 1 ∧ xs.all (D.plain m) = true := by
  cases n with
  | zero => simp [D.plain] at h
  | succ m => exact ⟨m, rfl, by simpa [D.plain] using h⟩
theorem plain_lst {n : Nat} {xs : List D} (h : D.plain n (.lst xs) = true) : ∃ m, n = m + 1 ∧ xs.all (D.plain m) = true := by
  cases n with
  | zero => simp [D.plain] at h
  | succ m => exact ⟨m, rfl, by simpa [D.plain] using h⟩
mutual
theorem rep_dp {W : Wo} {Z H : Hp} (z : Zh W Z H) : ∀ (d : D) (n : Nat) (v : V), Rep W Z d v → D.plain n d = true → Dp W.K H v (toPy d)
  | .non, n, v, r, h => by simp only [Rep] at r; rw [r]; simp only [toPy]; exact .non
  | .bl b, n, v, r, h => by simp only [Rep] at r; rw [r]; simp only [toPy]; exact .bl b
  | .int b, n, v, r, h => by simp only [Rep] at r; rw [r]; simp only [toPy]; exact .int b
  | .str b, n, v, r, h => by simp only [Rep] at r; rw [r]; simp only [toPy]; exact .str b
  | .tup xs, n, v, r, h => by
    obtain ⟨m, _, h2⟩ := plain_tup h
    simp only [Rep] at r
    obtain ⟨a, vs, rfl, h3, h4⟩ := r
    simp only [toPy]
    exact .tup (sqT_mono z h3) (rep_dps z xs m vs h4 h2)
  | .lst xs, n, v, r, h => by
    obtain ⟨m, _, h2⟩ := plain_lst h
    simp only [Rep] at r
    obtain ⟨a, vs, rfl, h3, h4⟩ := r
    simp only [toPy]
    exact .lst (SqL.of (z _ _ h3)) (rep_dps z xs m vs h4 h2)
  | .obj _ _, n, v, r, h => by cases n <;> simp [D.plain] at h
  | .fz _, n, v, r, h => by cases n <;> simp [D.plain] at h
theorem rep_dps {W : Wo} {Z H : Hp} (z : Zh W Z H) : ∀ (ds : List D) (n : Nat) (vs : List V), RepL W Z ds vs → ds.all (D.plain n) = true → DpAll W.K H vs (toPys ds)
  | [], n, vs, r, h => by rw [r.unnil]; simp only [toPys]; exact .nil
  | d :: ds, n, vs, r, h => by
    obtain ⟨v, us, rfl, r1, r2⟩ := r.uncons
    rw [List.all_cons, Bool.and_eq_true] at h
    simp only [toPys]
    exact .cons (rep_dp z d n v r1 h.1) (rep_dps z ds n us r2 h.2)
end
mutual
theorem shaped_py : ∀ (d : D) (n : Nat), D.plain n d = true → (toPy d).canLay0 = true ∧ (toPy d).depth ≤ n
  | .non, n, h => by simp [toPy, PyData.canLay0, PyData.depth]
  | .bl b, n, h => by simp [toPy, PyData.canLay0, PyData.depth]
  | .int b, n, h => by simp [toPy, PyData.canLay0, PyData.depth]
  | .str b, n, h => by
    have : PyData.strOk b = true := by cases n <;> simpa [D.plain] using h
    simp [toPy, PyData.canLay0, PyData.depth, this]
  | .tup xs, n, h => by
    obtain ⟨m, rfl, h2⟩ := plain_tup h
    obtain ⟨a, b⟩ := shaped_pys xs m h2
    simp only [toPy, PyData.canLay0, PyData.depth]
    exact ⟨a, by omega⟩
  | .lst xs, n, h => by
    obtain ⟨m, rfl, h2⟩ := plain_lst h
    obtain ⟨a, b⟩ := shaped_pys xs m h2
    simp only [toPy, PyData.canLay0, PyData.depth]
    exact ⟨a, by omega⟩
  | .obj _ _, n, h => by cases n <;> simp [D.plain] at h
  | .fz _, n, h => by cases n <;> simp [D.plain] at h
theorem shaped_pys : ∀ (ds : List D) (n : Nat), ds.all (D.plain n) = true → PyData.canLayAll0 (toPys ds) = true ∧ PyData.depthAll (toPys ds) ≤ n
  | [], n, h => by simp [toPys, PyData.canLayAll0, PyData.depthAll]
  | d :: ds, n, h => by
    rw [List.all_cons, Bool.and_eq_true] at h
    obtain ⟨a, b⟩ := shaped_py d n h.1
    obtain ⟨a2, b2⟩ := shaped_pys ds n h.2
    simp only [toPys, PyData.canLayAll0, PyData.depthAll, a, a2, Bool.and_self, true_and]
    omega
end
theorem shaped_of {d : D} (h : D.plain 20 d = true) : SeqAt.shaped (toPy d) = true := by
  obtain ⟨a, b⟩ := shaped_py d 20 h
  unfold SeqAt.shaped
  rw [a, decide_eq_true (by omega : (toPy d).depth ≤ 64)]
  rfl
mutual
theorem eqv_py : ∀ (a b : D) (n m : Nat), D.plain n a = true → D.plain m b = true → PyData.eqv (toPy a) (toPy b) = a.eqv b
  | .obj _ _, b, n, m, h, h2 => by cases n <;> simp [D.plain] at h
  | .fz _, b, n, m, h, h2 => by cases n <;> simp [D.plain] at h
  | a, .obj _ _, n, m, h, h2 => by cases m <;> simp [D.plain] at h2
  | a, .fz _, n, m, h, h2 => by cases m <;> simp [D.plain] at h2
  | .tup xs, .tup ys, n, m, h, h2 => by
    obtain ⟨i, rfl, h3⟩ := plain_tup h
    obtain ⟨j, rfl, h4⟩ := plain_tup h2
    simp only [toPy, PyData.eqv, D.eqv]
    exact eqv_pys xs ys i j h3 h4
  | .lst xs, .lst ys, n, m, h, h2 => by
    obtain ⟨i, rfl, h3⟩ := plain_lst h
    obtain ⟨j, rfl, h4⟩ := plain_lst h2
    simp only [toPy, PyData.eqv, D.eqv]
    exact eqv_pys xs ys i j h3 h4
  | .tup _, .lst _, n, m, h, h2 => by simp [toPy, PyData.eqv, D.eqv]
  | .lst _, .tup _, n, m, h, h2 => by simp [toPy, PyData.eqv, D.eqv]
  | .tup _, .non, n, m, h, h2 => by simp [toPy, PyData.eqv, D.eqv]
  | .tup _, .bl _, n, m, h, h2 => by simp [toPy, PyData.eqv, D.eqv]
  | .tup _, .int _, n, m, h, h2 => by simp [toPy, PyData.eqv, D.eqv]
  | .tup _, .str _, n, m, h, h2 => by simp [toPy, PyData.eqv, D.eqv]
  | .lst _, .non, n, m, h, h2 => by simp [toPy, PyData.eqv, D.eqv]
  | .lst _, .bl _, n, m, h, h2 => by simp [toPy, PyData.eqv, D.eqv]
  | .lst _, .int _, n, m, h, h2 => by simp [toPy, PyData.eqv, D.eqv]
  | .lst _, .str _, n, m, h, h2 => by simp [toPy, PyData.eqv, D.eqv]
  | .non, .tup _, n, m, h, h2 => by simp [toPy, PyData.eqv, D.eqv]
  | .bl _, .tup _, n, m, h, h2 => by simp [toPy, PyData.eqv, D.eqv]
  | .int _, .tup _, n, m, h, h2 => by simp [toPy, PyData.eqv, D.eqv]
  | .str _, .tup _, n, m, h, h2 => by simp [toPy, PyData.eqv, D.eqv]
  | .non, .lst _, n, m, h, h2 => by simp [toPy, PyData.eqv, D.eqv]
  | .bl _, .lst _, n, m, h, h2 => by simp [toPy, PyData.eqv, D.eqv]
  | .int _, .lst _, n, m, h, h2 => by simp [toPy, PyData.eqv, D.eqv]
  | .str _, .lst _, n, m, h, h2 => by simp [toPy, PyData.eqv, D.eqv]
  | .non, .non, n, m, h, h2 => by simp [toPy, PyData.eqv, D.eqv]
  | .non, .bl _, n, m, h, h2 => by simp [toPy, PyData.eqv, D.eqv]
  | .non, .int _, n, m, h, h2 => by simp [toPy, PyData.eqv, D.eqv]
  | .non, .str _, n, m, h, h2 => by simp [toPy, PyData.eqv, D.eqv]
  | .bl _, .non, n, m, h, h2 => by simp [toPy, PyData.eqv, D.eqv]
  | .bl _, .bl _, n, m, h, h2 => by simp [toPy, PyData.eqv, D.eqv]
  | .bl _, .int _, n, m, h, h2 => by simp [toPy, PyData.eqv, D.eqv]
  | .bl _, .str _, n, m, h, h2 => by simp [toPy, PyData.eqv, D.eqv]
  | .int _, .non, n, m, h, h2 => by simp [toPy, PyData.eqv, D.eqv]
  | .int _, .bl _, n, m, h, h2 => by simp [toPy, PyData.eqv, D.eqv]
  | .int _, .int _, n, m, h, h2 => by simp [toPy, PyData.eqv, D.eqv]
  | .int _, .str _, n, m, h, h2 => by simp [toPy, PyData.eqv, D.eqv]
  | .str _, .non, n, m, h, h2 => by simp [toPy, PyData.eqv, D.eqv]
  | .str _, .bl _, n, m, h, h2 => by simp [toPy, PyData.eqv, D.eqv]
  | .str _, .int _, n, m, h, h2 => by simp [toPy, PyData.eqv, D.eqv]
  | .str _, .str _, n, m, h, h2 => by simp [toPy, PyData.eqv, D.eqv]
theorem eqv_pys : ∀ (xs ys : List D) (n m : Nat), xs.all (D.plain n) = true → ys.all (D.plain m) = true → PyData.eqvAll (toPys xs) (toPys ys) = D.eqv.eqvs xs ys
  | [], [], n, m, h, h2 => by simp [toPys, PyData.eqvAll, D.eqv.eqvs]
  | [], _ :: _, n, m, h, h2 => by simp [toPys, PyData.eqvAll, D.eqv.eqvs]
  | _ :: _, [], n, m, h, h2 => by simp [toPys, PyData.eqvAll, D.eqv.eqvs]
  | x :: xs, y :: ys, n, m, h, h2 => by
    rw [List.all_cons, Bool.and_eq_true] at h h2
    simp only [toPys, PyData.eqvAll, D.eqv.eqvs]
    rw [eqv_py x y n m h.1 h2.1, eqv_pys xs ys n m h.2 h2.2]
end
/-! flat data -/
theorem flat_rep {W : Wo} {Z : Hp} {d : D} {v : V} (r : Rep W Z d v) (h : d.flat = true) : flatV v = true ∧ ∀ {e : D} {u : V}, Rep W Z e u → e.flat = true → eqV v u = d.eqv e := by
  cases d with
  | non => simp only [Rep] at r; subst r; refine ⟨rfl, fun {e u} r h => ?_⟩; cases e <;> simp only [Rep] at r <;> simp [D.flat] at h <;> subst r <;> simp [eqV, D.eqv]
  | bl b => simp only [Rep] at r; subst r; refine ⟨rfl, fun {e u} r h => ?_⟩; cases e <;> simp only [Rep] at r <;> simp [D.flat] at h <;> subst r <;> simp [eqV, D.eqv]
  | int b => simp only [Rep] at r; subst r; refine ⟨rfl, fun {e u} r h => ?_⟩; cases e <;> simp only [Rep] at r <;> simp [D.flat] at h <;> subst r <;> simp [eqV, D.eqv]
  | str b => simp only [Rep] at r; subst r; refine ⟨rfl, fun {e u} r h => ?_⟩; cases e <;> simp only [Rep] at r <;> simp [D.flat] at h <;> subst r <;> simp [eqV, D.eqv]
  | _ => simp [D.flat] at h
theorem flats_rep {W : Wo} {Z : Hp} {e : D} {u : V} (re : Rep W Z e u) (he : e.flat = true) : ∀ {ds : List D} {vs : List V}, RepL W Z ds vs → ds.all D.flat = true → vs.all flatV = true ∧ inV u vs = ds.any fun x => x.eqv e
  | [], vs, r, h => by rw [r.unnil]; exact ⟨rfl, rfl⟩
  | d :: ds, vs, r, h => by
    obtain ⟨v, us, rfl, r1, r2⟩ := r.uncons
    rw [List.all_cons, Bool.and_eq_true] at h
    obtain ⟨a, b⟩ := flats_rep re he r2 h.2
    obtain ⟨c, f⟩ := flat_rep r1 h.1
    refine ⟨by rw [List.all_cons, c, a]; rfl, ?_⟩
    unfold inV at b ⊢
    rw [List.any_cons, List.any_cons, b, f re he]
end R
end

section
set_option Elab.async false
set_option linter.all false
set_option maxRecDepth 100000
set_option maxHeartbeats 4000000
/-! R7: each operator and built-in, by the layer's rule. -/
namespace R
open PySem PySem.Spec PyProof.Rows L2

/-- a rule r of two values says what f says -/
def Meets2 (W : Wo) (r : R2) (f : D → D → Res D) : Prop := ∀ (x y : D) (vx vy : V) (Z H : Hp) (Q : VK) (Ek : XK), Zh W Z H → Rep W Z x vx → Rep W Z y vy → PostE W (Rep W) Z H (f x y) Q Ek → r vx vy H Q
section
variable {W : Wo} {X : Cx}
theorem sum_le_line {n : Nat} (h : n ≤ LINE) : n ≤ sizeLine := by rw [LINE_eq] at h; exact h
theorem add_ok (hK : X.K = W.K) : ∃ r, OpR X (binaryOp .Add) r ∧ Meets2 W r (op2 .add) := by
  refine ⟨_, op_add.or (op_cat.or op_catA), fun x y vx vy Z H Q Ek z rx ry h => ?_⟩
  cases x <;> cases y <;> simp only [op2, cmpI] at h <;> try (simp only [PostE_bad] at h; done)
  · simp only [Rep] at rx ry
    exact .inl ⟨_, _, rx, ry, post_int h z⟩
  · rename_i xs ys
    simp only [Rep] at rx ry
    obtain ⟨a, vs, rfl, h1, h2⟩ := rx
    obtain ⟨b, us, rfl, h3, h4⟩ := ry
    split at h
    · rename_i hl
      rw [hK]
      refine .inr (.inr ⟨a, b, vs, us, rfl, rfl, sqT_mono z h1, sqT_mono z h3, by rw [h2.length, h4.length]; exact sum_le_line hl, fun e => ?_, fun e e2 => ?_, fun e e2 p hp => ?_⟩)
      · subst e
        have e0 : xs = [] := List.eq_nil_of_length_eq_zero (by rw [← h2.length]; rfl)
        subst e0
        refine h.ret z ?_
        simp only [Rep, List.nil_append]
        exact ⟨b, us, rfl, h3, h4⟩
      · subst e2
        have e0 : ys = [] := List.eq_nil_of_length_eq_zero (by rw [← h4.length]; rfl)
        subst e0
        refine h.ret z ?_
        simp only [Rep, List.append_nil]
        exact ⟨a, vs, rfl, h1, h2⟩
      · exact post_tup h z (h2.append h4) hp
    · simp only [PostE_bad] at h
  · simp only [Rep] at rx ry
    obtain ⟨a, vs, rfl, h1, h2⟩ := rx
    obtain ⟨b, us, rfl, h3, h4⟩ := ry
    split at h
    · rename_i hl
      exact .inr (.inl ⟨a, b, vs, us, rfl, rfl, z _ _ h1, z _ _ h3, by rw [h2.length, h4.length]; exact sum_le_line hl, fun p hp => post_lst h z (h2.append h4) hp⟩)
    · simp only [PostE_bad] at h
theorem sub_ok : ∃ r, OpR X (binaryOp .Sub) r ∧ Meets2 W r (op2 .sub) := by
  refine ⟨_, op_sub, fun x y vx vy Z H Q Ek z rx ry h => ?_⟩
  cases x <;> cases y <;> simp only [op2, cmpI] at h <;> try (simp only [PostE_bad] at h; done)
  simp only [Rep] at rx ry
  exact ⟨_, _, rx, ry, post_int h z⟩
theorem mul_ok : ∃ r, OpR X (binaryOp .Mult) r ∧ Meets2 W r (op2 .mul) := by
  refine ⟨_, op_mulW.or op_rep, fun x y vx vy Z H Q Ek z rx ry h => ?_⟩
  cases x <;> cases y <;> simp only [op2, cmpI] at h <;> try (simp only [PostE_bad] at h; done)
  · simp only [Rep] at rx ry
    split at h
    · rename_i hl
      exact .inl ⟨_, _, rx, ry, (by simp only [mulOk, decide_eq_true_eq] at hl; exact hl), post_int h z⟩
    · simp only [PostE_bad] at h
  · rename_i xs k
    simp only [Rep] at rx ry
    obtain ⟨a, vs, rfl, h1, h2⟩ := rx
    split at h
    · rename_i hl
      simp only [Bool.and_eq_true, decide_eq_true_eq] at hl
      obtain ⟨l1, l2, l3⟩ := hl
      exact .inr ⟨a, k, vs, rfl, ry, z _ _ h1, l1, l2, by rw [h2.length]; exact sum_le_line l3, fun p hp => post_lst h z (h2.rep _) hp⟩
    · simp only [PostE_bad] at h
theorem fdiv_ok : ∃ r, OpR X (binaryOp .FloorDiv) r ∧ Meets2 W r (op2 .fdiv) := by
  refine ⟨_, op_fdivW, fun x y vx vy Z H Q Ek z rx ry h => ?_⟩
  cases x <;> cases y <;> simp only [op2, cmpI] at h <;> try (simp only [PostE_bad] at h; done)
  simp only [Rep] at rx ry
  split at h
  · rename_i hl
    simp only [divOk, Bool.and_eq_true, decide_eq_true_eq] at hl
    exact ⟨_, _, rx, ry, hl, post_int h z⟩
  · simp only [PostE_bad] at h
theorem mod_ok : ∃ r, OpR X (binaryOp .Mod) r ∧ Meets2 W r (op2 .mod) := by
  refine ⟨_, op_mod, fun x y vx vy Z H Q Ek z rx ry h => ?_⟩
  cases x <;> cases y <;> simp only [op2, cmpI] at h <;> try (simp only [PostE_bad] at h; done)
  simp only [Rep] at rx ry
  split at h
  · rename_i hl
    exact ⟨_, _, rx, ry, of_decide_eq_true hl, post_int h z⟩
  · simp only [PostE_bad] at h
theorem pow_ok : ∃ r, OpR X (binaryOp .Pow) r ∧ Meets2 W r (op2 .pow) := by
  refine ⟨_, op_pow, fun x y vx vy Z H Q Ek z rx ry h => ?_⟩
  cases x <;> cases y <;> simp only [op2, cmpI] at h <;> try (simp only [PostE_bad] at h; done)
  simp only [Rep] at rx ry
  split at h
  · rename_i hl
    simp only [powOk, Bool.and_eq_true, decide_eq_true_eq] at hl
    exact ⟨_, _, rx, ry, hl, post_int h z⟩
  · simp only [PostE_bad] at h
theorem bits_eq (i : Int) : Builtin.Int.intBits i = bitsI i := by
  unfold Builtin.Int.intBits bitsI
  by_cases h : i = 0
  · rw [if_pos (by simpa using h), if_pos h]
  · rw [if_neg (by simpa using h), if_neg h]
theorem shl_okk : ∃ r, OpR X (binaryOp .LShift) r ∧ Meets2 W r (op2 .shl) := by
  refine ⟨_, op_shlW, fun x y vx vy Z H Q Ek z rx ry h => ?_⟩
  cases x <;> cases y <;> simp only [op2, cmpI] at h <;> try (simp only [PostE_bad] at h; done)
  simp only [Rep] at rx ry
  split at h
  · rename_i i j hl
    simp only [shlOk, Bool.and_eq_true, decide_eq_true_eq] at hl
    refine ⟨_, _, rx, ry, ⟨hl.1, ?_⟩, post_int h z⟩
    rw [bits_eq]
    unfold bitsI
    have e : (2 : Int) ^ 27 = 134217728 := by decide
    rw [e]
    split <;> omega
  · simp only [PostE_bad] at h
theorem bin_ok (hK : X.K = W.K) {o : O2} {p : Operator} (h : binO o p = true) : ∃ r, OpR X (binaryOp p) r ∧ Meets2 W r (op2 o) := by
  cases o <;> cases p <;> first | exact absurd h Bool.false_ne_true | skip
  · exact add_ok hK
  · exact sub_ok
  · exact mul_ok
  · exact fdiv_ok
  · exact mod_ok
  · exact pow_ok
  · exact shl_okk

theorem eq_ok (hK : X.K = W.K) (hu : X.A.units + 64 < cLine) : ∃ r, OpR X (compareOp .Eq) r ∧ Meets2 W r (op2 .eq) := by
  refine ⟨_, op_eqD hu, fun x y vx vy Z H Q Ek z rx ry h => ?_⟩
  simp only [op2, eqR] at h
  split at h
  · rename_i hl
    rw [Bool.and_eq_true] at hl
    rw [hK]
    refine ⟨toPy x, toPy y, rep_dp z x 20 vx rx hl.1, rep_dp z y 20 vy ry hl.2, shaped_of hl.1, shaped_of hl.2, ?_⟩
    rw [eqv_py x y 20 20 hl.1 hl.2]
    simpa using post_bl h z
  · simp only [PostE_bad] at h
theorem ne_ok (hK : X.K = W.K) (hu : X.A.units + 64 < cLine) : ∃ r, OpR X (compareOp .NotEq) r ∧ Meets2 W r (op2 .ne) := by
  refine ⟨_, op_neD hu, fun x y vx vy Z H Q Ek z rx ry h => ?_⟩
  simp only [op2, eqR] at h
  split at h
  · rename_i hl
    rw [Bool.and_eq_true] at hl
    rw [hK]
    refine ⟨toPy x, toPy y, rep_dp z x 20 vx rx hl.1, rep_dp z y 20 vy ry hl.2, shaped_of hl.1, shaped_of hl.2, ?_⟩
    rw [eqv_py x y 20 20 hl.1 hl.2]
    simpa using post_bl h z
  · simp only [PostE_bad] at h
theorem lt_ok : ∃ r, OpR X (compareOp .Lt) r ∧ Meets2 W r (op2 .lt) := by
  refine ⟨_, op_lt, fun x y vx vy Z H Q Ek z rx ry h => ?_⟩
  cases x <;> cases y <;> simp only [op2, cmpI] at h <;> try (simp only [PostE_bad] at h; done)
  simp only [Rep] at rx ry
  exact ⟨_, _, rx, ry, post_bl h z⟩
theorem le_ok : ∃ r, OpR X (compareOp .LtE) r ∧ Meets2 W r (op2 .le) := by
  refine ⟨_, op_le, fun x y vx vy Z H Q Ek z rx ry h => ?_⟩
  cases x <;> cases y <;> simp only [op2, cmpI] at h <;> try (simp only [PostE_bad] at h; done)
  simp only [Rep] at rx ry
  exact ⟨_, _, rx, ry, post_bl h z⟩
theorem gt_ok : ∃ r, OpR X (compareOp .Gt) r ∧ Meets2 W r (op2 .gt) := by
  refine ⟨_, op_gt, fun x y vx vy Z H Q Ek z rx ry h => ?_⟩
  cases x <;> cases y <;> simp only [op2, cmpI] at h <;> try (simp only [PostE_bad] at h; done)
  simp only [Rep] at rx ry
  exact ⟨_, _, rx, ry, post_bl h z⟩
theorem ge_ok : ∃ r, OpR X (compareOp .GtE) r ∧ Meets2 W r (op2 .ge) := by
  refine ⟨_, op_ge, fun x y vx vy Z H Q Ek z rx ry h => ?_⟩
  cases x <;> cases y <;> simp only [op2, cmpI] at h <;> try (simp only [PostE_bad] at h; done)
  simp only [Rep] at rx ry
  exact ⟨_, _, rx, ry, post_bl h z⟩
theorem in_read {K : PySem.W.Frag} {Z H : Hp} {x y : D} {vx vy : V} {neg : Bool} {Q : VK} {Ek : XK} (hK : K = W.K) (z : Zh W Z H) (rx : Rep W Z x vx) (ry : Rep W Z y vy) (h : PostE W (Rep W) Z H (inR x y neg) Q Ek) : rIn K neg vx vy H Q := by
  have go : ∀ {a : Addr} {us : List V} {ys : List D}, (SqL K H a us ∨ SqT K H a us) → RepL W Z ys us → vy = .ref a → PostE W (Rep W) Z H (if (x.flat && ys.all D.flat) = true then .ok (.bl (neg ^^ ys.any fun w => w.eqv x)) else .bad) Q Ek → rIn K neg vx vy H Q := by
    intro a us ys hs r e h
    split at h
    · rename_i hl
      rw [Bool.and_eq_true] at hl
      obtain ⟨f1, f2⟩ := flats_rep rx hl.1 r hl.2
      refine ⟨a, us, e, hs, (flat_rep rx hl.1).1, f1, ?_⟩
      have q := post_bl h z
      rw [f2]
      cases neg
      · simpa using q
      · simpa using q
    · simp only [PostE_bad] at h
  cases y <;> simp only [inR] at h <;> try (simp only [PostE_bad] at h; done)
  · simp only [Rep] at ry
    obtain ⟨b, us, rfl, h3, h4⟩ := ry
    exact go (.inr (by rw [hK]; exact sqT_mono z h3)) h4 rfl h
  · simp only [Rep] at ry
    obtain ⟨b, us, rfl, h3, h4⟩ := ry
    exact go (.inl (SqL.of (z _ _ h3))) h4 rfl h
theorem in_ok (hK : X.K = W.K) : ∃ r, OpR X (compareOp .In) r ∧ Meets2 W r (op2 .isin) :=
  ⟨_, op_in_seq, fun _ _ _ _ _ _ _ _ z rx ry h => in_read hK z rx ry h⟩
theorem notin_ok (hK : X.K = W.K) : ∃ r, OpR X (compareOp .NotIn) r ∧ Meets2 W r (op2 .notin) :=
  ⟨_, op_notIn_seq, fun _ _ _ _ _ _ _ _ z rx ry h => in_read hK z rx ry h⟩
theorem cmp_ok (hK : X.K = W.K) (hu : X.A.units + 64 < cLine) {o : O2} {p : CmpOp} (h : cmpO o p = true) : ∃ r, OpR X (compareOp p) r ∧ Meets2 W r (op2 o) := by
  cases o <;> cases p <;> first | exact absurd h Bool.false_ne_true | skip
  · exact eq_ok hK hu
  · exact ne_ok hK hu
  · exact lt_ok
  · exact le_ok
  · exact gt_ok
  · exact ge_ok
  · exact in_ok hK
  · exact notin_ok hK

/-! ### one value -/
def Meets1 (W : Wo) (r : V → Hp → VK → Prop) (f : D → Res D) : Prop := ∀ (x : D) (vx : V) (Z H : Hp) (Q : VK) (Ek : XK), Zh W Z H → Rep W Z x vx → PostE W (Rep W) Z H (f x) Q Ek → r vx H Q
theorem neg_ok : ∃ r, UnR X (unaryOp .USub) r ∧ Meets1 W r (op1 .neg) := by
  refine ⟨_, un_neg, fun x vx Z H Q Ek z rx h => ?_⟩
  cases x <;> simp only [op1] at h <;> try (simp only [PostE_bad] at h; done)
  simp only [Rep] at rx
  exact ⟨_, rx, post_int h z⟩
theorem rep_isNon {Z : Hp} {d : D} {v : V} (r : Rep W Z d v) : decide (v = .non) = d.isNon := by
  cases d <;> simp only [Rep] at r
  case non => subst r; rfl
  case bl => subst r; rfl
  case int => subst r; rfl
  case str => subst r; rfl
  case tup => obtain ⟨a, vs, rfl, _⟩ := r; rfl
  case lst => obtain ⟨a, vs, rfl, _⟩ := r; rfl
  case obj => obtain ⟨a, dx, vs, rfl, _⟩ := r; rfl
  case fz => obtain ⟨a, vs, rfl, _⟩ := r; rfl
theorem rep_isBl {Z : Hp} {d : D} {v : V} {b : Bool} (r : Rep W Z d v) : decide (v = .bl b) = d.isBl b := by
  cases d <;> simp only [Rep] at r
  case non => subst r; rfl
  case bl c =>
    subst r
    cases b <;> cases c <;> rfl
  case int => subst r; rfl
  case str => subst r; rfl
  case tup => obtain ⟨a, vs, rfl, _⟩ := r; rfl
  case lst => obtain ⟨a, vs, rfl, _⟩ := r; rfl
  case obj => obtain ⟨a, dx, vs, rfl, _⟩ := r; rfl
  case fz => obtain ⟨a, vs, rfl, _⟩ := r; rfl
/-- the written constant on the right -/
def cV : Const → V
  | .bool b => .bl b
  | _ => .non
theorem cmp1_ok {o : O1} {p : CmpOp} {c : Const} (h : cmp1 o p c = true) : (∀ {j pos}, PE X (.Constant c j pos) (tC (cV c))) ∧ (behindInMarks p (.Constant c 0 ⟨0, 0, 0, 0⟩) = false) ∧ ∃ r, OpR X (compareOp p) r ∧ Meets1 W (fun v H Q => r v (cV c) H Q) (op1 o) := by
  cases o <;> cases p <;> cases c <;> try exact absurd h Bool.false_ne_true
  · exact ⟨pe_non, rfl, _, op_isN, fun x vx Z H Q Ek z rx h => ⟨rfl, by rw [rep_isNon rx]; exact post_bl h z⟩⟩
  · exact ⟨pe_non, rfl, _, op_notN, fun x vx Z H Q Ek z rx h => ⟨rfl, by rw [rep_isNon rx]; exact post_bl h z⟩⟩
  · rename_i b c
    have e : b = c := by simpa [cmp1] using h
    subst e
    exact ⟨pe_bl, rfl, _, R3.op_isBg, fun x vx Z H Q Ek z rx h => ⟨_, rfl, by rw [rep_isBl rx]; exact post_bl h z⟩⟩
  · rename_i b c
    have e : b = c := by simpa [cmp1] using h
    subst e
    exact ⟨pe_bl, rfl, _, R3.op_notBg, fun x vx Z H Q Ek z rx h => ⟨_, rfl, by rw [rep_isBl rx]; exact post_bl h z⟩⟩

/-! ### subscripts -/
theorem atI_rep {Z : Hp} {ds : List D} {vs : List V} {i : Int} {d : D} (r : RepL W Z ds vs) (h : atI ds i = some d) : ∃ v, atI vs i = some v ∧ Rep W Z d v := by
  unfold atI at h ⊢
  rw [r.length]
  cases e : ixN ds.length i with
  | none => rw [e] at h; cases h
  | some j =>
    rw [e] at h
    exact r.get (i := j) h
theorem ix_ok (hK : X.K = W.K) : ∃ r, IxR X r ∧ Meets2 W r ixR := by
  refine ⟨_, ix_list.or ix_tup, fun x y vx vy Z H Q Ek z rx ry h => ?_⟩
  cases y <;> simp only [ixR, D.seq] at h <;> try (simp only [PostE_bad] at h; done)
  rename_i i
  simp only [Rep] at ry
  cases x <;> simp only [ixR, D.seq] at h <;> try (simp only [PostE_bad] at h; done)
  · rename_i ds
    simp only [Rep] at rx
    obtain ⟨a, vs, rfl, h1, h2⟩ := rx
    split at h
    · rename_i d e
      obtain ⟨v, e1, e2⟩ := atI_rep h2 e
      exact .inr ⟨a, vs, i, v, rfl, ry, by rw [hK]; exact sqT_mono z h1, e1, h.ret z e2⟩
    · simp only [PostE_bad] at h
  · rename_i ds
    simp only [Rep] at rx
    obtain ⟨a, vs, rfl, h1, h2⟩ := rx
    split at h
    · rename_i d e
      obtain ⟨v, e1, e2⟩ := atI_rep h2 e
      exact .inl ⟨a, vs, i, v, rfl, ry, SqL.of (z _ _ h1), e1, h.ret z e2⟩
    · simp only [PostE_bad] at h
  · rename_i ds
    simp only [Rep] at rx
    obtain ⟨a, vs, rfl, h1, h2⟩ := rx
    split at h
    · rename_i d e
      obtain ⟨v, e1, e2⟩ := atI_rep h2 e
      exact .inl ⟨a, vs, i, v, rfl, ry, by rw [hK]; exact z.seq h1, e1, h.ret z e2⟩
    · simp only [PostE_bad] at h
theorem sl_ok (hK : X.K = W.K) : ∃ r, SlR X r ∧ ∀ (x : D) (vx : V) (lo hi : Option Int) (Z H : Hp) (Q : VK) (Ek : XK), Zh W Z H → Rep W Z x vx → PostE W (Rep W) Z H (slR x lo hi) Q Ek → r vx lo hi H Q := by
  refine ⟨_, sl_list.or sl_tupA, fun x vx lo hi Z H Q Ek z rx h => ?_⟩
  cases x <;> simp only [slR] at h <;> try (simp only [PostE_bad] at h; done)
  · rename_i ds
    simp only [Rep] at rx
    obtain ⟨a, vs, rfl, h1, h2⟩ := rx
    have cut := h2.cutV lo hi
    refine .inr ⟨a, vs, rfl, by rw [hK]; exact sqT_mono z h1, fun e => h.ret z ?_, fun e p hp => post_tup h z cut hp⟩
    have e2 : cutD ds lo hi = ds := by
      unfold cutD
      rw [h2.length] at e
      rw [e.1, e.2, List.drop_zero, Nat.sub_zero, List.take_length]
    rw [e2]
    simp only [Rep]
    exact ⟨a, vs, rfl, h1, h2⟩
  · rename_i ds
    simp only [Rep] at rx
    obtain ⟨a, vs, rfl, h1, h2⟩ := rx
    exact .inl ⟨a, vs, rfl, SqL.of (z _ _ h1), fun p hp => post_lst h z (h2.cutV lo hi) hp⟩
end
end R
end

section
set_option Elab.async false
set_option linter.all false
set_option maxRecDepth 100000
set_option maxHeartbeats 4000000
/-! R8: the built-in functions; what loops walk. -/
namespace R
open PySem PySem.Spec PyProof.Rows L2

theorem insI_perm (x : Int) : ∀ l : List Int, (insI x l).Perm (x :: l)
  | [] => List.Perm.refl _
  | y :: ys => by
    unfold insI
    split
    · exact List.Perm.refl _
    · exact (List.Perm.cons y (insI_perm x ys)).trans (List.Perm.swap x y ys)
theorem sortI_perm : ∀ l : List Int, (sortI l).Perm l
  | [] => List.Perm.refl _
  | x :: xs => (insI_perm x (sortI xs)).trans (List.Perm.cons x (sortI_perm xs))
theorem insI_sorted (x : Int) : ∀ {l : List Int}, l.Pairwise (· ≤ ·) → (insI x l).Pairwise (· ≤ ·)
  | [], _ => by simp [insI]
  | y :: ys, h => by
    unfold insI
    obtain ⟨h1, h2⟩ := List.pairwise_cons.mp h
    split
    · rename_i c
      refine List.pairwise_cons.mpr ⟨fun a ha => ?_, h⟩
      rcases List.mem_cons.mp ha with rfl | ha
      · exact c
      · exact Int.le_trans c (h1 a ha)
    · rename_i c
      refine List.pairwise_cons.mpr ⟨fun a ha => ?_, insI_sorted x h2⟩
      rcases List.mem_cons.mp ((insI_perm x ys).mem_iff.mp ha) with rfl | ha
      · omega
      · exact h1 a ha
theorem sortI_sorted : ∀ l : List Int, (sortI l).Pairwise (· ≤ ·)
  | [] => List.Pairwise.nil
  | x :: xs => insI_sorted x (sortI_sorted xs)
theorem sortI_uniq {l l' : List Int} (p : l'.Perm l) (s : l'.Pairwise (· ≤ ·)) : l' = sortI l :=
  List.Perm.eq_of_pairwise (fun a b _ _ h1 h2 => Int.le_antisymm h1 h2) s (sortI_sorted l) (p.trans (sortI_perm l).symm)
theorem maxL_mem : ∀ (x : Int) (l : List Int), maxL (x :: l) ∈ x :: l
  | x, [] => by simp [maxL]
  | x, y :: l => by
    have ih := maxL_mem y l
    simp only [maxL]
    rcases Int.le_total x (maxL (y :: l)) with h | h
    · rw [Int.max_eq_right h]; exact List.mem_cons_of_mem _ ih
    · rw [Int.max_eq_left h]; exact List.mem_cons_self
theorem maxL_le : ∀ (x : Int) (l : List Int), ∀ a ∈ x :: l, a ≤ maxL (x :: l)
  | x, [], a, h => by simp at h; subst h; simp [maxL]
  | x, y :: l, a, h => by
    simp only [maxL]
    rcases List.mem_cons.mp h with rfl | h
    · exact Int.le_max_left _ _
    · exact Int.le_trans (maxL_le y l a h) (Int.le_max_right _ _)
theorem minL_mem : ∀ (x : Int) (l : List Int), minL (x :: l) ∈ x :: l
  | x, [] => by simp [minL]
  | x, y :: l => by
    have ih := minL_mem y l
    simp only [minL]
    rcases Int.le_total x (minL (y :: l)) with h | h
    · rw [Int.min_eq_left h]; exact List.mem_cons_self
    · rw [Int.min_eq_right h]; exact List.mem_cons_of_mem _ ih
theorem minL_le : ∀ (x : Int) (l : List Int), ∀ a ∈ x :: l, minL (x :: l) ≤ a
  | x, [], a, h => by simp at h; subst h; simp [minL]
  | x, y :: l, a, h => by
    simp only [minL]
    rcases List.mem_cons.mp h with rfl | h
    · exact Int.min_le_left _ _
    · exact Int.le_trans (Int.min_le_right _ _) (minL_le y l a h)

def MeetsN (W : Wo) (r : List V → Hp → VK → Prop) (f : List D → Res D) : Prop := ∀ (ds : List D) (vs : List V) (Z H : Hp) (Q : VK) (Ek : XK), Zh W Z H → RepL W Z ds vs → PostE W (Rep W) Z H (f ds) Q Ek → r vs H Q
theorem RepL.one {W : Wo} {Z : Hp} {d : D} {vs : List V} (h : RepL W Z [d] vs) : ∃ v, vs = [v] ∧ Rep W Z d v := by
  obtain ⟨v, us, rfl, h1, h2⟩ := h.uncons
  rw [h2.unnil]
  exact ⟨v, rfl, h1⟩
theorem RepL.two {W : Wo} {Z : Hp} {d e : D} {vs : List V} (h : RepL W Z [d, e] vs) : ∃ v u, vs = [v, u] ∧ Rep W Z d v ∧ Rep W Z e u := by
  obtain ⟨v, us, rfl, h1, h2⟩ := h.uncons
  obtain ⟨u, rfl, h3⟩ := h2.one
  exact ⟨v, u, rfl, h1, h3⟩
section
variable {W : Wo} {X : Cx}
theorem len_ok (hK : X.K = W.K) : ∃ r, CallR X (.builtin "len") r ∧ MeetsN W r (bi .len) := by
  refine ⟨_, call_len_seq, fun ds vs Z H Q Ek z r h => ?_⟩
  simp only [bi] at h
  split at h
  · obtain ⟨v, rfl, h1⟩ := r.one
    simp only [Rep] at h1
    obtain ⟨a, us, rfl, h2, h3⟩ := h1
    exact ⟨a, us, rfl, .inr (by rw [hK]; exact sqT_mono z h2), by rw [h3.length]; exact post_int h z⟩
  · obtain ⟨v, rfl, h1⟩ := r.one
    simp only [Rep] at h1
    obtain ⟨a, us, rfl, h2, h3⟩ := h1
    exact ⟨a, us, rfl, .inl (SqL.of (z _ _ h2)), by rw [h3.length]; exact post_int h z⟩
  · obtain ⟨v, rfl, h1⟩ := r.one
    simp only [Rep] at h1
    obtain ⟨a, us, rfl, h2, h3⟩ := h1
    exact ⟨a, us, rfl, .inl (by rw [hK]; exact z.seq h2), by rw [h3.length]; exact post_int h z⟩
  · simp only [PostE_bad] at h
theorem abs_ok : ∃ r, CallR X (.builtin "abs") r ∧ MeetsN W r (bi .abs) := by
  refine ⟨_, call_abs, fun ds vs Z H Q Ek z r h => ?_⟩
  simp only [bi] at h
  split at h
  · obtain ⟨v, rfl, h1⟩ := r.one
    simp only [Rep] at h1
    subst h1
    exact ⟨_, rfl, post_int h z⟩
  · simp only [PostE_bad] at h
theorem int_ok : ∃ r, CallR X (.type "int") r ∧ MeetsN W r (bi .int) := by
  refine ⟨_, call_int1, fun ds vs Z H Q Ek z r h => ?_⟩
  simp only [bi] at h
  split at h
  · obtain ⟨v, rfl, h1⟩ := r.one
    simp only [Rep] at h1
    subst h1
    exact .inl ⟨_, rfl, post_int h z⟩
  · obtain ⟨v, rfl, h1⟩ := r.one
    simp only [Rep] at h1
    subst h1
    exact .inr ⟨_, rfl, post_int h z⟩
  · simp only [PostE_bad] at h
theorem max2_ok (hc : X.calm = true) : ∃ r, CallR X (.builtin "max") r ∧ MeetsN W r (bi .max2) := by
  refine ⟨_, call_max2 hc, fun ds vs Z H Q Ek z r h => ?_⟩
  simp only [bi] at h
  split at h
  · rename_i i j
    obtain ⟨v, u, rfl, h1, h2⟩ := r.two
    simp only [Rep] at h1 h2
    subst h1 h2
    refine ⟨_, _, rfl, ?_⟩
    have e : (if j > i then j else i) = max i j := by
      split <;> omega
    rw [e]
    exact post_int h z
  · simp only [PostE_bad] at h
theorem min2_ok (hc : X.calm = true) : ∃ r, CallR X (.builtin "min") r ∧ MeetsN W r (bi .min2) := by
  refine ⟨_, call_min2 hc, fun ds vs Z H Q Ek z r h => ?_⟩
  simp only [bi] at h
  split at h
  · rename_i i j
    obtain ⟨v, u, rfl, h1, h2⟩ := r.two
    simp only [Rep] at h1 h2
    subst h1 h2
    refine ⟨_, _, rfl, ?_⟩
    have e : (if j < i then j else i) = min i j := by
      split <;> omega
    rw [e]
    exact post_int h z
  · simp only [PostE_bad] at h
theorem sqI_of (hK : X.K = W.K) {d : D} {v : V} {Z H : Hp} {ns : List Int} (z : Zh W Z H) (r : Rep W Z d v) (e : intsOf d = some ns) : ∃ a, v = .ref a ∧ R3.SqI X.K H a ns := by
  cases d <;> simp only [intsOf, D.seq, Option.bind_some, Option.bind_none, reduceCtorEq] at e
  · simp only [Rep] at r
    obtain ⟨a, us, rfl, h2, h3⟩ := r
    have q := h3.ints e
    subst q
    exact ⟨a, rfl, .inr (by rw [hK]; exact sqT_mono z h2)⟩
  · simp only [Rep] at r
    obtain ⟨a, us, rfl, h2, h3⟩ := r
    have q := h3.ints e
    subst q
    exact ⟨a, rfl, .inl (SqL.of (z _ _ h2))⟩
  · simp only [Rep] at r
    obtain ⟨a, us, rfl, h2, h3⟩ := r
    have q := h3.ints e
    subst q
    exact ⟨a, rfl, .inl (by rw [hK]; exact z.seq h2)⟩
theorem sum_ok (hK : X.K = W.K) (hc : X.calm = true) : ∃ r, CallR X (.builtin "sum") r ∧ MeetsN W r (bi .sum) := by
  refine ⟨_, R3.cr_sumA hc, fun ds vs Z H Q Ek z r h => ?_⟩
  simp only [bi] at h
  split at h
  · split at h
    · rename_i e
      obtain ⟨v, rfl, h1⟩ := r.one
      obtain ⟨a, rfl, hs⟩ := sqI_of hK z h1 e
      exact ⟨a, _, rfl, hs, post_int h z⟩
    · simp only [PostE_bad] at h
  · simp only [PostE_bad] at h
theorem max1_ok (hK : X.K = W.K) (hc : X.calm = true) : ∃ r, CallR X (.builtin "max") r ∧ MeetsN W r (bi .max1) := by
  refine ⟨_, R3.cr_maxA hc, fun ds vs Z H Q Ek z r h => ?_⟩
  simp only [bi] at h
  split at h
  · split at h
    · rename_i x xs e
      obtain ⟨v, rfl, h1⟩ := r.one
      obtain ⟨a, rfl, hs⟩ := sqI_of hK z h1 e
      refine ⟨a, _, rfl, hs, Nat.succ_pos _, fun m h1 h2 => ?_⟩
      have e2 : m = maxL (x :: xs) := Int.le_antisymm (maxL_le x xs m h1) (h2 _ (maxL_mem x xs))
      rw [e2]
      exact post_int h z
    · simp only [PostE_bad] at h
  · simp only [PostE_bad] at h
theorem min1_ok (hK : X.K = W.K) (hc : X.calm = true) : ∃ r, CallR X (.builtin "min") r ∧ MeetsN W r (bi .min1) := by
  refine ⟨_, R3.cr_minA hc, fun ds vs Z H Q Ek z r h => ?_⟩
  simp only [bi] at h
  split at h
  · split at h
    · rename_i x xs e
      obtain ⟨v, rfl, h1⟩ := r.one
      obtain ⟨a, rfl, hs⟩ := sqI_of hK z h1 e
      refine ⟨a, _, rfl, hs, Nat.succ_pos _, fun m h1 h2 => ?_⟩
      have e2 : m = minL (x :: xs) := Int.le_antisymm (h2 _ (minL_mem x xs)) (minL_le x xs m h1)
      rw [e2]
      exact post_int h z
    · simp only [PostE_bad] at h
  · simp only [PostE_bad] at h
theorem all_ok (hK : X.K = W.K) (hc : X.calm = true) : ∃ r, CallR X (.builtin "all") r ∧ MeetsN W r (bi .all) := by
  refine ⟨_, cr_all hc, fun ds vs Z H Q Ek z r h => ?_⟩
  simp only [bi] at h
  split at h
  · split at h
    · rename_i e
      obtain ⟨v, rfl, h1⟩ := r.one
      simp only [Rep] at h1
      obtain ⟨a, us, rfl, h2, h3⟩ := h1
      have q := h3.bools e
      subst q
      exact ⟨a, _, rfl, SqL.of (z _ _ h2), post_bl h z⟩
    · simp only [PostE_bad] at h
  · simp only [PostE_bad] at h
theorem tuple_ok (hK : X.K = W.K) : ∃ r, CallR X (.type "tuple") r ∧ MeetsN W r (bi .tuple) := by
  refine ⟨_, call_tuple_of, fun ds vs Z H Q Ek z r h => ?_⟩
  simp only [bi] at h
  split at h
  · obtain ⟨v, rfl, h1⟩ := r.one
    simp only [Rep] at h1
    obtain ⟨a, us, rfl, h2, h3⟩ := h1
    exact ⟨a, us, rfl, .inl ⟨SqL.of (z _ _ h2), fun p hp => post_tup h z h3 hp⟩⟩
  · obtain ⟨v, rfl, h1⟩ := r.one
    have h4 := h1
    simp only [Rep] at h1
    obtain ⟨a, us, rfl, h2, h3⟩ := h1
    exact ⟨a, us, rfl, .inr ⟨by rw [hK]; exact sqT_mono z h2, h.ret z h4⟩⟩
  · simp only [PostE_bad] at h
theorem list_ok (hK : X.K = W.K) : ∃ r, CallR X (.type "list") r ∧ MeetsN W r (bi .list) := by
  refine ⟨_, call_list_of, fun ds vs Z H Q Ek z r h => ?_⟩
  simp only [bi] at h
  split at h
  · obtain ⟨v, rfl, h1⟩ := r.one
    simp only [Rep] at h1
    obtain ⟨a, us, rfl, h2, h3⟩ := h1
    exact ⟨a, us, rfl, .inl (SqL.of (z _ _ h2)), fun p hp => post_lst h z h3 hp⟩
  · obtain ⟨v, rfl, h1⟩ := r.one
    simp only [Rep] at h1
    obtain ⟨a, us, rfl, h2, h3⟩ := h1
    exact ⟨a, us, rfl, .inr (by rw [hK]; exact sqT_mono z h2), fun p hp => post_lst h z h3 hp⟩
  · simp only [PostE_bad] at h
def PairV (K : PySem.W.Frag) (H : Hp) (x : V) (p : Int × Int) : Prop := ∃ t, x = .ref t ∧ SqT K H t [.int p.1, .int p.2]
def rSortP (K : PySem.W.Frag) : List V → Hp → VK → Prop := fun vs H Q => ∃ (a : Addr) (xs : List V) (ps : List (Int × Int)) (Rr : V → Int × Int → Prop), vs = [V.ref a] ∧ SqL K H a xs ∧ Paired (fun x p => PairV K H x p ∧ Rr x p) xs ps ∧
  ∀ (ys : List V) (p : Addr), Paired Rr ys (ps.mergeSort pLe) → H p = none → Q (.ref p) (upd H p (.lst ys))
theorem pairs_items {K : PySem.W.Frag} {H : Hp} {pins : List (Addr × Obj)} {σ : L2.St} {s : Shared} {Rr : V → Int × Int → Prop} (hK : X.K = K) (I : Inv X pins σ H s) : ∀ {xs : List V} {ps : List (Int × Int)} {its : List Value}, Paired (fun x p => PairV K H x p ∧ Rr x p) xs ps → Vals xs its →
    PySem.W.EachIs (fun (v : Value) (p : Int × Int) => (∃ x, RelV x v ∧ Rr x p) ∧ ∃ as, Reads s.heap v (PyData.tuple [.int p.1, .int p.2]) as) its ps
  | _, _, _, .nil, .nil => .nil
  | _, _, _, .cons r t, .cons rv tv => by
    refine .cons ⟨⟨_, rv, r.2⟩, ?_⟩ (pairs_items hK I t tv)
    obtain ⟨⟨tt, rfl, sq⟩, _⟩ := r
    obtain rfl := rv
    rw [← hK] at sq
    obtain ⟨its, r2, ⟨o, e, c, n, d⟩, _⟩ := I.tuple sq
    obtain ⟨u1, u2, rfl, ⟨t1, rfl⟩, ⟨t2, rfl⟩⟩ := vals2 r2
    exact ⟨[], .tuple (as := []) e c d (.cons (as := []) (bs := []) (.int _ _) (.cons (as := []) (bs := []) (.int _ _) .nil))⟩
theorem each_back {Rq : V → Int × Int → Prop} {Rr : Value → Int × Int → Prop} : ∀ {out : List Value} {ps : List (Int × Int)}, PySem.W.EachIs (fun (v : Value) (p : Int × Int) => (∃ x, RelV x v ∧ Rq x p) ∧ Rr v p) out ps → ∃ ys, Vals ys out ∧ Paired Rq ys ps
  | _, _, .nil => ⟨[], .nil, .nil⟩
  | _, _, .cons ⟨⟨x, r1, r2⟩, _⟩ t => by
    obtain ⟨ys, h1, h2⟩ := each_back t
    exact ⟨x :: ys, .cons r1 h1, .cons r2 h2⟩
theorem cr_sortP {k : Nat} (hr : Room k X.A) : CallR X (.builtin "sorted") (rSortP X.K) := by
  intro pins s σ H vs us Q I r h
  obtain ⟨a, xs, ps, Rr, rfl, hs, hp, q⟩ := h
  obtain rfl := Vals.ref1 r
  obtain ⟨its, rv, hl, hz⟩ := I.list hs
  have each := pairs_items rfl I hp rv
  have hlen : ps.length = its.length := each.length.symm
  have hz2 : ps.length ≤ sizeLine := by rw [hlen, ← rv.length]; exact hz
  have e2 : (fun p : Int × Int => PyData.tuple [.int p.1, .int p.2]) = (fun p : Int × Int => PyData.tuple [.int (Prod.fst p), .int (Prod.snd p)]) := rfl
  refine PySem.W.sorted_data (enc := fun p : Int × Int => PyData.tuple [.int p.1, .int p.2]) hl.isList each (each.mono fun v p h => h.2) ?_ ?_ hz2 ?_ fun out ho eo => ?_
  · intro d1 m1 d2 m2
    obtain ⟨n1, _, rfl⟩ := List.mem_map.mp m1
    obtain ⟨n2, _, rfl⟩ := List.mem_map.mp m2
    rfl
  · refine .inl fun d1 m1 => ?_
    obtain ⟨n1, _, rfl⟩ := List.mem_map.mp m1
    exact ⟨_, _, rfl⟩
  · intro p _
    have := hr.un
    have : (PyData.tuple [.int p.1, .int p.2]).depth ≤ 4 := by simp [PyData.depth, PyData.depthAll]
    omega
  · rw [PySem.W.dataLe_ii] at eo
    obtain ⟨ys, h1, h2⟩ := each_back eo
    obtain ⟨ep, he'⟩ := PyProof.Rows.sortedAll_at s.heap its out.toArray
    have hn : H (s.heap.objs.size + 1) = none := I.hok.fresh (Nat.le_succ _)
    refine ⟨.ref _, upd H (s.heap.objs.size + 1) (.lst ys), I.laid (t' := s.toks) (fun _ _ => PyProof.Rows.sortedAll_old) (Nat.le_succ _) ⟨?_, out, ep, h1, he'⟩, rfl, q ys _ h2 hn⟩
    rw [h1.length, ho]; exact hz2
theorem pairs_rep {Z : Hp} : ∀ {ds : List D} {ps : List (Int × Int)} {vs : List V}, D.pairs ds = some ps → RepL W Z ds vs → Paired (PairV W.K Z) vs ps
  | [], ps, vs, h, r => by
    simp only [D.pairs, Option.some.injEq] at h
    subst h
    rw [r.unnil]
    exact .nil
  | d :: ds, ps, vs, h, r => by
    obtain ⟨v, us, rfl, h1, h2⟩ := r.uncons
    unfold D.pairs at h
    split at h
    · rename_i heq
      cases heq
    · rename_i a b ds' heq
      injection heq with e1 e2
      subst e1 e2
      cases e : D.pairs ds with
      | none => rw [e] at h; cases h
      | some qs =>
        rw [e] at h
        simp only [Option.map_some, Option.some.injEq] at h
        subst h
        refine .cons ?_ (pairs_rep e h2)
        simp only [Rep] at h1
        obtain ⟨t, ws, rfl, s1, s2⟩ := h1
        obtain ⟨x, y, rfl, r1, r2⟩ := s2.two
        simp only [Rep] at r1 r2
        subst r1 r2
        exact ⟨t, rfl, s1⟩
    · cases h
theorem rep_pairs {Z : Hp} : ∀ {ps : List (Int × Int)} {vs : List V}, Paired (PairV W.K Z) vs ps → RepL W Z (ps.map pD) vs
  | _, _, .nil => .nil
  | _, _, .cons ⟨t, e, s⟩ r => by
    subst e
    refine .cons ?_ (rep_pairs r)
    unfold pD
    simp only [Rep]
    exact ⟨t, _, rfl, s, .cons (by simp only [Rep]) (.cons (by simp only [Rep]) .nil)⟩
theorem sorted_ok {k : Nat} (hK : X.K = W.K) (hr : Room k X.A) : ∃ r, CallR X (.builtin "sorted") r ∧ MeetsN W r (bi .sorted) := by
  refine ⟨fun vs H Q => rSortedI X.K vs H Q ∨ rSortP X.K vs H Q, fun pins s σ H vs us Q I r h => ?_, fun ds vs Z H Q Ek z r h => ?_⟩
  · rcases h with h | h
    · exact cr_sortedI pins s σ H vs us Q I r h
    · exact cr_sortP hr pins s σ H vs us Q I r h
  simp only [bi] at h
  split at h
  · obtain ⟨v, rfl, h1⟩ := r.one
    simp only [Rep] at h1
    obtain ⟨a, us, rfl, h2, h3⟩ := h1
    split at h
    · rename_i e
      have q := h3.ints e
      subst q
      refine .inl ⟨a, _, rfl, SqL.of (z _ _ h2), fun ns' p hp hs hn => ?_⟩
      rw [sortI_uniq hp hs]
      exact post_lst h z (RepL.ofInts _) hn
    · split at h
      · rename_i ps e
        exact .inr ⟨a, us, ps, PairV W.K Z, rfl, SqL.of (z _ _ h2), L2.Paired.mapP (pairs_rep e h3) fun x p ⟨t, e1, e2⟩ => ⟨⟨t, e1, by rw [hK]; exact sqT_mono z e2⟩, t, e1, e2⟩, fun ys p hys hn => post_lst h z (rep_pairs hys) hn⟩
      · simp only [PostE_bad] at h
  · simp only [PostE_bad] at h
theorem gcd_ok : ∃ r, CallR X (.builtin "math.gcd") r ∧ MeetsN W r (bi .gcd) := by
  refine ⟨_, cr_gcd, fun ds vs Z H Q Ek z r h => ?_⟩
  simp only [bi] at h
  split at h
  · obtain ⟨v, u, rfl, h1, h2⟩ := r.two
    simp only [Rep] at h1 h2
    subst h1 h2
    exact ⟨_, _, rfl, post_int h z⟩
  · simp only [PostE_bad] at h

/-! ### isinstance -/
theorem tyX_of {T : Th} (hK : X.K = W.K) (dc : PySem.W.specialIn W.K (.builtin "object.__class__") "__get__" = some (some (.builtin "getset_descriptor.__get__")) ∧ PySem.W.takesIn W.K (.builtin "object.__class__") = some true)
    (hc : ∀ c, c < W.nC → ∃ ci, ClsFacts W T c ci) {d : D} {v : V} {Z H : Hp} (z : Zh W Z H) (r : Rep W Z d v) : TyX X.K H v (tyOfD W d) := by
  rw [hK]
  cases d <;> simp only [Rep] at r
  case non => subst r; exact .base .non
  case bl => subst r; exact .base (.bl _)
  case int => subst r; exact .base (.int _)
  case str => subst r; exact .base (.str _)
  case tup =>
    obtain ⟨a, us, rfl, h2, h3⟩ := r
    rcases h2 with (h2 | ⟨o, h2⟩) | ⟨o, its, n, h2, h4, _⟩
    · exact .base (.tup (z _ _ h2))
    · exact .fTuple (z _ _ h2)
    · exact .kTuple h2 h4
  case lst => obtain ⟨a, us, rfl, h2, h3⟩ := r; exact .base (.lst (z _ _ h2))
  case obj c ds =>
    obtain ⟨a, dx, us, rfl, h0, h2, h3⟩ := r
    obtain ⟨ci, C⟩ := hc c h0
    exact .base (.ins (z _ _ h2) C.cl C.ha dc.1 dc.2 C.hm)
  case fz =>
    obtain ⟨a, us, rfl, h2, h3⟩ := r
    rcases h2 with (h2 | ⟨o, h2⟩) | ⟨o, its, n, h2, h4, _⟩
    · exact .base (.lst (z _ _ h2))
    · exact .base (.frz (z _ _ h2))
    · exact .kList h2 h4
end
end R
end

section
set_option Elab.async false
set_option linter.all false
set_option maxRecDepth 100000
set_option maxHeartbeats 8000000
/-! R9: an expression that passes the check means what the compact form says. -/
namespace R
open PySem PySem.Spec PyProof.Rows L2

/-! ### small facts of the text -/
theorem starEach_nst {e : Expr} (h : nst e = true) (es : List Expr) (env : Env) : starEach (e :: es) env = (false, eval e env) :: starEach es env := by
  cases e <;> first | rfl | exact absurd h Bool.false_ne_true
theorem any_star {es : List Expr} (h : ∀ e ∈ es, nst e = true) (pos : Pos) (env : Env) : (backTo pos (starEach es env)).any (·.1) = false := by
  induction es with
  | nil => rfl
  | cons e r ih =>
    rw [starEach_nst (h e List.mem_cons_self)]
    show ((backTo pos (starEach r env)).any (·.1)) = false
    exact ih fun x hx => h x (List.mem_cons_of_mem _ hx)
theorem attrBase {e : Expr} (h : nsup e = true) (f : PySem.Str) (env : Env) : attributeBase e f env (eval e env) = eval e env := by
  cases e <;> first | rfl | skip
  rename_i g args kws pos
  cases g <;> first | rfl | skip
  cases args <;> first | rfl | skip
  cases kws <;> first | rfl | exact absurd h Bool.false_ne_true
theorem plainIx {b : Expr} (h : nsl b = true) : PlainIx b := by
  intro o i
  cases b <;> first | rfl | exact absurd h Bool.false_ne_true
theorem noMark {b : Expr} (h : nset b = true) (op : CmpOp) : behindInMarks op b = false := by
  cases b <;> first | rfl | exact absurd h Bool.false_ne_true
theorem noFold {b : Expr} (h : nset b = true) (env : Env) (x : Value) : foldedSetIterable b env x = pure x := by
  cases b <;> first | rfl | exact absurd h Bool.false_ne_true
theorem vis_of {sc : Scope} {x : PySem.Str} (h : visB sc x = true) : Vis sc x := by
  unfold visB at h
  split at h
  · exact .inl (by assumption)
  · exact .inr (.inl (by assumption))
  · exact .inr (.inr (by assumption))
  · exact absurd h Bool.false_ne_true
theorem gl_of {X : Cx} {sc : Scope} {x : PySem.Str} (e : X.env.scope = sc) (h : glB sc x = true) : Gl X x := by
  unfold glB at h
  split at h
  · show X.env.scope.names.lookup x = _
    rw [e]; assumption
  · exact absurd h Bool.false_ne_true
theorem plainNm_of {x : PySem.Str} (h : plainNm x = true) : (x == ("__debug__" : PySem.Str)) = false ∧ (x == ("__classdict__" : PySem.Str)) = false := by
  unfold plainNm at h
  rw [Bool.and_eq_true, Bool.not_eq_true', Bool.not_eq_true'] at h
  exact h
theorem ba {a b : Bool} (h : (a && b) = true) : a = true ∧ b = true := Bool.and_eq_true_iff.mp h
theorem de {p : Prop} [Decidable p] (h : decide p = true) : p := of_decide_eq_true h
theorem tob_bind {γ : Type} (r : Res D) (f : Bool → Res γ) : (tob r).bind f = r.bind fun d => match d with | .bl b => f b | _ => .bad := by
  cases r with
  | ok d => cases d <;> rfl
  | ex c fs => rfl
  | bad => rfl
theorem bnm {x : PySem.Str} (h : x ∈ bNames) : x ≠ "__name__" ∧ (x == ("__debug__" : PySem.Str)) = false := by
  have q : ∀ y ∈ bNames, y ≠ "__name__" ∧ (y == ("__debug__" : PySem.Str)) = false := by decide +kernel
  exact q x h

section
variable {X : Cx} {CX : CXT} {k : Nat} {f C : Addr} {fd : FuncData} {ps : List PySem.Str} {sp : Sp} {dvs : List V} {ds : List Value} {E : L2.St → XK} {x m : PySem.Str} {p pos : Pos} {e : Expr} {es : List Expr} {t : TA}
theorem run_makeS {pins : List (Addr × Obj)} {σ : L2.St} {H : Hp} {s : Shared} {Q : VK} {us : List Value} {vs : List V} (M : Mk X.K C f) (F : FnOk X.prog X.w X.K X.mg X.base CX k f fd ps sp) (hr : Room (k + 1) X.A) (hb : Binds X.K fd ps ds) (hd : Vals dvs ds)
    (hx : PassesAt CX X σ (E σ)) (I : Inv X pins σ H s) (r : Vals vs us)
    (h : ∀ x dx, H x = none → H dx = none → dx ≠ x → sp (.ref x :: (vs ++ dvs)) (upd (upd H dx (.own x)) x (.ins C dx [])) (fun v H2 => v = .non ∧ Q (.ref x) H2) (E σ)) :
    wpAny (model X.prog X.w) X.A (call (.ref C) us) (EP X pins σ Q) X.xe s := by
  have hq := h (s.heap.objs.size + 1) s.heap.objs.size (I.hok.fresh (Nat.le_succ _)) (I.hok.fresh (Nat.le_refl _)) (Nat.ne_of_lt (Nat.lt_succ_self _))
  have I2 := Inv.made (C := C) I
  have r2 : Vals (V.ref (s.heap.objs.size + 1) :: (vs ++ dvs)) (Value.ref (s.heap.objs.size + 1) :: (us ++ ds)) := .cons rfl (r.append hd)
  have hl : (Value.ref (s.heap.objs.size + 1) :: us ++ ds).length = ps.length := by
    have e := r2.length
    rw [F.len _ _ _ _ hq] at e
    exact e.symm
  refine wpAny_call (make_map (f := f) I.kIn M.makes M.init (beq_iff_eq.mp M.fn) (codeAny_mono (F.run _ X.stack _ _ ⟨Value.ref (s.heap.objs.size + 1) :: us, []⟩ (Value.ref (s.heap.objs.size + 1) :: (us ++ ds)) _ _ (E σ) (hr.make C us [])
    (I2.env0.make C us []) (hb _ (Value.ref (s.heap.objs.size + 1) :: us) I2.kIn hl) r2 hq) fun r s' hq' => ?_))
  cases r with
  | error e => exact hx pins _ _ e s' I2 hq'
  | ok fl =>
    cases fl with
    | ret u =>
      obtain ⟨v, H', I3, rv, ev, q3⟩ := I2.after hq'
      subst ev
      exact ⟨rv, ⟨V.ref (s.heap.objs.size + 1), H', I3, rfl, q3⟩⟩
    | next => exact False.elim hq'
    | brk => exact False.elim hq'
    | cont => exact False.elim hq'
def tMakeS (C : Addr) (sp : Sp) (dvs : List V) (E : L2.St → XK) (t : TA) : TE := fun σ H Q => t σ H fun vs H1 => ∀ x dx, H1 x = none → H1 dx = none → dx ≠ x →
  sp (.ref x :: (vs ++ dvs)) (upd (upd H1 dx (.own x)) x (.ins C dx [])) (fun v H2 => v = .non ∧ Q (.ref x) H2) (E σ)
theorem pe_makeS (M : Mk X.K C f) (F : FnOk X.prog X.w X.K X.mg X.base CX k f fd ps sp) (hr : Room (k + 1) X.A) (hg : Gl X x) (hm : X.mg x = some (.ref C)) (hb : Binds X.K fd ps ds) (hd : Vals dvs ds) (hx : ∀ σ, PassesAt CX X σ (E σ))
    (ha : PA X (e :: es) t) (hdb : (x == ("__debug__" : PySem.Str)) = false) (he : starEach (e :: es) X.env = (false, eval e X.env) :: starEach es X.env) (hpl : (backTo pos (starEach es X.env)).any (·.1) = false) :
    PE X (.Call (.Name x p) (e :: es) [] pos) (tMakeS C sp dvs E t) := by
  refine ⟨fun pins s σ H Q I h => ?_⟩
  refine wpAny_Call_Name_kw (ld_glob I hg hm ?_ hdb)
  refine PySem.W.callWith_K (h₀ := X.base) I.ok.mod.kin M.kp (thn (ha.run pos pins s σ H _ I h) fun us s1 ⟨vs, H1, I1, r, q⟩ => ⟨I1.kIn, ?_⟩) he hpl
  exact run_makeS M F hr hb hd (hx σ) I1 r q
end

section
variable {T : Th} {W : Wo} {Φ : Or} {k : Nat} {N : List PySem.Str}
/-- what is shown of an expression -/
def SndE (T : Th) (W : Wo) (Φ : Or) (k : Nat) (N : List PySem.Str) (e : E) : Prop := ∀ {sc : Scope} {ex : Expr} {X : Cx} {Wx : WX}, Good T W Φ k N sc X → Takes X Wx → chkE T N sc e ex = true → PE X ex (tE W Φ e Wx)
def SndT (T : Th) (W : Wo) (Φ : Or) (k : Nat) (N : List PySem.Str) (e : E) : Prop := ∀ {sc : Scope} {ex : Expr} {X : Cx} {Wx : WX}, Good T W Φ k N sc X → Takes X Wx → tok e = true → chkE T N sc e ex = true → PT X ex (tT W Φ e Wx)
def SndW (T : Th) (W : Wo) (Φ : Or) (k : Nat) (N : List PySem.Str) (e : E) : Prop := ∀ {sc : Scope} {o : BoolOp} {xs : List Expr} {p : Pos} {X : Cx} {Wx : WX}, Good T W Φ k N sc X → Takes X Wx → tok e = true → chkE T N sc e (.BoolOp o xs p) = true → PW X (.BoolOp o xs p) (tT W Φ e Wx)
def SndEs (T : Th) (W : Wo) (Φ : Or) (k : Nat) (N : List PySem.Str) (es : List E) : Prop := ∀ {sc : Scope} {xs : List Expr} {X : Cx} {Wx : WX}, Good T W Φ k N sc X → Takes X Wx → chkEs T N sc es xs = true → PA X xs (tEs W Φ es Wx) ∧ ∀ x ∈ xs, nst x = true

/-- a test by its value -/
theorem pt_of {e : E} {ex : Expr} {X : Cx} {Wx : WX} (h : PE X ex (tE W Φ e Wx)) (he : ∀ whole, isTrue ex X.env whole = (do let v ← whole; standAt ex.pos; holding [v] (truthy v))) : PT X ex (tT W Φ e Wx) := by
  refine (pt_val h he).imp fun σ H Q ⟨Δ, Z, hE, hz, q⟩ => ?_
  refine ⟨Δ, Z, hE, hz, ?_⟩
  cases r : ev Φ e Δ with
  | ok d =>
    rw [r] at q
    cases d <;> try exact q.elim
    rename_i b
    intro v Z' H' x rv
    simp only [Rep] at rv
    exact ⟨b, rv, q b Z' H' x rfl⟩
  | ex c fs => rw [r] at q; exact q
  | bad => rw [r] at q; exact q.elim
/-- what is left of a result that must be a test -/
theorem post_tob {r : Res D} {Z H : Hp} {Q : VK} {Ek : XK} (h : PostE W (Rep W) Z H ((tob r).bind fun y => .ok (.bl y)) Q Ek) : PostE W (Rep W) Z H r Q Ek := by
  cases r with
  | ok d => cases d <;> first | exact h | exact h.elim
  | ex c fs => exact h
  | bad => exact h

theorem snd_var (i : Nat) : SndE T W Φ k N (.var i) := by
  intro sc ex X Wx G tk h
  rw [chkE_var] at h
  split at h
  · obtain ⟨h1, h2⟩ := ba h
    obtain ⟨h2, h3⟩ := ba h2
    obtain ⟨h3, h4⟩ := plainNm_of h3
    refine (pe_var (i := i) (by rw [G.hN]; exact de h1) (by rw [G.hsc]; exact vis_of h2) h3 h4).imp fun σ H Q ⟨Δ, Z, hE, hz, q⟩ => ?_
    rw [ev_var] at q
    split at q
    · rename_i d e
      obtain ⟨v, e1, r⟩ := hE.2 i d e
      exact ⟨v, e1, q.ret hz r⟩
    · exact q.elim
  · exact absurd h Bool.false_ne_true
theorem snd_non : SndE T W Φ k N .non := by
  intro sc ex X Wx G tk h
  rw [chkE_non] at h
  split at h
  · exact pe_non.imp fun σ H Q ⟨Δ, Z, hE, hz, q⟩ => PostE.ret (W := W) (Rp := Rep W) (d := D.non) q hz (by simp only [Rep])
  · exact absurd h Bool.false_ne_true
theorem snd_bl (b : Bool) : SndE T W Φ k N (.bl b) := by
  intro sc ex X Wx G tk h
  rw [chkE_bl] at h
  split at h
  · have e := eq_of_beq h
    subst e
    exact pe_bl.imp fun σ H Q ⟨Δ, Z, hE, hz, q⟩ => post_bl q hz
  · exact absurd h Bool.false_ne_true
theorem snd_int (b : Int) : SndE T W Φ k N (.int b) := by
  intro sc ex X Wx G tk h
  rw [chkE_int] at h
  split at h
  · have e := de h
    subst e
    exact pe_int.imp fun σ H Q ⟨Δ, Z, hE, hz, q⟩ => post_int q hz
  · exact absurd h Bool.false_ne_true
theorem snd_str (b : PySem.Str) : SndE T W Φ k N (.str b) := by
  intro sc ex X Wx G tk h
  rw [chkE_str] at h
  split at h
  · have e := de h
    subst e
    exact pe_str.imp fun σ H Q ⟨Δ, Z, hE, hz, q⟩ => PostE.ret (W := W) (Rp := Rep W) (d := D.str b) q hz (by simp only [Rep])
  · exact absurd h Bool.false_ne_true
theorem snd_tup {es : List E} (ih : SndEs T W Φ k N es) : SndE T W Φ k N (.tup es) := by
  intro sc ex X Wx G tk h
  rw [chkE_tup] at h
  split at h
  · refine (pe_tup (ih G tk h).1).imp fun σ H Q ⟨Δ, Z, hE, hz, q⟩ => ?_
    rw [ev_tup] at q
    obtain ⟨Δ', Z', hE', hz', q'⟩ := tEs_bind hE hz q
    refine ⟨Δ', Z', hE', hz', q'.imp fun vs H1 ⟨ds, Z1, x, r, q1⟩ => ?_⟩
    split at q1
    · rename_i hl
      exact ⟨by rw [r.length]; exact sum_le_line hl, fun p hp => post_tup q1 x.zh r hp⟩
    · exact q1.elim
  · exact absurd h Bool.false_ne_true
theorem snd_lst {es : List E} (ih : SndEs T W Φ k N es) : SndE T W Φ k N (.lst es) := by
  intro sc ex X Wx G tk h
  rw [chkE_lst] at h
  split at h
  · refine (pe_lst (ih G tk h).1).imp fun σ H Q ⟨Δ, Z, hE, hz, q⟩ => ?_
    rw [ev_lst] at q
    obtain ⟨Δ', Z', hE', hz', q'⟩ := tEs_bind hE hz q
    refine ⟨Δ', Z', hE', hz', q'.imp fun vs H1 ⟨ds, Z1, x, r, q1⟩ => ?_⟩
    split at q1
    · rename_i hl
      exact ⟨by rw [r.length]; exact sum_le_line hl, fun p hp => post_lst q1 x.zh r hp⟩
    · exact q1.elim
  · exact absurd h Bool.false_ne_true
theorem snd_nil : SndEs T W Φ k N [] := by
  intro sc xs X Wx G tk h
  rw [chkEs_l0] at h
  obtain rfl : xs = [] := List.isEmpty_iff.mp h
  exact ⟨pa_nil.imp fun σ H Q ⟨Δ, Z, hE, hz, q⟩ => PostE.ret (W := W) (Rp := RepL W) (d := ([] : List D)) q hz .nil, fun x hx => nomatch hx⟩
theorem snd_cons {e : E} {es : List E} (ih : SndE T W Φ k N e) (ih2 : SndEs T W Φ k N es) : SndEs T W Φ k N (e :: es) := by
  intro sc xs X Wx G tk h
  rw [chkEs_cons1] at h
  split at h
  · obtain ⟨h1, h2⟩ := ba h
    obtain ⟨h2, h3⟩ := ba h2
    obtain ⟨p, n⟩ := ih2 G tk h3
    refine ⟨(pa_cons (ih G tk h2) p (starEach_nst h1 _ _)).imp fun σ H Q ⟨Δ, Z, hE, hz, q⟩ => ?_, fun x hx => ?_⟩
    · rw [evs_cons1] at q
      obtain ⟨Δ', Z', hE', hz', q'⟩ := tE_bind hE hz q
      refine ⟨Δ', Z', hE', hz', q'.imp fun v H1 ⟨d, Z1, x, r, q1⟩ => ?_⟩
      obtain ⟨Δ2, Z2, hE2, hz2, q2⟩ := tEs_bind (hE.mono x.zz) x.zh q1
      refine ⟨Δ2, Z2, hE2, hz2, q2.imp fun vs H2 ⟨ds, Z3, x3, r3, q3⟩ => ?_⟩
      exact q3.ret x3.zh (.cons (r.mono x3.zz) r3)
    · rcases List.mem_cons.mp hx with rfl | hx
      · exact h1
      · exact n x hx
  · exact absurd h Bool.false_ne_true
end
end R
end

section
set_option Elab.async false
set_option linter.all false
set_option maxRecDepth 100000
set_option maxHeartbeats 8000000
/-! R10: operators, tests, calls. -/
namespace R
open PySem PySem.Spec PyProof.Rows L2
section
variable {T : Th} {W : Wo} {Φ : Or} {k : Nat} {N : List PySem.Str}
theorem hu64 {A : Around} (hr : Room k A) : A.units + 64 < cLine := hr.units
/-- two parts, then an operator -/
theorem read2 {a b : E} {f : D → D → Res D} {r : R2} (m : Meets2 W r f) {σ : L2.St} {H : Hp} {Q : VK} {Wx : WX} {Δ : List (Option D)} {Z : Hp} (hE : EnvOk W Z σ Δ) (hz : Zh W Z H)
    (q : PostE W (Rep W) Z H ((ev Φ a Δ).bind fun x => (ev Φ b Δ).bind fun y => f x y) Q fun c d H' => Wx c d σ H') : tOp r (tE W Φ a Wx) (tE W Φ b Wx) σ H Q := by
  obtain ⟨Δ', Z', hE', hz', q'⟩ := tE_bind hE hz q
  refine ⟨Δ', Z', hE', hz', q'.imp fun v H1 ⟨d, Z1, x, rv, q1⟩ => ?_⟩
  obtain ⟨Δ2, Z2, hE2, hz2, q2⟩ := tE_bind (hE.mono x.zz) x.zh q1
  refine ⟨Δ2, Z2, hE2, hz2, q2.imp fun u H2 ⟨d2, Z3, x3, r3, q3⟩ => ?_⟩
  exact m _ _ _ _ Z3 H2 Q _ x3.zh (rv.mono x3.zz) r3 q3
theorem read1 {a : E} {f : D → Res D} {r : V → Hp → VK → Prop} (m : Meets1 W r f) {σ : L2.St} {H : Hp} {Q : VK} {Wx : WX} {Δ : List (Option D)} {Z : Hp} (hE : EnvOk W Z σ Δ) (hz : Zh W Z H)
    (q : PostE W (Rep W) Z H ((ev Φ a Δ).bind f) Q fun c d H' => Wx c d σ H') : tE W Φ a Wx σ H fun v H1 => r v H1 Q := by
  obtain ⟨Δ', Z', hE', hz', q'⟩ := tE_bind hE hz q
  exact ⟨Δ', Z', hE', hz', q'.imp fun v H1 ⟨d, Z1, x, rv, q1⟩ => m _ _ Z1 H1 Q _ x.zh rv q1⟩
theorem snd_op {o : O2} {a b : E} (iha : SndE T W Φ k N a) (ihb : SndE T W Φ k N b) : SndE T W Φ k N (.op o a b) := by
  intro sc ex X Wx G tk h
  rw [chkE_op] at h
  split at h
  · obtain ⟨h1, h2⟩ := ba h
    obtain ⟨h2, h3⟩ := ba h2
    obtain ⟨r, ho, m⟩ := bin_ok (X := X) (W := W) G.hK h1
    exact (pe_op ho (iha G tk h2) (ihb G tk h3)).imp fun σ H Q ⟨Δ, Z, hE, hz, q⟩ => read2 m hE hz (by rw [ev_op] at q; exact q)
  · obtain ⟨h1, h2⟩ := ba h
    obtain ⟨hs, h2⟩ := ba h2
    obtain ⟨h2, h3⟩ := ba h2
    obtain ⟨r, ho, m⟩ := cmp_ok (X := X) (W := W) G.hK (hu64 G.room) h1
    exact (pe_cmpR ho (iha G tk h2) (ihb G tk h3) (noMark hs _)).imp fun σ H Q ⟨Δ, Z, hE, hz, q⟩ => read2 m hE hz (by rw [ev_op] at q; exact q)
  · exact absurd h Bool.false_ne_true
theorem test_of {t : TE} {e : E} {Wx : WX} (h : ∀ σ H Q, tE W Φ e Wx σ H Q → t σ H Q) : ∀ σ H Q, tT W Φ e Wx σ H Q → tTest t σ H Q := by
  intro σ H Q ⟨Δ, Z, hE, hz, q⟩
  refine h σ H _ ⟨Δ, Z, hE, hz, ?_⟩
  cases r : ev Φ e Δ with
  | ok d =>
    rw [r] at q
    cases d <;> try exact q.elim
    rename_i b
    intro v Z' H' x rv
    simp only [Rep] at rv
    exact ⟨b, rv, q b Z' H' x rfl⟩
  | ex c fs => rw [r] at q; exact q
  | bad => rw [r] at q; exact q.elim
theorem sndT_op {o : O2} {a b : E} (iha : SndE T W Φ k N a) (ihb : SndE T W Φ k N b) : SndT T W Φ k N (.op o a b) := by
  intro sc ex X Wx G tk _ h
  have h' := h
  rw [chkE_op] at h
  split at h
  · exact pt_of (snd_op iha ihb G tk h') fun _ => rfl
  · obtain ⟨h1, h2⟩ := ba h
    obtain ⟨hs, h2⟩ := ba h2
    obtain ⟨h2, h3⟩ := ba h2
    obtain ⟨r, ho, m⟩ := cmp_ok (X := X) (W := W) G.hK (hu64 G.room) h1
    exact (pt_cmpR ho (iha G tk h2) (ihb G tk h3) (noMark hs _)).imp (test_of fun σ H Q ⟨Δ, Z, hE, hz, q⟩ => read2 m hE hz (by rw [ev_op] at q; exact q))
  · exact absurd h Bool.false_ne_true
theorem snd_un {o : O1} {a : E} (iha : SndE T W Φ k N a) : SndE T W Φ k N (.un o a) := by
  intro sc ex X Wx G tk h
  rw [chkE_un] at h
  split at h
  · obtain ⟨h1, h2⟩ := ba h
    cases o <;> try exact absurd h1 Bool.false_ne_true
    obtain ⟨r, ho, m⟩ := neg_ok (X := X) (W := W)
    exact (pe_un ho (iha G tk h2)).imp fun σ H Q ⟨Δ, Z, hE, hz, q⟩ => read1 m hE hz (by rw [ev_un] at q; exact q)
  · obtain ⟨h1, h2⟩ := ba h
    obtain ⟨pc, mk, r, ho, m⟩ := cmp1_ok (X := X) (W := W) h1
    exact (pe_cmpR ho (iha G tk h2) pc (noMark rfl _)).imp fun σ H Q ⟨Δ, Z, hE, hz, q⟩ => read1 m hE hz (by rw [ev_un] at q; exact q)
  · exact absurd h Bool.false_ne_true
theorem sndT_un {o : O1} {a : E} (iha : SndE T W Φ k N a) : SndT T W Φ k N (.un o a) := by
  intro sc ex X Wx G tk _ h
  have h' := h
  rw [chkE_un] at h
  split at h
  · exact pt_of (snd_un iha G tk h') fun _ => rfl
  · obtain ⟨h1, h2⟩ := ba h
    obtain ⟨pc, mk, r, ho, m⟩ := cmp1_ok (X := X) (W := W) h1
    exact (pt_cmpR ho (iha G tk h2) pc (noMark rfl _)).imp (test_of fun σ H Q ⟨Δ, Z, hE, hz, q⟩ => read1 m hE hz (by rw [ev_un] at q; exact q))
  · exact absurd h Bool.false_ne_true

/-! ### and, or, not, if else -/
theorem readB {a : E} {γ δ : Type} {Rq : Hp → γ → δ → Prop} {f : Bool → Res γ} {σ : L2.St} {H : Hp} {Q : δ → Hp → Prop} {Wx : WX} {Δ : List (Option D)} {Z : Hp} (hE : EnvOk W Z σ Δ) (hz : Zh W Z H)
    (q : PostE W Rq Z H ((tob (ev Φ a Δ)).bind f) Q fun c d H' => Wx c d σ H') : tE W Φ a Wx σ H fun v H1 => ∃ b Z1, v = .bl b ∧ Ext W Z H Z1 H1 ∧ PostE W Rq Z1 H1 (f b) Q fun c d H' => Wx c d σ H' := by
  rw [tob_bind] at q
  obtain ⟨Δ', Z', hE', hz', q'⟩ := tE_bind hE hz q
  refine ⟨Δ', Z', hE', hz', q'.imp fun v H1 ⟨d, Z1, x, rv, q1⟩ => ?_⟩
  cases d <;> try exact q1.elim
  rename_i b
  simp only [Rep] at rv
  exact ⟨b, Z1, rv, x, q1⟩
theorem snd_bits {a : E} (iha : SndE T W Φ k N a) : SndE T W Φ k N (.bits a) := by
  intro sc ex X Wx G tk h
  rw [chkE_bits] at h
  split at h
  · rename_i x m p q
    obtain ⟨h1, h2⟩ := ba h
    obtain ⟨h2, h3⟩ := ba h2
    obtain ⟨h3, h4⟩ := ba h3
    have e := de h1
    subst e
    refine (pe_bits (iha G tk h4) (attrBase h3 _ _) h2).imp fun σ H Q ⟨Δ, Z, hE, hz, q⟩ => ?_
    rw [ev_bits] at q
    obtain ⟨Δ', Z', hE', hz', q'⟩ := tE_bind hE hz q
    refine ⟨Δ', Z', hE', hz', q'.imp fun v H1 ⟨d, Z1, x1, rv, q1⟩ => ?_⟩
    cases d <;> simp only [PostE_bad] at q1
    simp only [Rep] at rv
    refine ⟨_, rv, ?_⟩
    rw [bits_eq]
    exact post_int q1 x1.zh
  · exact absurd h Bool.false_ne_true
theorem snd_not {a : E} (iha : SndE T W Φ k N a) : SndE T W Φ k N (.not a) := by
  intro sc ex X Wx G tk h
  rw [chkE_not] at h
  split at h
  · refine (pe_not (iha G tk h)).imp fun σ H Q ⟨Δ, Z, hE, hz, q⟩ => ?_
    rw [ev_not] at q
    obtain ⟨Δ', Z', hE', hz', q'⟩ := readB hE hz q
    exact ⟨Δ', Z', hE', hz', q'.imp fun v H1 ⟨b, Z1, e, x, q1⟩ => ⟨b, e, post_bl q1 x.zh⟩⟩
  · exact absurd h Bool.false_ne_true
theorem sndT_not {a : E} (iha : SndT T W Φ k N a) : SndT T W Φ k N (.not a) := by
  intro sc ex X Wx G tk ht h
  rw [chkE_not] at h
  split at h
  · refine (pt_not (iha G tk ht h)).imp fun σ H Q ⟨Δ, Z, hE, hz, q⟩ => ?_
    rw [ev_not] at q
    have e : tob ((tob (ev Φ a Δ)).bind fun b => .ok (.bl !b)) = (tob (ev Φ a Δ)).bind fun b => .ok !b := by
      cases tob (ev Φ a Δ) <;> rfl
    rw [e] at q
    obtain ⟨Δ', Z', hE', hz', q'⟩ := tT_bind hE hz q
    exact ⟨Δ', Z', hE', hz', q'.imp fun v H1 ⟨Z1, x, q1⟩ => q1.ret x.zh rfl⟩
  · exact absurd h Bool.false_ne_true
theorem snd_and {a b : E} (iha : SndE T W Φ k N a) (ihb : SndE T W Φ k N b) : SndE T W Φ k N (.and a b) := by
  intro sc ex X Wx G tk h
  rw [chkE_and] at h
  split at h
  · rename_i x y r p
    obtain ⟨h1, h2⟩ := ba h
    have hb : PE X (.BoolOp .And (y :: r) p) (tE W Φ b Wx) := by
      split at h2
      · exact pe_one (ihb G tk h2)
      · exact ihb G tk h2
    refine (pe_and (iha G tk h1) hb).imp fun σ H Q ⟨Δ, Z, hE, hz, q⟩ => ?_
    rw [ev_and] at q
    obtain ⟨Δ', Z', hE', hz', q'⟩ := readB hE hz q
    refine ⟨Δ', Z', hE', hz', q'.imp fun v H1 ⟨c, Z1, e, x, q1⟩ => ⟨c, e, ?_⟩⟩
    cases c with
    | true => exact ⟨Δ, Z1, hE.mono x.zz, x.zh, post_tob q1⟩
    | false => exact post_bl q1 x.zh
  · exact absurd h Bool.false_ne_true
theorem snd_or {a b : E} (iha : SndE T W Φ k N a) (ihb : SndE T W Φ k N b) : SndE T W Φ k N (.or a b) := by
  intro sc ex X Wx G tk h
  rw [chkE_or] at h
  split at h
  · rename_i x y r p
    obtain ⟨h1, h2⟩ := ba h
    have hb : PE X (.BoolOp .Or (y :: r) p) (tE W Φ b Wx) := by
      split at h2
      · exact pe_one (ihb G tk h2)
      · exact ihb G tk h2
    refine (pe_or (iha G tk h1) hb).imp fun σ H Q ⟨Δ, Z, hE, hz, q⟩ => ?_
    rw [ev_or] at q
    obtain ⟨Δ', Z', hE', hz', q'⟩ := readB hE hz q
    refine ⟨Δ', Z', hE', hz', q'.imp fun v H1 ⟨c, Z1, e, x, q1⟩ => ⟨c, e, ?_⟩⟩
    cases c with
    | false => exact ⟨Δ, Z1, hE.mono x.zz, x.zh, post_tob q1⟩
    | true => exact post_bl q1 x.zh
  · exact absurd h Bool.false_ne_true
theorem sndW_and {a b : E} (iha : SndT T W Φ k N a) (ihb : SndT T W Φ k N b) (ihw : SndW T W Φ k N b) : SndW T W Φ k N (.and a b) := by
  intro sc o xs p X Wx G tk ht h
  obtain ⟨ht1, ht2⟩ := ba ht
  rw [chkE_and] at h
  split at h
  · rename_i x y r p' e
    injection e with e1 e2 e3
    subst e1 e2 e3
    obtain ⟨h1, h2⟩ := ba h
    have hb : PW X (.BoolOp .And (y :: r) p) (tT W Φ b Wx) := by
      split at h2
      · exact pw_and1 (ihb G tk ht2 h2)
      · exact ihw G tk ht2 h2
    refine ⟨fun wh pins s σ H Q I q => (pw_and (iha G tk ht1 h1) hb).run wh pins s σ H Q I ?_⟩
    obtain ⟨Δ, Z, hE, hz, q⟩ := q
    rw [ev_and] at q
    have e : tob ((tob (ev Φ a Δ)).bind fun x => if x then (tob (ev Φ b Δ)).bind fun y => .ok (.bl y) else .ok (.bl false)) = (tob (ev Φ a Δ)).bind fun x => if x then tob (ev Φ b Δ) else .ok false := by
      cases tob (ev Φ a Δ) with
      | ok c =>
        cases c
        · rfl
        · simp only [Res.bind_ok, if_true]
          cases tob (ev Φ b Δ) <;> rfl
      | ex c fs => rfl
      | bad => rfl
    rw [e] at q
    obtain ⟨Δ', Z', hE', hz', q'⟩ := tT_bind hE hz q
    refine ⟨Δ', Z', hE', hz', q'.imp fun v H1 ⟨Z1, x, q1⟩ => ?_⟩
    cases v with
    | true => exact ⟨Δ, Z1, hE.mono x.zz, x.zh, q1⟩
    | false => exact q1.ret x.zh rfl
  · exact absurd h Bool.false_ne_true
theorem sndW_or {a b : E} (iha : SndT T W Φ k N a) (ihb : SndT T W Φ k N b) (ihw : SndW T W Φ k N b) : SndW T W Φ k N (.or a b) := by
  intro sc o xs p X Wx G tk ht h
  obtain ⟨ht1, ht2⟩ := ba ht
  rw [chkE_or] at h
  split at h
  · rename_i x y r p' e
    injection e with e1 e2 e3
    subst e1 e2 e3
    obtain ⟨h1, h2⟩ := ba h
    have hb : PW X (.BoolOp .Or (y :: r) p) (tT W Φ b Wx) := by
      split at h2
      · exact pw_or1 (ihb G tk ht2 h2)
      · exact ihw G tk ht2 h2
    refine ⟨fun wh pins s σ H Q I q => (pw_or (iha G tk ht1 h1) hb).run wh pins s σ H Q I ?_⟩
    obtain ⟨Δ, Z, hE, hz, q⟩ := q
    rw [ev_or] at q
    have e : tob ((tob (ev Φ a Δ)).bind fun x => if x then .ok (.bl true) else (tob (ev Φ b Δ)).bind fun y => .ok (.bl y)) = (tob (ev Φ a Δ)).bind fun x => if x then .ok true else tob (ev Φ b Δ) := by
      cases tob (ev Φ a Δ) with
      | ok c =>
        cases c
        · simp only [Res.bind_ok, if_false, Bool.false_eq_true]
          cases tob (ev Φ b Δ) <;> rfl
        · rfl
      | ex c fs => rfl
      | bad => rfl
    rw [e] at q
    obtain ⟨Δ', Z', hE', hz', q'⟩ := tT_bind hE hz q
    refine ⟨Δ', Z', hE', hz', q'.imp fun v H1 ⟨Z1, x, q1⟩ => ?_⟩
    cases v with
    | false => exact ⟨Δ, Z1, hE.mono x.zz, x.zh, q1⟩
    | true => exact q1.ret x.zh rfl
  · exact absurd h Bool.false_ne_true
theorem sndT_and {a b : E} (h : SndW T W Φ k N (.and a b)) : SndT T W Φ k N (.and a b) := by
  intro sc ex X Wx G tk ht hc
  have h' := hc
  rw [chkE_and] at hc
  split at hc
  · exact (h G tk ht h').pt
  · exact absurd hc Bool.false_ne_true
theorem sndT_or {a b : E} (h : SndW T W Φ k N (.or a b)) : SndT T W Φ k N (.or a b) := by
  intro sc ex X Wx G tk ht hc
  have h' := hc
  rw [chkE_or] at hc
  split at hc
  · exact (h G tk ht h').pt
  · exact absurd hc Bool.false_ne_true
theorem snd_ite {c a b : E} (ihc : SndT T W Φ k N c) (iha : SndE T W Φ k N a) (ihb : SndE T W Φ k N b) : SndE T W Φ k N (.ite c a b) := by
  intro sc ex X Wx G tk h
  rw [chkE_ite] at h
  split at h
  · obtain ⟨ht, h⟩ := ba h
    obtain ⟨h1, h⟩ := ba h
    obtain ⟨h2, h3⟩ := ba h
    refine (pe_ifExp (ihc G tk ht h1) (iha G tk h2) (ihb G tk h3)).imp fun σ H Q ⟨Δ, Z, hE, hz, q⟩ => ?_
    rw [ev_ite] at q
    obtain ⟨Δ', Z', hE', hz', q'⟩ := tT_bind hE hz q
    refine ⟨Δ', Z', hE', hz', q'.imp fun v H1 ⟨Z1, x, q1⟩ => ?_⟩
    cases v with
    | true => exact ⟨Δ, Z1, hE.mono x.zz, x.zh, q1⟩
    | false => exact ⟨Δ, Z1, hE.mono x.zz, x.zh, q1⟩
  · exact absurd h Bool.false_ne_true

/-! ### subscripts -/
theorem snd_idx {a i : E} (iha : SndE T W Φ k N a) (ihi : SndE T W Φ k N i) : SndE T W Φ k N (.idx a i) := by
  intro sc ex X Wx G tk h
  rw [chkE_idx] at h
  split at h
  · obtain ⟨hs, h2⟩ := ba h
    obtain ⟨h2, h3⟩ := ba h2
    obtain ⟨r, ho, m⟩ := ix_ok (X := X) (W := W) G.hK
    exact (pe_ix ho (iha G tk h2) (ihi G tk h3) (plainIx hs)).imp fun σ H Q ⟨Δ, Z, hE, hz, q⟩ => read2 m hE hz (by rw [ev_idx] at q; exact q)
  · exact absurd h Bool.false_ne_true
theorem snd_slc {a l u : E} (iha : SndE T W Φ k N a) (ihl : SndE T W Φ k N l) (ihu : SndE T W Φ k N u) : SndE T W Φ k N (.slc a l u) := by
  intro sc ex X Wx G tk h
  rw [chkE_slc] at h
  split at h
  · obtain ⟨h1, h2⟩ := ba h
    obtain ⟨h2, h3⟩ := ba h2
    obtain ⟨r, ho, m⟩ := sl_ok (X := X) (W := W) G.hK
    refine (pe_slice ho (iha G tk h1) (po_some (ihl G tk h2)) (po_some (ihu G tk h3))).imp fun σ H Q ⟨Δ, Z, hE, hz, q⟩ => ?_
    rw [ev_slc] at q
    obtain ⟨Δ', Z', hE', hz', q'⟩ := tE_bind hE hz q
    refine ⟨Δ', Z', hE', hz', q'.imp fun v H1 ⟨d, Z1, x, rv, q1⟩ => ?_⟩
    obtain ⟨Δ2, Z2, hE2, hz2, q2⟩ := tE_bind (hE.mono x.zz) x.zh q1
    refine ⟨Δ2, Z2, hE2, hz2, q2.imp fun u H2 ⟨d2, Z3, x3, r3, q3⟩ => ?_⟩
    cases d2 <;> try exact q3.elim
    rename_i i
    simp only [Rep] at r3
    refine ⟨i, r3, ?_⟩
    obtain ⟨Δ4, Z4, hE4, hz4, q4⟩ := tE_bind ((hE.mono x.zz).mono x3.zz) x3.zh q3
    refine ⟨Δ4, Z4, hE4, hz4, q4.imp fun u2 H5 ⟨d5, Z5, x5, r5, q5⟩ => ?_⟩
    cases d5 <;> try exact q5.elim
    rename_i j
    simp only [Rep] at r5
    exact ⟨j, r5, m _ _ _ _ Z5 H5 Q _ x5.zh ((rv.mono x3.zz).mono x5.zz) q5⟩
  · exact absurd h Bool.false_ne_true
theorem snd_slo {a l : E} (iha : SndE T W Φ k N a) (ihl : SndE T W Φ k N l) : SndE T W Φ k N (.slo a l) := by
  intro sc ex X Wx G tk h
  rw [chkE_slo] at h
  split at h
  · obtain ⟨h1, h2⟩ := ba h
    obtain ⟨r, ho, m⟩ := sl_ok (X := X) (W := W) G.hK
    refine (pe_slice ho (iha G tk h1) (po_some (ihl G tk h2)) po_none).imp fun σ H Q ⟨Δ, Z, hE, hz, q⟩ => ?_
    rw [ev_slo] at q
    obtain ⟨Δ', Z', hE', hz', q'⟩ := tE_bind hE hz q
    refine ⟨Δ', Z', hE', hz', q'.imp fun v H1 ⟨d, Z1, x, rv, q1⟩ => ?_⟩
    obtain ⟨Δ2, Z2, hE2, hz2, q2⟩ := tE_bind (hE.mono x.zz) x.zh q1
    refine ⟨Δ2, Z2, hE2, hz2, q2.imp fun u H2 ⟨d2, Z3, x3, r3, q3⟩ => ?_⟩
    cases d2 <;> try exact q3.elim
    rename_i j
    simp only [Rep] at r3
    exact ⟨j, r3, m _ _ _ _ Z3 H2 Q _ x3.zh (rv.mono x3.zz) q3⟩
  · exact absurd h Bool.false_ne_true
theorem snd_shi {a l : E} (iha : SndE T W Φ k N a) (ihl : SndE T W Φ k N l) : SndE T W Φ k N (.shi a l) := by
  intro sc ex X Wx G tk h
  rw [chkE_shi] at h
  split at h
  · obtain ⟨h1, h2⟩ := ba h
    obtain ⟨r, ho, m⟩ := sl_ok (X := X) (W := W) G.hK
    refine (pe_slice ho (iha G tk h1) po_none (po_some (ihl G tk h2))).imp fun σ H Q ⟨Δ, Z, hE, hz, q⟩ => ?_
    rw [ev_shi] at q
    obtain ⟨Δ', Z', hE', hz', q'⟩ := tE_bind hE hz q
    refine ⟨Δ', Z', hE', hz', q'.imp fun v H1 ⟨d, Z1, x, rv, q1⟩ => ?_⟩
    obtain ⟨Δ2, Z2, hE2, hz2, q2⟩ := tE_bind (hE.mono x.zz) x.zh q1
    refine ⟨Δ2, Z2, hE2, hz2, q2.imp fun u H2 ⟨d2, Z3, x3, r3, q3⟩ => ?_⟩
    cases d2 <;> try exact q3.elim
    rename_i j
    simp only [Rep] at r3
    exact ⟨j, r3, m _ _ _ _ Z3 H2 Q _ x3.zh (rv.mono x3.zz) q3⟩
  · exact absurd h Bool.false_ne_true
end
end R
end

section
set_option Elab.async false
set_option linter.all false
set_option maxRecDepth 100000
set_option maxHeartbeats 8000000
/-! R11: built-ins, calls, fields. -/
namespace R
open PySem PySem.Spec PyProof.Rows L2
section
variable {T : Th} {W : Wo} {Φ : Or} {k : Nat} {N : List PySem.Str}
theorem readN {es : List E} {f : List D → Res D} {r : List V → Hp → VK → Prop} (m : MeetsN W r f) {σ : L2.St} {H : Hp} {Q : VK} {Wx : WX} {Δ : List (Option D)} {Z : Hp} (hE : EnvOk W Z σ Δ) (hz : Zh W Z H)
    (q : PostE W (Rep W) Z H ((evs Φ es Δ).bind f) Q fun c d H' => Wx c d σ H') : tEs W Φ es Wx σ H fun vs H1 => r vs H1 Q := by
  obtain ⟨Δ', Z', hE', hz', q'⟩ := tEs_bind hE hz q
  exact ⟨Δ', Z', hE', hz', q'.imp fun v H1 ⟨d, Z1, x, rv, q1⟩ => m _ _ Z1 H1 Q _ x.zh rv q1⟩
theorem calB {X : Cx} {id : String} {f : PySem.Str} {p pos : Pos} {x : Expr} {xs : List Expr} {b : Bi} {es : List E} {Wx : WX} {sc : Scope} (G : Good T W Φ k N sc X) (hr : ∃ r, CallR X (.builtin id) r ∧ MeetsN W r (bi b)) (hf : f ∈ bNames) (hv : bootBuiltins f = some (.builtin id)) (hg : glB sc f = true)
    (ha : PA X (x :: xs) (tEs W Φ es Wx)) (hn : ∀ y ∈ x :: xs, nst y = true) : PE X (.Call (.Name f p) (x :: xs) [] pos) (tE W Φ (.bi b es) Wx) := by
  obtain ⟨r, hc, m⟩ := hr
  obtain ⟨n1, n2⟩ := bnm hf
  refine (pe_callB hc (gl_of G.hsc hg) (G.blt f hf) hv ha n1 n2 (starEach_nst (hn x List.mem_cons_self) _ _) (any_star (fun y hy => hn y (List.mem_cons_of_mem _ hy)) _ _)).imp fun σ H Q ⟨Δ, Z, hE, hz, q⟩ => ?_
  exact readN m hE hz (by rw [ev_bi] at q; exact q)
theorem calT {X : Cx} {id : String} {f : PySem.Str} {p pos : Pos} {x : Expr} {xs : List Expr} {b : Bi} {es : List E} {Wx : WX} {sc : Scope} (G : Good T W Φ k N sc X) (hr : ∃ r, CallR X (.type id) r ∧ MeetsN W r (bi b)) (hf : f ∈ bNames) (hv : bootBuiltins f = some (.type id)) (hg : glB sc f = true)
    (ha : PA X (x :: xs) (tEs W Φ es Wx)) (hn : ∀ y ∈ x :: xs, nst y = true) : PE X (.Call (.Name f p) (x :: xs) [] pos) (tE W Φ (.bi b es) Wx) := by
  obtain ⟨r, hc, m⟩ := hr
  obtain ⟨n1, n2⟩ := bnm hf
  refine (pe_callTy hc (gl_of G.hsc hg) (G.blt f hf) hv ha n1 n2 (starEach_nst (hn x List.mem_cons_self) _ _) (any_star (fun y hy => hn y (List.mem_cons_of_mem _ hy)) _ _)).imp fun σ H Q ⟨Δ, Z, hE, hz, q⟩ => ?_
  exact readN m hE hz (by rw [ev_bi] at q; exact q)
theorem calG {X : Cx} {p pos : Pos} {x : Expr} {xs : List Expr} {es : List E} {Wx : WX} {sc : Scope} (G : Good T W Φ k N sc X) (hT : T.gcd = true) (hg : glB sc "gcd" = true)
    (ha : PA X (x :: xs) (tEs W Φ es Wx)) (hn : ∀ y ∈ x :: xs, nst y = true) : PE X (.Call (.Name "gcd" p) (x :: xs) [] pos) (tE W Φ (.bi .gcd es) Wx) := by
  obtain ⟨r, hc, m⟩ := gcd_ok (X := X) (W := W)
  refine (pe_callBfun hc (gl_of G.hsc hg) (G.gcd hT) ha (by decide) (starEach_nst (hn x List.mem_cons_self) _ _) (any_star (fun y hy => hn y (List.mem_cons_of_mem _ hy)) _ _)).imp fun σ H Q ⟨Δ, Z, hE, hz, q⟩ => ?_
  exact readN m hE hz (by rw [ev_bi] at q; exact q)
theorem tyV_pe {X : Cx} {sc : Scope} (G : Good T W Φ k N sc X) {t : Ty} {c : PySem.Str} {pos : Pos} (h : tyNm T t c = true) (hg : glB sc c = true) (hp : plainNm c = true) : ∃ v, PE X (.Name c pos) (tC v) ∧ ClsV v (tyVal W t) ∧ ∀ c', t = .cls c' → c' < T.cls.length := by
  cases t with
  | int => have e := de h; subst e; exact ⟨.ty "int", pe_bltn (gl_of G.hsc hg) (G.blt _ (by decide +kernel)) (u := .type "int") (by decide +kernel) rfl, .ty _, fun _ z => nomatch z⟩
  | bool => have e := de h; subst e; exact ⟨.ty "bool", pe_bltn (gl_of G.hsc hg) (G.blt _ (by decide +kernel)) (u := .type "bool") (by decide +kernel) rfl, .ty _, fun _ z => nomatch z⟩
  | str => have e := de h; subst e; exact ⟨.ty "str", pe_bltn (gl_of G.hsc hg) (G.blt _ (by decide +kernel)) (u := .type "str") (by decide +kernel) rfl, .ty _, fun _ z => nomatch z⟩
  | list => have e := de h; subst e; exact ⟨.ty "list", pe_bltn (gl_of G.hsc hg) (G.blt _ (by decide +kernel)) (u := .type "list") (by decide +kernel) rfl, .ty _, fun _ z => nomatch z⟩
  | tuple => have e := de h; subst e; exact ⟨.ty "tuple", pe_bltn (gl_of G.hsc hg) (G.blt _ (by decide +kernel)) (u := .type "tuple") (by decide +kernel) rfl, .ty _, fun _ z => nomatch z⟩
  | cls i =>
    simp only [tyNm] at h
    split at h
    · rename_i ci e
      have e2 := de h
      subst e2
      have g := G.clsg i ci e
      refine ⟨.ref (W.cA i), pe_glob (gl_of G.hsc hg) g rfl (plainNm_of hp).1, .own _, fun c' z => ?_⟩
      injection z with z
      subst z
      exact (List.getElem?_eq_some_iff.mp e).1
    · exact absurd h Bool.false_ne_true
theorem kit_ok {X : Cx} {sc : Scope} (G : Good T W Φ k N sc X) {t : Ty} (ht : ∀ c', t = .cls c' → c' < T.cls.length) {d : D} (hd : ∀ c xs, d = .obj c xs → c < T.cls.length) : PySem.W.kitOne W.K (tyOfD W d) (tyVal W t) = some (hasTy t d) := by
  have get : ∀ c, c < T.cls.length → ∃ ci, T.cls[c]? = some ci := fun c h => ⟨T.cls[c], by simp [h]⟩
  have obj : ∀ c xs, d = .obj c xs → PySem.W.kitOne W.K (tyOfD W d) (tyVal W t) = some (hasTy t d) := fun c xs e => by
    subst e
    obtain ⟨ci, e⟩ := get c (hd c xs rfl)
    have q := (G.cls c ci e).isO t ht
    have e2 : hasTy t (.obj c []) = hasTy t (.obj c xs) := by cases t <;> rfl
    rw [← e2]
    exact q
  cases d with
  | obj c xs => exact obj c xs rfl
  | non => cases t with
    | cls i => obtain ⟨ci, e⟩ := get i (ht i rfl); exact (G.cls i ci e).isB _ (by decide)
    | _ => exact kit_ty (by simp only [hasTy]; decide +kernel)
  | bl _ => cases t with
    | cls i => obtain ⟨ci, e⟩ := get i (ht i rfl); exact (G.cls i ci e).isB _ (by decide)
    | _ => exact kit_ty (by simp only [hasTy]; decide +kernel)
  | int _ => cases t with
    | cls i => obtain ⟨ci, e⟩ := get i (ht i rfl); exact (G.cls i ci e).isB _ (by decide)
    | _ => exact kit_ty (by simp only [hasTy]; decide +kernel)
  | str _ => cases t with
    | cls i => obtain ⟨ci, e⟩ := get i (ht i rfl); exact (G.cls i ci e).isB _ (by decide)
    | _ => exact kit_ty (by simp only [hasTy]; decide +kernel)
  | tup _ => cases t with
    | cls i => obtain ⟨ci, e⟩ := get i (ht i rfl); exact (G.cls i ci e).isB _ (by decide)
    | _ => exact kit_ty (by simp only [hasTy]; decide +kernel)
  | lst _ => cases t with
    | cls i => obtain ⟨ci, e⟩ := get i (ht i rfl); exact (G.cls i ci e).isB _ (by decide)
    | _ => exact kit_ty (by simp only [hasTy]; decide +kernel)
  | fz _ => cases t with
    | cls i => obtain ⟨ci, e⟩ := get i (ht i rfl); exact (G.cls i ci e).isB _ (by decide)
    | _ => exact kit_ty (by simp only [hasTy]; decide +kernel)
/-- each part -/
def SndA (T : Th) (W : Wo) (Φ : Or) (k : Nat) (N : List PySem.Str) (es : List E) : Prop := ∀ e ∈ es, SndE T W Φ k N e
theorem SndA.es : ∀ {es : List E}, SndA T W Φ k N es → SndEs T W Φ k N es
  | [], _ => snd_nil
  | e :: es, h => snd_cons (h e List.mem_cons_self) (SndA.es fun x hx => h x (List.mem_cons_of_mem _ hx))
theorem chk_one {sc : Scope} {es : List E} {x : Expr} (h : chkEs T N sc es [x] = true) : ∃ e, es = [e] ∧ nst x = true ∧ chkE T N sc e x = true := by
  cases es with
  | nil => rw [chkEs_l0] at h; exact absurd h Bool.false_ne_true
  | cons e r =>
    rw [chkEs_cons1] at h
    simp only at h
    rw [Bool.and_eq_true] at h
    obtain ⟨h1, h2⟩ := h
    rw [Bool.and_eq_true] at h2
    obtain ⟨h2, h3⟩ := h2
    cases r with
    | nil => exact ⟨e, rfl, h1, h2⟩
    | cons e' r' => rw [chkEs_cons1] at h3; simp at h3
theorem chk_two {sc : Scope} {es : List E} {x y : Expr} (h : chkEs T N sc es [x, y] = true) : ∃ e e', es = [e, e'] ∧ nst x = true ∧ nst y = true ∧ chkE T N sc e x = true ∧ chkE T N sc e' y = true := by
  cases es with
  | nil => rw [chkEs_l0] at h; exact absurd h Bool.false_ne_true
  | cons e r =>
    rw [chkEs_cons1] at h
    simp only at h
    rw [Bool.and_eq_true] at h
    obtain ⟨h1, h2⟩ := h
    rw [Bool.and_eq_true] at h2
    obtain ⟨h2, h3⟩ := h2
    obtain ⟨e', rfl, h4, h5⟩ := chk_one h3
    exact ⟨e, e', rfl, h1, h4, h2, h5⟩
theorem snd_isi {t : Ty} {es : List E} (ih : SndA T W Φ k N es) : SndE T W Φ k N (.bi (.isinst t) es) := by
  intro sc ex X Wx G tk h
  rw [chkE_bi] at h
  simp only at h
  split at h
  · rename_i f p x c p2 pos
    rw [Bool.and_eq_true] at h; obtain ⟨h1, h⟩ := h
    rw [Bool.and_eq_true] at h; obtain ⟨h2, h⟩ := h
    rw [Bool.and_eq_true] at h; obtain ⟨h3, h⟩ := h
    rw [Bool.and_eq_true] at h; obtain ⟨h4, h⟩ := h
    rw [Bool.and_eq_true] at h; obtain ⟨h5, h⟩ := h
    have e := de h1
    subst e
    obtain ⟨v, pv, cv, ct⟩ := tyV_pe G (pos := p2) h4 h3 h5
    obtain ⟨e, rfl, hx, hc⟩ := chk_one h
    have px := ih e List.mem_cons_self G tk hc
    have pa : PA X [x, .Name c p2] (tCons (tE W Φ e Wx) (tCons (tC v) tNil)) := pa_cons px (pa_cons pv pa_nil (starEach_nst rfl _ _)) (starEach_nst hx _ _)
    have hb : ("isinstance" : PySem.Str) ∈ bNames := by decide +kernel
    obtain ⟨n1, n2⟩ := bnm hb
    refine (pe_callB call_isi (gl_of G.hsc h2) (G.blt _ hb) (by decide +kernel) pa n1 n2 (starEach_nst hx _ _) (any_star (fun y hy => by rw [List.mem_singleton.mp hy]; rfl) _ _)).imp fun σ H Q ⟨Δ, Z, hE, hz, q⟩ => ?_
    rw [ev_bi, evs_cons1, evs_l0] at q
    have e2 : ((ev Φ e Δ).bind fun d => (Res.ok []).bind fun ds => .ok (d :: ds)).bind (bi (.isinst t)) = (ev Φ e Δ).bind fun d => .ok (.bl (hasTy t d)) := by
      cases ev Φ e Δ <;> rfl
    rw [e2] at q
    obtain ⟨Δ', Z', hE', hz', q'⟩ := tE_bind hE hz q
    refine ⟨Δ', Z', hE', hz', q'.imp fun u H1 ⟨d, Z1, x1, rv, q1⟩ => ?_⟩
    refine ⟨u, v, tyOfD W d, tyVal W t, hasTy t d, rfl, cv, ?_, ?_, post_bl q1 x1.zh⟩
    · refine tyX_of (T := T) G.hK G.dc (fun c hc => ?_) x1.zh rv
      rw [G.nC] at hc
      exact ⟨T.cls[c], G.cls c _ (by simp [hc])⟩
    · rw [G.hK]
      refine kit_ok G ct fun c xs e => ?_
      subst e
      simp only [Rep] at rv
      obtain ⟨a, dx, vs, _, h0, _⟩ := rv
      rw [← G.nC]
      exact h0
  · exact absurd h Bool.false_ne_true
theorem snd_lr1 {es : List E} (ih : SndA T W Φ k N es) : SndE T W Φ k N (.bi .listR1 es) := by
  intro sc ex X Wx G tk h
  rw [chkE_bi] at h
  simp only at h
  split at h
  · rename_i f p g p2 x pos2 pos
    rw [Bool.and_eq_true] at h; obtain ⟨h1, h⟩ := h
    rw [Bool.and_eq_true] at h; obtain ⟨h2, h⟩ := h
    rw [Bool.and_eq_true] at h; obtain ⟨h3, h⟩ := h
    rw [Bool.and_eq_true] at h; obtain ⟨h4, h⟩ := h
    have e := de h1
    subst e
    have e := de h2
    subst e
    obtain ⟨e, rfl, hx, hc⟩ := chk_one h
    have px := ih e List.mem_cons_self G tk hc
    have hb : ("list" : PySem.Str) ∈ bNames := by decide +kernel
    have hr : ("range" : PySem.Str) ∈ bNames := by decide +kernel
    refine (pe_listRg G.calm (gl_of G.hsc h3) (G.blt _ hb) (prg_1 (gl_of G.hsc h4) (G.blt _ hr) px (starEach_nst hx _ _)) (starEach_nst rfl _ _)).imp fun σ H Q ⟨Δ, Z, hE, hz, q⟩ => ?_
    rw [ev_bi, evs_cons1, evs_l0] at q
    have e2 : ((ev Φ e Δ).bind fun d => (Res.ok []).bind fun ds => .ok (d :: ds)).bind (bi .listR1) = (ev Φ e Δ).bind fun d => bi .listR1 [d] := by
      cases ev Φ e Δ <;> rfl
    rw [e2] at q
    obtain ⟨Δ', Z', hE', hz', q'⟩ := tE_bind hE hz q
    refine ⟨Δ', Z', hE', hz', q'.imp fun u H1 ⟨d, Z1, x1, rv, q1⟩ => ?_⟩
    cases d <;> simp only [bi, PostE_bad] at q1
    rename_i n
    simp only [Rep] at rv
    refine ⟨n, rv, ?_⟩
    split at q1
    · rename_i ho
      simp only [rngOk, Bool.and_eq_true, decide_eq_true_eq] at ho
      obtain ⟨o1, o2, o3, o4, o5⟩ := ho
      refine ⟨⟨o1, o2, o3, o4, by rw [LINE_eq] at o5; exact o5⟩, fun p hp => post_lst q1 x1.zh ?_ hp⟩
      have e3 : rng 0 n = ((List.range (n - 0).toNat).map fun i => (0 : Int) + (i : Nat)).map D.int := by unfold rng; rw [List.map_map]; rfl
      have e4 : rgV 0 n = ((List.range (n - 0).toNat).map fun i => (0 : Int) + (i : Nat)).map V.int := by unfold rgV; rw [List.map_map]; rfl
      rw [e3, e4]
      exact RepL.ofInts _
    · simp only [PostE_bad] at q1
  · exact absurd h Bool.false_ne_true
theorem snd_lr2 {es : List E} (ih : SndA T W Φ k N es) : SndE T W Φ k N (.bi .listR2 es) := by
  intro sc ex X Wx G tk h
  rw [chkE_bi] at h
  simp only at h
  split at h
  · rename_i f p g p2 x y pos2 pos
    rw [Bool.and_eq_true] at h; obtain ⟨h1, h⟩ := h
    rw [Bool.and_eq_true] at h; obtain ⟨h2, h⟩ := h
    rw [Bool.and_eq_true] at h; obtain ⟨h3, h⟩ := h
    rw [Bool.and_eq_true] at h; obtain ⟨h4, h⟩ := h
    have e := de h1
    subst e
    have e := de h2
    subst e
    obtain ⟨e, e', rfl, hx, hy, hc, hc2⟩ := chk_two h
    have px := ih e List.mem_cons_self G tk hc
    have py := ih e' (List.mem_cons_of_mem _ List.mem_cons_self) G tk hc2
    have hb : ("list" : PySem.Str) ∈ bNames := by decide +kernel
    have hr : ("range" : PySem.Str) ∈ bNames := by decide +kernel
    refine (pe_listRg G.calm (gl_of G.hsc h3) (G.blt _ hb) (prg_2 (gl_of G.hsc h4) (G.blt _ hr) px py (starEach_nst hx _ _) (starEach_nst hy _ _) (any_star (fun z hz => by rw [List.mem_singleton.mp hz]; exact hy) _ _)) (starEach_nst rfl _ _)).imp fun σ H Q ⟨Δ, Z, hE, hz, q⟩ => ?_
    rw [ev_bi, evs_cons1, evs_cons1, evs_l0] at q
    have e2 : ((ev Φ e Δ).bind fun d => ((ev Φ e' Δ).bind fun d => (Res.ok []).bind fun ds => .ok (d :: ds)).bind fun ds => .ok (d :: ds)).bind (bi .listR2) = (ev Φ e Δ).bind fun d => (ev Φ e' Δ).bind fun d' => bi .listR2 [d, d'] := by
      cases ev Φ e Δ with
      | ok d => cases ev Φ e' Δ <;> rfl
      | ex c fs => rfl
      | bad => rfl
    rw [e2] at q
    obtain ⟨Δ', Z', hE', hz', q'⟩ := tE_bind hE hz q
    refine ⟨Δ', Z', hE', hz', q'.imp fun u H1 ⟨d, Z1, x1, rv, q1⟩ => ?_⟩
    obtain ⟨Δ2, Z2, hE2, hz2, q2⟩ := tE_bind (hE.mono x1.zz) x1.zh q1
    refine ⟨Δ2, Z2, hE2, hz2, q2.imp fun u2 H2 ⟨d2, Z3, x3, r3, q3⟩ => ?_⟩
    obtain ⟨a, rfl⟩ : ∃ a, d = .int a := by cases d <;> first | exact ⟨_, rfl⟩ | (cases d2 <;> simp only [bi, PostE_bad] at q3)
    obtain ⟨n, rfl⟩ : ∃ n, d2 = .int n := by cases d2 <;> first | exact ⟨_, rfl⟩ | simp only [bi, PostE_bad] at q3
    simp only [bi] at q3
    simp only [Rep] at rv r3
    refine ⟨a, n, rv, r3, ?_⟩
    split at q3
    · rename_i ho
      simp only [rngOk, Bool.and_eq_true, decide_eq_true_eq] at ho
      obtain ⟨o1, o2, o3, o4, o5⟩ := ho
      refine ⟨⟨o1, o2, o3, o4, by rw [LINE_eq] at o5; exact o5⟩, fun p hp => post_lst q3 x3.zh ?_ hp⟩
      have e3 : rng a n = ((List.range (n - a).toNat).map fun i => a + ((i : Nat) : Int)).map D.int := by unfold rng; rw [List.map_map]; rfl
      have e4 : rgV a n = ((List.range (n - a).toNat).map fun i => a + ((i : Nat) : Int)).map V.int := by unfold rgV; rw [List.map_map]; rfl
      rw [e3, e4]
      exact RepL.ofInts _
    · simp only [PostE_bad] at q3
  · exact absurd h Bool.false_ne_true
theorem snd_bi {b : Bi} {es : List E} (iha : SndA T W Φ k N es) : SndE T W Φ k N (.bi b es) := by
  have gen : ∀ {sc : Scope} {ex : Expr} {X : Cx} {Wx : WX}, Good T W Φ k N sc X → Takes X Wx → (match ex with
      | .Call (.Name f _) (x :: xs) [] _ => biNm b f (x :: xs).length && (gcdB T b && (glB sc f && chkEs T N sc es (x :: xs)))
      | _ => false) = true → PE X ex (tE W Φ (.bi b es) Wx) := by
    intro sc ex X Wx G tk h
    split at h
    · rename_i f p x xs pos
      rw [Bool.and_eq_true] at h; obtain ⟨h1, h⟩ := h
      rw [Bool.and_eq_true] at h; obtain ⟨h2, h⟩ := h
      rw [Bool.and_eq_true] at h; obtain ⟨h3, h⟩ := h
      obtain ⟨pa, hn⟩ := iha.es G tk h
      have nm : ∀ {g : PySem.Str} {n m : Nat}, (decide (f = g) && n == m) = true → f = g := fun h => de (ba h).1
      cases b with
      | len => have e := nm h1; subst e; exact calB G (len_ok G.hK) (by decide +kernel) (by decide +kernel) h3 pa hn
      | abs => have e := nm h1; subst e; exact calB G abs_ok (by decide +kernel) (by decide +kernel) h3 pa hn
      | int => have e := nm h1; subst e; exact calT G int_ok (by decide +kernel) (by decide +kernel) h3 pa hn
      | min1 => have e := nm h1; subst e; exact calB G (min1_ok G.hK G.calm) (by decide +kernel) (by decide +kernel) h3 pa hn
      | max1 => have e := nm h1; subst e; exact calB G (max1_ok G.hK G.calm) (by decide +kernel) (by decide +kernel) h3 pa hn
      | min2 => have e := nm h1; subst e; exact calB G (min2_ok G.calm) (by decide +kernel) (by decide +kernel) h3 pa hn
      | max2 => have e := nm h1; subst e; exact calB G (max2_ok G.calm) (by decide +kernel) (by decide +kernel) h3 pa hn
      | sum => have e := nm h1; subst e; exact calB G (sum_ok G.hK G.calm) (by decide +kernel) (by decide +kernel) h3 pa hn
      | tuple => have e := nm h1; subst e; exact calT G (tuple_ok G.hK) (by decide +kernel) (by decide +kernel) h3 pa hn
      | list => have e := nm h1; subst e; exact calT G (list_ok G.hK) (by decide +kernel) (by decide +kernel) h3 pa hn
      | listR1 => exact absurd h1 Bool.false_ne_true
      | listR2 => exact absurd h1 Bool.false_ne_true
      | sorted => have e := nm h1; subst e; exact calB G (sorted_ok G.hK G.room) (by decide +kernel) (by decide +kernel) h3 pa hn
      | isinst t => exact absurd h1 Bool.false_ne_true
      | gcd => have e := nm h1; subst e; exact calG G h2 h3 pa hn
      | all => have e := nm h1; subst e; exact calB G (all_ok G.hK G.calm) (by decide +kernel) (by decide +kernel) h3 pa hn
    · exact absurd h Bool.false_ne_true
  intro sc ex X Wx G tk h
  cases b with
  | isinst t => exact snd_isi iha G tk h
  | listR1 => exact snd_lr1 iha G tk h
  | listR2 => exact snd_lr2 iha G tk h
  | _ => exact gen G tk (by rw [chkE_bi] at h; exact h)

/-! ### calls -/
theorem evs_len : ∀ {es : List E} {Δ : List (Option D)} {ds : List D}, evs Φ es Δ = .ok ds → ds.length = es.length
  | [], Δ, ds, h => by
    rw [evs_l0] at h
    injection h with h
    rw [← h]
    rfl
  | e :: es, Δ, ds, h => by
    rw [evs_cons1] at h
    cases q : ev Φ e Δ with
    | ok d =>
      rw [q] at h
      cases q2 : evs Φ es Δ with
      | ok r =>
        rw [q2] at h
        have h' : (Res.ok (d :: r) : Res (List D)) = .ok ds := h
        injection h' with h'
        rw [← h', List.length_cons, List.length_cons, evs_len q2]
      | ex c fs => rw [q2] at h; cases h
      | bad => rw [q2] at h; cases h
    | ex c fs => rw [q] at h; cases h
    | bad => rw [q] at h; cases h
theorem chk_len {sc : Scope} : ∀ {es : List E} {xs : List Expr}, chkEs T N sc es xs = true → es.length = xs.length
  | [], xs, h => by
    rw [chkEs_l0] at h
    rw [List.isEmpty_iff.mp h]
    rfl
  | e :: es, xs, h => by
    rw [chkEs_cons1] at h
    split at h
    · obtain ⟨h1, h2⟩ := ba h
      obtain ⟨h3, h4⟩ := ba h2
      rw [List.length_cons, List.length_cons, chk_len h4]
    · exact absurd h Bool.false_ne_true
theorem snd_call {f : Nat} {es : List E} (iha : SndA T W Φ k N es) : SndE T W Φ k N (.call f es) := by
  intro sc ex X Wx G tk h
  rw [chkE_call] at h
  split at h
  · rename_i x p y ys pos
    rw [Bool.and_eq_true] at h; obtain ⟨h1, h⟩ := h
    rw [Bool.and_eq_true] at h; obtain ⟨h2, h⟩ := h
    rw [Bool.and_eq_true] at h; obtain ⟨h3, h⟩ := h
    obtain ⟨pa, hn⟩ := iha.es G tk h
    have hf : T.fns[f]? = some (.glob x (y :: ys).length) := by
      unfold fnIs at h1
      split at h1
      · rename_i z n e
        obtain ⟨e1, e2⟩ := ba h1
        rw [e, de e1, de e2]
      · exact absurd h1 Bool.false_ne_true
    obtain ⟨a, fd, ps, hl, g, kp, F, bd⟩ := G.fn f x _ hf
    rw [← G.hK] at kp F bd
    refine (pe_callS F G.room (gl_of G.hsc h2) g kp bd (E := WE Wx) (passAt tk) pa (plainNm_of h3).1 (starEach_nst (hn y List.mem_cons_self) _ _) (any_star (fun z hz => hn z (List.mem_cons_of_mem _ hz)) _ _)).imp fun σ H Q ⟨Δ, Z, hE, hz, q⟩ => ?_
    rw [ev_call] at q
    refine ⟨Δ, Z, hE, hz, (PostE.bind (Rp := RepL W) q).imp fun vs H1 ⟨ds, Z1, q2, x1, rv, q1⟩ => ?_⟩
    refine ⟨?_, ds, Z1, x1.zh, rv, ?_⟩
    · rw [rv.length, evs_len q2, chk_len h, hl]
    · cases r : Φ f ds with
      | ok t =>
        rw [r] at q1
        intro v Z2 H2 as x2 rt fr nd
        have x3 := x2.add (as := as) (fun b hb => (fr b hb).1) rt.lsts
        exact q1 v _ _ x3 (rt.close x2.zh)
      | ex c fs => rw [r] at q1; exact q1
      | bad => rw [r] at q1; exact q1
  · exact absurd h Bool.false_ne_true
end
end R
end

section
set_option Elab.async false
set_option linter.all false
set_option maxRecDepth 100000
set_option maxHeartbeats 8000000
/-! R12: instances, comprehensions. -/
namespace R
open PySem PySem.Spec PyProof.Rows L2
theorem zip_lookup : ∀ {l : List PySem.Str} {vs : List V} {p : Nat} {f : PySem.Str} {v : V}, l.Nodup → l[p]? = some f → vs[p]? = some v → (l.zip vs).lookup f = some v
  | [], _, _, _, _, _, h, _ => by simp at h
  | _ :: _, [], _, _, _, _, _, h => by simp at h
  | g :: l, u :: vs, 0, f, v, nd, h1, h2 => by
    simp at h1 h2
    subst h1 h2
    simp [List.lookup]
  | g :: l, u :: vs, p + 1, f, v, nd, h1, h2 => by
    obtain ⟨n1, n2⟩ := List.nodup_cons.mp nd
    have h1' : l[p]? = some f := by simpa using h1
    have ne : (f == g) = false := by
      have : f ≠ g := fun e => n1 (e ▸ List.mem_of_getElem? h1')
      simpa using this
    show (((g, u) :: l.zip vs).lookup f) = some v
    unfold List.lookup
    rw [ne]
    exact zip_lookup n2 h1' (by simpa using h2)
theorem emptyTup_all : ∀ {a b : List D}, a.length = b.length → a.all emptyTup = true → b.all emptyTup = true → a = b
  | [], [], _, _, _ => rfl
  | [], _ :: _, h, _, _ => by simp at h
  | _ :: _, [], h, _, _ => by simp at h
  | x :: a, y :: b, h, h1, h2 => by
    rw [List.all_cons, Bool.and_eq_true] at h1 h2
    have e : ∀ z : D, emptyTup z = true → z = .tup [] := fun z h => by
      unfold emptyTup at h
      split at h
      · rfl
      · exact absurd h Bool.false_ne_true
    rw [e x h1.1, e y h2.1, emptyTup_all (by simpa using h) h1.2 h2.2]
section
variable {T : Th} {W : Wo} {Φ : Or} {k : Nat} {N : List PySem.Str}
theorem snd_fld {a : E} {c p : Nat} (iha : SndE T W Φ k N a) : SndE T W Φ k N (.fld a c p) := by
  intro sc ex X Wx G tk h
  rw [chkE_fld] at h
  split at h
  · rename_i x f pos
    rw [Bool.and_eq_true] at h; obtain ⟨h1, h⟩ := h
    rw [Bool.and_eq_true] at h; obtain ⟨h2, h⟩ := h
    obtain ⟨ci, hc, hp⟩ : ∃ ci, T.cls[c]? = some ci ∧ ci.flds[p]? = some f := by
      unfold fldIs at h1
      split at h1
      · exact ⟨_, by assumption, de h1⟩
      · exact absurd h1 Bool.false_ne_true
    have C := G.cls c ci hc
    refine (pe_fld (iha G tk h) (attrBase h2 _ _)).imp fun σ H Q ⟨Δ, Z, hE, hz, q⟩ => ?_
    rw [ev_fld] at q
    obtain ⟨Δ', Z', hE', hz', q'⟩ := tE_bind hE hz q
    refine ⟨Δ', Z', hE', hz', q'.imp fun u H1 ⟨d, Z1, x1, rv, q1⟩ => ?_⟩
    cases d <;> try exact q1.elim
    rename_i c' xs
    simp only at q1
    split at q1
    · rename_i e
      subst e
      split at q1
      · rename_i d e
        simp only [Rep] at rv
        obtain ⟨b, dx, vs, rfl, _, h5, _, h6⟩ := rv
        obtain ⟨v, e1, r⟩ := h6.get e
        rw [G.hK]
        refine ⟨b, W.cA c', dx, _, v, rfl, x1.zh _ _ h5, C.cl, C.na f (List.mem_of_getElem? hp), ?_, q1.ret x1.zh r⟩
        rw [C.fl]
        exact zip_lookup C.nd hp e1
      · simp only [PostE_bad] at q1
    · simp only [PostE_bad] at q1
  · exact absurd h Bool.false_ne_true
theorem snd_mk {c f : Nat} {es : List E} {df : List D} (iha : SndA T W Φ k N es) : SndE T W Φ k N (.mk c f es df) := by
  intro sc ex X Wx G tk h
  rw [chkE_mk] at h
  split at h
  · rename_i x p y ys pos
    rw [Bool.and_eq_true] at h; obtain ⟨h1, h⟩ := h
    rw [Bool.and_eq_true] at h; obtain ⟨h2, h⟩ := h
    rw [Bool.and_eq_true] at h; obtain ⟨h3, h⟩ := h
    obtain ⟨pa, hn⟩ := iha.es G tk h
    unfold mkIs at h1
    rw [Bool.and_eq_true] at h1
    obtain ⟨g1, g2⟩ := h1
    have hf : T.fns[f]? = some (.init c ((y :: ys).length + df.length + 1)) := by
      split at g1
      · rename_i c' n e
        obtain ⟨e1, e2⟩ := ba g1
        rw [e, de e1, de e2]
      · exact absurd g1 Bool.false_ne_true
    obtain ⟨ci, hc, g2⟩ : ∃ ci, T.cls[c]? = some ci ∧ (decide (ci.name = x) && (df.isEmpty || (df.length == ci.dfl.length && (ci.dfl.all emptyTup && df.all emptyTup)))) = true := by
      split at g2
      · exact ⟨_, by assumption, g2⟩
      · exact absurd g2 Bool.false_ne_true
    obtain ⟨g3, g4⟩ := ba g2
    have ex := de g3
    subst ex
    obtain ⟨fI, fd, ps, j, hj, hl, g, M, F, b0, ds0, dvs0, b1, v1, r1⟩ := G.mkc f c _ ci hf hc
    -- the defaults
    obtain ⟨ds', dvs', bd, vd, rd⟩ : ∃ ds dvs, Binds W.K fd ps ds ∧ Vals dvs ds ∧ ∀ Z, RepL W Z df dvs := by
      rcases Bool.or_eq_true _ _ ▸ g4 with g4 | g4
      · rw [List.isEmpty_iff.mp g4]
        exact ⟨[], [], b0, .nil, fun Z => .nil⟩
      · simp only [Bool.and_eq_true, beq_iff_eq] at g4
        rw [emptyTup_all g4.1 g4.2.2 g4.2.1]
        exact ⟨ds0, dvs0, b1, v1, r1⟩
    rw [← G.hK] at M F bd
    refine (pe_makeS M F (G.room.mono hj) (gl_of G.hsc h2) g bd vd (E := WE Wx) (passAt tk) pa (plainNm_of h3).1 (starEach_nst (hn y List.mem_cons_self) _ _) (any_star (fun z hz => hn z (List.mem_cons_of_mem _ hz)) _ _)).imp fun σ H Q ⟨Δ, Z, hE, hz, q⟩ => ?_
    rw [ev_mk] at q
    refine ⟨Δ, Z, hE, hz, (PostE.bind (Rp := RepL W) q).imp fun vs H1 ⟨ds, Z1, q2, x1, rv, q1⟩ => ?_⟩
    intro x dx hx hdx ne
    refine ⟨?_, x, dx, H1, vs ++ dvs', ds ++ df, Z1, rfl, rfl, hx, hdx, ne, x1.zh, rv.append (rd Z1), ?_⟩
    · rw [List.length_cons, List.length_append, rv.length, (rd Z1).length, evs_len q2, chk_len h, hl]
    · cases r : Φ f (.non :: (ds ++ df)) with
      | ok t =>
        rw [r] at q1
        cases t with
        | sh d => exact fun Z' H' x2 r2 => ⟨rfl, q1 _ Z' H' x2 r2⟩
        | ow ts => exact q1.elim
      | ex c fs => rw [r] at q1; exact q1
      | bad => rw [r] at q1; exact q1
  · exact absurd h Bool.false_ne_true

/-! ### what is walked -/
structure Walk (W : Wo) (J : It) (Z0 : Hp) (items : List D) : Prop where
  stop : ∀ i H, Same Z0 H → items.length ≤ i → J.stop i H
  go : ∀ (i : Nat) H d, Same Z0 H → items[i]? = some d → J.go i H
  yld : ∀ (i : Nat) H d x H' Z, Same Z0 Z → Zh W Z H → items[i]? = some d → J.yld i H x H' → ∃ Z2, Ext W Z H Z2 H' ∧ Rep W Z2 d x
theorem Walk.mono {W : Wo} {J : It} {Z0 Z1 : Hp} {items : List D} (w : Walk W J Z0 items) (z : Same Z0 Z1) : Walk W J Z1 items :=
  ⟨fun i H s hi => w.stop i H (z.trans s) hi, fun i H d s e => w.go i H d (z.trans s) e, fun i H d x H' Z s h e y => w.yld i H d x H' Z (z.trans s) h e y⟩
/-- a range -/
def isRg : Sk → Bool
  | .r1 => true
  | .r2 => true
  | _ => false
def PostI (b : Bool) (W : Wo) (Z H : Hp) (r : Res (List D)) (R : It → Hp → Prop) (E : XK) : Prop := match r with
  | .ok items => ∀ J Z' H', Ext W Z H Z' H' → Walk W J Z' items → (b = true → ∀ Zx, Walk W J Zx items) → R J H'
  | .ex c fs => ∀ dx Z' H', Ext W Z H Z' H' → ExcR W Z' H' c fs dx → E (.ref (W.xA c)) dx H'
  | .bad => False
theorem PostI_bad {b : Bool} {Z H : Hp} {R : It → Hp → Prop} {E : XK} : PostI b W Z H .bad R E = False := rfl
theorem PostI.ext {b : Bool} {Z H Z1 H1 : Hp} {r : Res (List D)} {R : It → Hp → Prop} {E : XK} (h : PostI b W Z H r R E) (x : Ext W Z H Z1 H1) : PostI b W Z1 H1 r R E := by
  cases r with
  | ok d => exact fun v Z' H' y q => h v Z' H' (x.trans y) q
  | ex c fs => exact fun dx Z' H' y q => h dx Z' H' (x.trans y) q
  | bad => exact h
def tI (W : Wo) (Φ : Or) (sk : Sk) (srcs : List E) (Wx : WX) : TI := fun σ H R => ∃ Δ Z, EnvOk W Z σ Δ ∧ Zh W Z H ∧ PostI (isRg sk) W Z H ((evs Φ srcs Δ).bind (srcR sk)) R fun c d H' => Wx c d σ H'
theorem walk_list {a : Addr} {vs : List V} {ds : List D} {Z0 : Hp} (h : SqL W.K Z0 a vs) (r : RepL W Z0 ds vs) : Walk W (Itl W.K a) Z0 ds where
  stop := fun i H z hi => ⟨vs, z.seq h, by rw [r.length]; exact hi⟩
  go := fun i H d z e => by
    obtain ⟨v, e1, _⟩ := r.get e
    exact ⟨vs, v, z.seq h, e1⟩
  yld := fun i H d x H' Z z1 z2 e y => by
    obtain ⟨rfl, y⟩ := y
    obtain ⟨v, e1, r1⟩ := r.get e
    have e2 := y vs ((z1.trans z2).seq h)
    rw [e1] at e2
    injection e2 with e2
    subst e2
    exact ⟨Z, Ext.refl z2, r1.mono z1⟩
theorem walk_tup {a : Addr} {vs : List V} {ds : List D} {Z0 : Hp} (h : SqT W.K Z0 a vs) (r : RepL W Z0 ds vs) : Walk W (Itt W.K a) Z0 ds where
  stop := fun i H z hi => ⟨vs, sqT_mono z h, by rw [r.length]; exact hi⟩
  go := fun i H d z e => by
    obtain ⟨v, e1, _⟩ := r.get e
    exact ⟨vs, v, sqT_mono z h, e1⟩
  yld := fun i H d x H' Z z1 z2 e y => by
    obtain ⟨rfl, y⟩ := y
    obtain ⟨v, e1, r1⟩ := r.get e
    have e2 := y vs (sqT_mono (z1.trans z2) h)
    rw [e1] at e2
    injection e2 with e2
    subst e2
    exact ⟨Z, Ext.refl z2, r1.mono z1⟩
theorem rng_length {a b : Int} : (rng a b).length = (b - a).toNat := by unfold rng; rw [List.length_map, List.length_range]
theorem walk_rng {a b : Int} {Z0 : Hp} : Walk W (Itr a (b - a).toNat) Z0 (rng a b) where
  stop := fun i H z hi => by rw [rng_length] at hi; exact hi
  go := fun i H d z e => by
    have := (List.getElem?_eq_some_iff.mp e).1
    rw [rng_length] at this
    exact this
  yld := fun i H d x H' Z z1 z2 e y => by
    obtain ⟨rfl, rfl⟩ := y
    have hi := (List.getElem?_eq_some_iff.mp e).1
    rw [rng_length] at hi
    have e2 : (rng a b)[i]? = some (D.int (a + (i : Nat))) := by
      unfold rng
      rw [List.getElem?_map, List.getElem?_range hi]
      rfl
    rw [e2] at e
    injection e with e
    subst e
    exact ⟨Z, Ext.refl z2, by simp only [Rep]⟩
theorem zipW_get {xs ys : List D} {i : Nat} {d : D} (h : (List.zipWith (fun x y => D.tup [x, y]) xs ys)[i]? = some d) : ∃ x y, xs[i]? = some x ∧ ys[i]? = some y ∧ d = .tup [x, y] := by
  rw [List.getElem?_zipWith] at h
  cases e1 : xs[i]? with
  | none => rw [e1] at h; cases h
  | some x =>
    cases e2 : ys[i]? with
    | none => rw [e1, e2] at h; cases h
    | some y =>
      rw [e1, e2] at h
      exact ⟨x, y, rfl, rfl, (Option.some.inj h).symm⟩
theorem rep_pair {Z H : Hp} {x y : D} {u v : V} {t : Addr} (z : Zh W Z H) (hn : H t = none) (r1 : Rep W Z x u) (r2 : Rep W Z y v) : Ext W Z H (upd Z t (.tup [u, v])) (upd H t (.tup [u, v])) ∧ Rep W (upd Z t (.tup [u, v])) (.tup [x, y]) (.ref t) := by
  have e := (Ext.refl z).laid (o := .tup [u, v]) hn
  refine ⟨e, ?_⟩
  simp only [Rep]
  exact ⟨t, [u, v], rfl, .inl (.inl upd_same), .cons (r1.mono e.zz) (.cons (r2.mono e.zz) .nil)⟩
theorem walk_zipL {a b : Addr} {us vs : List V} {xs ys : List D} {Z0 : Hp} (h1 : Z0 a = some (.lst us)) (h2 : Z0 b = some (.lst vs)) (r1 : RepL W Z0 xs us) (r2 : RepL W Z0 ys vs) : Walk W (Itz W.K a b) Z0 (List.zipWith (fun x y => D.tup [x, y]) xs ys) where
  stop := fun i H z hi => ⟨us, vs, SqL.of (z _ _ h1), SqL.of (z _ _ h2), by rw [List.length_zipWith] at hi; rw [r1.length, r2.length]; omega⟩
  go := fun i H d z e => by
    obtain ⟨x, y, e1, e2, _⟩ := zipW_get e
    obtain ⟨u, f1, _⟩ := r1.get e1
    obtain ⟨v, f2, _⟩ := r2.get e2
    exact ⟨us, vs, u, v, SqL.of (z _ _ h1), SqL.of (z _ _ h2), f1, f2⟩
  yld := fun i H d x H' Z z1 z2 e y => by
    obtain ⟨T, u, v, rfl, hn, rfl, y1, y2⟩ := y
    obtain ⟨p, q, e1, e2, rfl⟩ := zipW_get e
    obtain ⟨u', f1, g1⟩ := r1.get e1
    obtain ⟨v', f2, g2⟩ := r2.get e2
    have k1 := y1 us (SqL.of ((z1.trans z2) _ _ h1))
    have k2 := y2 vs (SqL.of ((z1.trans z2) _ _ h2))
    rw [f1] at k1
    rw [f2] at k2
    injection k1 with k1
    injection k2 with k2
    subst k1 k2
    obtain ⟨m1, m2⟩ := rep_pair z2 hn (g1.mono z1) (g2.mono z1)
    exact ⟨_, m1, m2⟩
theorem walk_zipT {a b : Addr} {us vs : List V} {xs ys : List D} {Z0 : Hp} (h1 : SqT W.K Z0 a us) (h2 : SqT W.K Z0 b vs) (r1 : RepL W Z0 xs us) (r2 : RepL W Z0 ys vs) : Walk W (RZ.ItzT W.K a b) Z0 (List.zipWith (fun x y => D.tup [x, y]) xs ys) where
  stop := fun i H z hi => ⟨us, vs, sqT_mono z h1, sqT_mono z h2, by rw [List.length_zipWith] at hi; rw [r1.length, r2.length]; omega⟩
  go := fun i H d z e => by
    obtain ⟨x, y, e1, e2, _⟩ := zipW_get e
    obtain ⟨u, f1, _⟩ := r1.get e1
    obtain ⟨v, f2, _⟩ := r2.get e2
    exact ⟨us, vs, u, v, sqT_mono z h1, sqT_mono z h2, f1, f2⟩
  yld := fun i H d x H' Z z1 z2 e y => by
    obtain ⟨T, u, v, rfl, hn, rfl, y1, y2⟩ := y
    obtain ⟨p, q, e1, e2, rfl⟩ := zipW_get e
    obtain ⟨u', f1, g1⟩ := r1.get e1
    obtain ⟨v', f2, g2⟩ := r2.get e2
    have k1 := y1 us (sqT_mono (z1.trans z2) h1)
    have k2 := y2 vs (sqT_mono (z1.trans z2) h2)
    rw [f1] at k1
    rw [f2] at k2
    injection k1 with k1
    injection k2 with k2
    subst k1 k2
    obtain ⟨m1, m2⟩ := rep_pair z2 hn (g1.mono z1) (g2.mono z1)
    exact ⟨_, m1, m2⟩
/-- a source -/
theorem snd_src {sk : Sk} {tg : List Nat} {srcs : List E} (iha : SndA T W Φ k N srcs) {sc : Scope} {i t : Expr} {own : List (PySem.Str × Nat)} {X : Cx} {Wx : WX} (G : Good T W Φ k N sc X) (tk : Takes X Wx) (ht : tgB N own t tg = true) (h : chkI T N sc sk tg i srcs = true) :
    PI X t i (tI W Φ sk srcs Wx) := by
  have ho : ∀ {a : Int} {b : Int}, rngOk a b = true → -(2 ^ 62) ≤ a ∧ a < 2 ^ 62 ∧ -(2 ^ 62) ≤ b ∧ b < 2 ^ 62 := fun h => by
    simp only [rngOk, Bool.and_eq_true, decide_eq_true_eq] at h
    exact ⟨h.1, h.2.1, h.2.2.1, h.2.2.2.1⟩
  have imp : ∀ {wi wi' : TI}, PI X t i wi → (∀ σ H R, wi' σ H R → wi σ H R) → PI X t i wi' := fun p q => ⟨fun pins s σ H R I h => p.run pins s σ H R I (q σ H R h)⟩
  cases srcs with
  | nil => rw [chkI_l0] at h; exact absurd h Bool.false_ne_true
  | cons s r =>
    cases r with
    | nil =>
      rw [chkI_l1] at h
      have e1 : ∀ {f : List D → Res (List D)} {Δ : List (Option D)}, (evs Φ [s] Δ).bind f = (ev Φ s Δ).bind fun d => f [d] := fun {f Δ} => by
        rw [evs_cons1, evs_l0]
        cases ev Φ s Δ <;> rfl
      split at h
      · refine imp (R3.pi_seq (iha s List.mem_cons_self G tk h)) fun σ H R ⟨Δ, Z, hE, hz, q⟩ => ?_
        rw [e1] at q
        refine ⟨Δ, Z, hE, hz, ?_⟩
        cases r : ev Φ s Δ with
        | ok d =>
          rw [r] at q
          intro v Z' H' x rv
          have q := PostI.ext q x
          rw [G.hK]
          cases d <;> simp only [Res.bind_ok, srcR, D.seq, PostI_bad] at q
          · simp only [Rep] at rv
            obtain ⟨a, us, rfl, h2, h3⟩ := rv
            exact ⟨a, us, rfl, .inr ⟨sqT_mono x.zh h2, q _ _ _ (Ext.refl x.zh) (walk_tup h2 h3) (fun e => absurd e Bool.false_ne_true)⟩⟩
          · simp only [Rep] at rv
            obtain ⟨a, us, rfl, h2, h3⟩ := rv
            exact ⟨a, us, rfl, .inl ⟨SqL.of (x.zh _ _ h2), q _ _ _ (Ext.refl x.zh) (walk_list (SqL.of h2) h3) (fun e => absurd e Bool.false_ne_true)⟩⟩
          · simp only [Rep] at rv
            obtain ⟨a, us, rfl, h2, h3⟩ := rv
            exact ⟨a, us, rfl, .inl ⟨x.zh.seq h2, q _ _ _ (Ext.refl x.zh) (walk_list h2 h3) (fun e => absurd e Bool.false_ne_true)⟩⟩
        | ex c fs => rw [r] at q; exact q
        | bad => rw [r] at q; exact q
      · split at h
        · rename_i f p x pos
          rw [Bool.and_eq_true] at h; obtain ⟨h1, h⟩ := h
          rw [Bool.and_eq_true] at h; obtain ⟨h2, h⟩ := h
          rw [Bool.and_eq_true] at h; obtain ⟨h3, h⟩ := h
          have e := de h1
          subst e
          have hr : ("range" : PySem.Str) ∈ bNames := by decide +kernel
          refine imp (pi_range1 (gl_of G.hsc h2) (G.blt _ hr) (pa_cons (iha s List.mem_cons_self G tk h) pa_nil (starEach_nst h3 _ _)) (starEach_nst h3 _ _)) fun σ H R ⟨Δ, Z, hE, hz, q⟩ => ?_
          rw [e1] at q
          refine ⟨Δ, Z, hE, hz, ?_⟩
          cases r : ev Φ s Δ with
          | ok d =>
            rw [r] at q
            intro v Z' H' x rv
            have q := PostI.ext q x
            obtain ⟨n, rfl⟩ : ∃ n, d = .int n := by cases d <;> first | exact ⟨_, rfl⟩ | simp only [Res.bind_ok, srcR, PostI_bad] at q
            simp only [Res.bind_ok, srcR] at q
            simp only [Rep] at rv
            subst rv
            split at q
            · rename_i o
              obtain ⟨o1, o2, o3, o4⟩ := ho o
              have w : ∀ Zx, Walk W (Itr 0 n.toNat) Zx (rng 0 n) := fun Zx => by
                have := walk_rng (W := W) (a := 0) (b := n) (Z0 := Zx)
                rw [show n - 0 = n by omega] at this
                exact this
              exact ⟨n, rfl, o3, o4, q _ _ _ (Ext.refl x.zh) (w _) fun _ => w⟩
            · simp only [PostI_bad] at q
          | ex c fs => rw [r] at q; exact q
          | bad => rw [r] at q; exact q
        · exact absurd h Bool.false_ne_true
      · exact absurd h Bool.false_ne_true
    | cons s2 r2 =>
      cases r2 with
      | cons _ _ => rw [chkI_cons3] at h; exact absurd h Bool.false_ne_true
      | nil =>
        rw [chkI_l2] at h
        have e2 : ∀ {f : List D → Res (List D)} {Δ : List (Option D)}, (evs Φ [s, s2] Δ).bind f = (ev Φ s Δ).bind fun d => (ev Φ s2 Δ).bind fun d' => f [d, d'] := fun {f Δ} => by
          rw [evs_cons1, evs_cons1, evs_l0]
          cases ev Φ s Δ with
          | ok d => cases ev Φ s2 Δ <;> rfl
          | ex c fs => rfl
          | bad => rfl
        split at h
        · rename_i f p x y pos
          -- both values
          have both : ∀ {σ : L2.St} {H : Hp} {R : It → Hp → Prop}, tI W Φ sk [s, s2] Wx σ H R → tE W Φ s Wx σ H fun u H1 => tE W Φ s2 Wx σ H1 fun v H2 => ∃ d d' Z2, Zh W Z2 H2 ∧ Rep W Z2 d u ∧ Rep W Z2 d' v ∧ PostI (isRg sk) W Z2 H2 (srcR sk [d, d']) R fun c dd H' => Wx c dd σ H' := by
            intro σ H R ⟨Δ, Z, hE, hz, q⟩
            rw [e2] at q
            refine ⟨Δ, Z, hE, hz, ?_⟩
            cases r : ev Φ s Δ with
            | ok d =>
              rw [r] at q
              intro u Z' H' x ru
              have q := PostI.ext q x
              refine ⟨Δ, Z', hE.mono x.zz, x.zh, ?_⟩
              simp only [Res.bind_ok] at q
              cases r2 : ev Φ s2 Δ with
              | ok d' =>
                rw [r2] at q
                intro v Z2 H2 x2 rv
                exact ⟨d, d', Z2, x2.zh, ru.mono x2.zz, rv, PostI.ext q x2⟩
              | ex c fs => rw [r2] at q; exact q
              | bad => rw [r2] at q; exact q
            | ex c fs => rw [r] at q; exact q
            | bad => rw [r] at q; exact q
          split at h
          · rw [Bool.and_eq_true] at h; obtain ⟨h1, h⟩ := h
            rw [Bool.and_eq_true] at h; obtain ⟨h2, h⟩ := h
            rw [Bool.and_eq_true] at h; obtain ⟨h3, h⟩ := h
            rw [Bool.and_eq_true] at h; obtain ⟨h4, h⟩ := h
            rw [Bool.and_eq_true] at h; obtain ⟨h5, h⟩ := h
            have e := de h1
            subst e
            have hr : ("range" : PySem.Str) ∈ bNames := by decide +kernel
            refine imp (pi_range2 (gl_of G.hsc h2) (G.blt _ hr) (pa_cons (iha s List.mem_cons_self G tk h5) (pa_cons (iha s2 (List.mem_cons_of_mem _ List.mem_cons_self) G tk h) pa_nil (starEach_nst h4 _ _)) (starEach_nst h3 _ _)) (by rw [starEach_nst h3, starEach_nst h4]; rfl) (starEach_nst h4 _ _)) fun σ H R q => ?_
            obtain ⟨Δ, Z, hE, hz, q⟩ := both q
            refine ⟨Δ, Z, hE, hz, q.imp fun u H1 ⟨Δ2, Z2, hE2, hz2, q2⟩ => ⟨Δ2, Z2, hE2, hz2, q2.imp fun v H2 ⟨d, d', Z3, z3, ru, rv, q3⟩ => ?_⟩⟩
            obtain ⟨a, rfl⟩ : ∃ n, d = .int n := by cases d <;> first | exact ⟨_, rfl⟩ | (cases d' <;> simp only [srcR, PostI_bad] at q3)
            obtain ⟨b, rfl⟩ : ∃ n, d' = .int n := by cases d' <;> first | exact ⟨_, rfl⟩ | simp only [srcR, PostI_bad] at q3
            simp only [srcR] at q3
            simp only [Rep] at ru rv
            subst ru rv
            split at q3
            · rename_i o
              exact ⟨a, b, rfl, ho o, q3 _ _ _ (Ext.refl z3) walk_rng fun _ Zx => walk_rng⟩
            · simp only [PostI_bad] at q3
          · rw [Bool.and_eq_true] at h; obtain ⟨h0, h⟩ := h
            rw [Bool.and_eq_true] at h; obtain ⟨h1, h⟩ := h
            rw [Bool.and_eq_true] at h; obtain ⟨h2, h⟩ := h
            rw [Bool.and_eq_true] at h; obtain ⟨h3, h⟩ := h
            rw [Bool.and_eq_true] at h; obtain ⟨h4, h⟩ := h
            rw [Bool.and_eq_true] at h; obtain ⟨h5, h⟩ := h
            have e := de h1
            subst e
            have hr : ("zip" : PySem.Str) ∈ bNames := by decide +kernel
            obtain ⟨elts, kk, tpos, rfl⟩ : ∃ elts kk tpos, t = .Tuple elts kk tpos := by
              unfold tgB at ht
              split at ht
              · simp at h0
              · exact ⟨_, _, _, rfl⟩
              · exact absurd ht Bool.false_ne_true
            refine imp (RZ.pi_zipA (gl_of G.hsc h2) (G.blt _ hr) (pa_cons (iha s List.mem_cons_self G tk h5) (pa_cons (iha s2 (List.mem_cons_of_mem _ List.mem_cons_self) G tk h) pa_nil (starEach_nst h4 _ _)) (starEach_nst h3 _ _)) (starEach_nst h3 _ _) (any_star (fun z hz => by rw [List.mem_singleton.mp hz]; exact h4) _ _)) fun σ H R q => ?_
            obtain ⟨Δ, Z, hE, hz, q⟩ := both q
            refine ⟨Δ, Z, hE, hz, q.imp fun u H1 ⟨Δ2, Z2, hE2, hz2, q2⟩ => ⟨Δ2, Z2, hE2, hz2, q2.imp fun v H2 ⟨d, d', Z3, z3, ru, rv, q3⟩ => ?_⟩⟩
            rw [G.hK]
            cases d <;> cases d' <;> simp only [srcR, PostI_bad] at q3
            · simp only [Rep] at ru rv
              obtain ⟨a, us, rfl, m1, m2⟩ := ru
              obtain ⟨b, vs, rfl, m3, m4⟩ := rv
              exact ⟨a, b, us, vs, rfl, .inr ⟨sqT_mono z3 m1, sqT_mono z3 m3, q3 _ _ _ (Ext.refl z3) (walk_zipT m1 m3 m2 m4) (fun e => absurd e Bool.false_ne_true)⟩⟩
            · simp only [Rep] at ru rv
              obtain ⟨a, us, rfl, m1, m2⟩ := ru
              obtain ⟨b, vs, rfl, m3, m4⟩ := rv
              exact ⟨a, b, us, vs, rfl, .inl ⟨SqL.of (z3 _ _ m1), SqL.of (z3 _ _ m3), q3 _ _ _ (Ext.refl z3) (walk_zipL m1 m3 m2 m4) (fun e => absurd e Bool.false_ne_true)⟩⟩
          · exact absurd h Bool.false_ne_true
        · exact absurd h Bool.false_ne_true
end
end R
end

section
set_option Elab.async false
set_option linter.all false
set_option maxRecDepth 100000
set_option maxHeartbeats 8000000
/-! R13: comprehensions; every expression. -/
namespace R
open PySem PySem.Spec PyProof.Rows L2
theorem Res.bind_assoc {α β γ : Type} (r : Res α) (f : α → Res β) (g : β → Res γ) : (r.bind f).bind g = r.bind fun a => (f a).bind g := by cases r <;> rfl
section
variable {T : Th} {W : Wo} {Φ : Or} {k : Nat} {N : List PySem.Str}
/-! ### targets -/
def gOf (K : PySem.W.Frag) : List Nat → TG
  | [i] => gName i
  | [i, j] => gTup K 2 (gCons (gName i) (gCons (gName j) gNil))
  | _ => fun _ _ _ _ => False
theorem storeB_of {scope sc' : Scope} {own : List (PySem.Str × Nat)} (h : storeB scope sc' own = true) {p : PySem.Str × Nat} (hp : p ∈ own) : Loc sc' p.1 ∧ (scope.names.lookup p.1 = some .cell ∨ sc'.names.lookup p.1 = some .local) := by
  have q := List.all_eq_true.mp h p hp
  rcases Bool.or_eq_true _ _ ▸ q with q | q
  · unfold lclB at q
    split at q
    · exact ⟨.inl (by assumption), .inr (by assumption)⟩
    · exact absurd q Bool.false_ne_true
  · obtain ⟨q1, q2⟩ := ba q
    unfold celB at q1 q2
    split at q1
    · split at q2
      · exact ⟨.inr (by assumption), .inl (by assumption)⟩
      · exact absurd q2 Bool.false_ne_true
    · exact absurd q1 Bool.false_ne_true
/-- the target's rule -/
theorem pg_of {X : Cx} {t : Expr} {tg : List Nat} {own : List (PySem.Str × Nat)} (hN : X.N = N) (nd : List.Nodup N) (hc : X.calm = true) (hK : X.K = W.K) (h : tgB N own t tg = true)
    (hl : ∀ p ∈ own, Loc X.env.scope p.1 ∧ (X.fn p.1 = true ∨ X.env.scope.names.lookup p.1 = some .local)) : PG X t (gOf W.K tg) := by
  unfold tgB at h
  split at h
  · rename_i x p i
    obtain ⟨h1, h2⟩ := ba h
    have e := de h1
    subst e
    obtain ⟨l1, l2⟩ := hl (x, i) List.mem_cons_self
    exact pg_name (by rw [hN]; exact nd) (by rw [hN]; exact de h2) l1 l2
  · rename_i x p y p2 kk p3 i j
    obtain ⟨h1, h2⟩ := ba h
    obtain ⟨h2, h3⟩ := ba h2
    have e := de h1
    subst e
    obtain ⟨l1, l2⟩ := hl (x, i) List.mem_cons_self
    obtain ⟨l3, l4⟩ := hl (y, j) (List.mem_cons_of_mem _ List.mem_cons_self)
    have q := pg_tup (k := kk) (pos := p3) hc (pgs_cons (pg_name (pos := p) (by rw [hN]; exact nd) (by rw [hN]; exact de h2) l1 l2) (pgs_cons (pg_name (pos := p2) (by rw [hN]; exact nd) (by rw [hN]; exact de h3) l3 l4) pgs_nil)) (n := 2)
    rw [hK] at q
    exact q
  · exact absurd h Bool.false_ne_true
/-- its reading -/
theorem tg_read {tg : List Nat} {d : D} {x : V} {Δ Δ' : List (Option D)} {σ : L2.St} {Z H : Hp} {R : L2.St → Hp → Prop} (h : bindT tg d Δ = some Δ') (hE : EnvOk W Z σ Δ) (r : Rep W Z d x) (z : Zh W Z H)
    (go : ∀ σ2, EnvOk W Z σ2 Δ' → (∀ vs : List Nat, (∀ i ∈ tg, i ∈ vs) → L2.wipe σ2 vs = L2.wipe σ vs) → R σ2 H) : gOf W.K tg x σ H R := by
  unfold bindT at h
  split at h
  · rename_i i
    injection h with h
    subst h
    exact go _ (hE.set i r) fun vs hv => wipe_set (hv i List.mem_cons_self)
  · rename_i i j
    split at h
    · rename_i a b
      injection h with h
      subst h
      simp only [Rep] at r
      obtain ⟨t, us, rfl, h1, h2⟩ := r
      obtain ⟨u, v, rfl, r1, r2⟩ := h2.two
      refine ⟨t, [u, v], rfl, sqT_mono z h1, rfl, u, [v], rfl, v, [], rfl, rfl, go _ ((hE.set i r1).set j r2) fun vs hv => ?_⟩
      rw [wipe_set (hv j (List.mem_cons_of_mem _ List.mem_cons_self)), wipe_set (hv i List.mem_cons_self)]
    · cases h
  · cases h
theorem own_snd {t : Expr} {tg : List Nat} (h : tgB N (ownOf t tg) t tg = true) : (ownOf t tg).map (·.2) = tg := by
  unfold tgB at h
  split at h
  · rfl
  · rfl
  · exact absurd h Bool.false_ne_true

/-! ### the list that grows -/
structure CSt (W : Wo) (Z1 H1 : Hp) (p : Addr) (Z H : Hp) (av : List V) (ad : List D) : Prop where
  zz : Same Z1 Z
  zh : Zh W Z H
  new : ∀ a o, Z a = some o → Z1 a = some o ∨ H1 a = none
  hh : Grow H1 H
  at_ : H p = some (.lst av)
  zD : Z p = none
  rep : RepL W Z ad av
section
variable {Z1 H1 Z H Z' H' : Hp} {p : Addr} {av : List V} {ad : List D}
theorem CSt.ext (s : CSt W Z1 H1 p Z H av ad) (x : Ext W Z H Z' H') : CSt W Z1 H1 p Z' H' av ad := by
  refine ⟨s.zz.trans x.zz, x.zh, fun a o e => ?_, s.hh.trans x.hh, x.hh.lst s.at_, ?_, s.rep.mono x.zz⟩
  · rcases x.new a o e with h | h
    · exact s.new a o h
    · exact .inr (s.hh.free h)
  · cases e : Z' p with
    | none => rfl
    | some o =>
      rcases x.new p o e with h | h
      · rw [s.zD] at h; cases h
      · rw [s.at_] at h; cases h
theorem CSt.push (s : CSt W Z1 H1 p Z H av ad) (hp : H1 p = none) {y : D} {v : V} (r : Rep W Z y v) : CSt W Z1 H1 p Z (upd H p (.lst (av ++ [v]))) (av ++ [v]) (ad ++ [y]) := by
  exact ⟨s.zz, s.zh.wr s.at_ s.zD, s.new, s.hh.wr hp, upd_same, s.zD, s.rep.append (.cons r .nil)⟩
theorem CSt.start (z : Zh W Z1 H1) (hp : H1 p = none) : CSt W Z1 H1 p Z1 (upd H1 p (.lst [])) [] [] := by
  have zp : Z1 p = none := by
    cases e : Z1 p with
    | none => rfl
    | some o => have := z _ _ e; rw [hp] at this; cases this
  exact ⟨Same.refl _, z.hup hp, fun a o e => .inl e, .of (same_upd hp), upd_same, zp, .nil⟩
theorem CSt.fin (s : CSt W Z1 H1 p Z H av ad) (hp : H1 p = none) : Ext W Z1 H1 (upd Z p (.lst av)) H ∧ Rep W (upd Z p (.lst av)) (.lst ad) (.ref p) := by
  refine ⟨⟨s.hh, s.zz.trans (same_upd s.zD), s.zh.add1 s.at_, fun b o e => ?_⟩, ?_⟩
  · by_cases hb : b = p
    · subst hb; exact .inr hp
    · rw [upd_ne hb] at e; exact s.new _ _ e
  · simp only [Rep]
    exact ⟨p, av, rfl, upd_same, s.rep.mono (same_upd s.zD)⟩
end
def prO {α : Type} (pr : α → List D) : Option α → List D
  | some a => pr a
  | none => []
theorem mapR_cons {α : Type} {f : D → Res (Option α)} {d : D} {ds : List D} {ys : List α} (h : mapR f (d :: ds) = .ok ys) : ∃ o zs, f d = .ok o ∧ mapR f ds = .ok zs ∧ ∀ pr : α → List D, ys.flatMap pr = prO pr o ++ zs.flatMap pr := by
  unfold mapR at h
  cases e : f d with
  | ok o =>
    rw [e] at h
    cases e2 : mapR f ds with
    | ok zs =>
      rw [e2] at h
      refine ⟨o, zs, rfl, rfl, fun pr => ?_⟩
      cases o with
      | none =>
        have h' : Res.ok zs = Res.ok ys := h
        injection h' with h'
        rw [← h']
        rfl
      | some y =>
        have h' : Res.ok (y :: zs) = Res.ok ys := h
        injection h' with h'
        rw [← h', List.flatMap_cons]
        rfl
    | ex c fs => rw [e2] at h; cases h
    | bad => rw [e2] at h; cases h
  | ex c fs => rw [e] at h; cases h
  | bad => rw [e] at h; cases h
/-- a loop that fills the list -/
theorem loop_core {α : Type} {J : It} {Zw Z1 H1 : Hp} {p : Addr} {items : List D} {f : D → Res (Option α)} {pr : α → List D} {total ad0 : List D} {av0 : List V} {Z0 H0 : Hp} {os0 : List α} {Fin : Hp → Prop} {Body : V → Hp → (Hp → Prop) → Prop}
    (wk : Walk W J Zw items) (hw : Same Zw Z0) (hf : mapR f items = .ok os0) (ht : total = ad0 ++ os0.flatMap pr) (hL : total.length ≤ LINE) (s0 : CSt W Z1 H1 p Z0 H0 av0 ad0)
    (turn : ∀ (d : D) (o : Option α), f d = .ok o → ∀ Z H av ad, CSt W Z1 H1 p Z H av ad → Same Zw Z → ad.length + (prO pr o).length ≤ LINE → ∀ x H' Z', Ext W Z H Z' H' → Rep W Z' d x → ∀ Nx : Hp → Prop,
      (∀ Z3 H3 av3, CSt W Z1 H1 p Z3 H3 av3 (ad ++ prO pr o) → Same Zw Z3 → Nx H3) → Body x H' Nx)
    (fin : ∀ Z H av, CSt W Z1 H1 p Z H av total → Same Zw Z → Fin H) :
    ∃ Wd : Nat → Nat → Hp → Prop, (∃ m, Wd 0 m H0) ∧ ∀ i m H, Wd i m H → (J.stop i H ∧ Fin H) ∨ (J.go i H ∧ ∃ Nx : Hp → Prop, (∀ H', Nx H' → ∃ m', m' < m ∧ Wd (i + 1) m' H') ∧ ∀ x H', J.yld i H x H' → Body x H' Nx) := by
  refine ⟨fun i m H => m = items.length - i ∧ i ≤ items.length ∧ ∃ Z av ad os, CSt W Z1 H1 p Z H av ad ∧ Same Zw Z ∧ mapR f (items.drop i) = .ok os ∧ total = ad ++ os.flatMap pr, ⟨items.length, rfl, Nat.zero_le _, Z0, av0, ad0, os0, s0, hw, hf, ht⟩, ?_⟩
  rintro i m H ⟨rfl, hi, Z, av, ad, os, s, zw, hm, hT⟩
  by_cases hlt : i < items.length
  · have hd : items[i]? = some items[i] := List.getElem?_eq_getElem hlt
    rw [List.drop_eq_getElem_cons hlt] at hm
    obtain ⟨o, zs, e1, e2, e3⟩ := mapR_cons hm
    refine .inr ⟨wk.go i H _ (zw.trans s.zh) hd, fun H' => ∃ Z av, CSt W Z1 H1 p Z H' av (ad ++ prO pr o) ∧ Same Zw Z, fun H' ⟨Z', av', s', zw'⟩ => ⟨items.length - (i + 1), by omega, rfl, hlt, Z', av', _, zs, s', zw', e2, ?_⟩, fun x H' y => ?_⟩
    · rw [hT, e3, List.append_assoc]
    · obtain ⟨Z2, x2, r2⟩ := wk.yld i H _ x H' Z zw s.zh hd y
      refine turn _ o e1 Z H av ad s zw ?_ x H' Z2 x2 r2 _ fun Z3 H3 av3 s3 z3 => ⟨Z3, av3, s3, z3⟩
      have : total.length = ad.length + ((prO pr o).length + (zs.flatMap pr).length) := by rw [hT, e3, List.length_append, List.length_append]
      omega
  · have e : i = items.length := by omega
    subst e
    rw [List.drop_length] at hm
    have e0 : os = [] := by
      have h' : (Res.ok [] : Res (List α)) = .ok os := hm
      injection h' with h'
      exact h'.symm
    subst e0
    rw [List.flatMap_nil, List.append_nil] at hT
    subst hT
    exact .inl ⟨wk.stop _ H (zw.trans s.zh) (Nat.le_refl _), fin Z H av s zw⟩

theorem noEx_ok {α : Type} {r : Res α} {a : α} (h : noEx r = .ok a) : r = .ok a := by
  cases r with
  | ok b => exact h
  | ex c fs => cases h
  | bad => cases h
abbrev W0 : WX := fun _ _ _ _ => False
theorem snd_conds {conds : List E} (ih : ∀ c ∈ conds, SndT T W Φ k N c) {sc : Scope} {ifs : List Expr} {X : Cx} {Wx : WX} (G : Good T W Φ k N sc X) (tk : Takes X Wx) (h : chkC T N sc ifs conds = true) : PTs X ifs (tTs W Φ conds Wx) := by
  cases conds with
  | nil =>
    rw [chkC_l0] at h
    rw [List.isEmpty_iff.mp h]
    exact ⟨fun pins s σ H Q I ⟨Δ, Z, hE, hz, q⟩ => pts_nil.run pins s σ H Q I (PostE.ret (W := W) (Rp := RepB) (d := true) q hz rfl)⟩
  | cons c r =>
    cases r with
    | cons _ _ => rw [chkC_cons2] at h; exact absurd h Bool.false_ne_true
    | nil =>
      rw [chkC_l1] at h
      split at h
      · obtain ⟨h1, h2⟩ := ba h
        refine ⟨fun pins s σ H Q I ⟨Δ, Z, hE, hz, q⟩ => (pts_one (ih c List.mem_cons_self G tk h1 h2)).run pins s σ H Q I ⟨Δ, Z, hE, hz, ?_⟩⟩
        rw [evc_cons1, evc_l0] at q
        cases e : tob (ev Φ c Δ) with
        | ok b =>
          rw [e] at q
          cases b <;> exact q
        | ex cc fs => rw [e] at q; exact q
        | bad => rw [e] at q; exact q
      · exact absurd h Bool.false_ne_true
theorem Good.blkOk {sc scope : Scope} {own : List (PySem.Str × Nat)} {X : Cx} (G : Good T W Φ k N sc X) (h : blkC N sc scope own = true) : BlkOk X.N X.env.scope scope own := by
  rw [G.hN, G.hsc]
  exact blkOk_by h
/-- in the block -/
theorem pg_blk {sc scope : Scope} {own ow1 : List (PySem.Str × Nat)} {t : Expr} {tg : List Nat} {X : Cx} (G : Good T W Φ k N sc X) (h : tgB N ow1 t tg = true) (hs : storeB scope (relS scope sc) own = true) (hsub : ∀ p ∈ ow1, p ∈ own) (s : Shared) (H : Hp) (C : Addr) (cl : List (PySem.Str × Addr)) (fp : List Addr) :
    PG (X.blk s H scope (compEnvC scope cl C X.env) fp) t (gOf W.K tg) := by
  have B := G.blk s H scope C cl fp
  refine pg_of B.hN B.nd B.calm B.hK h fun p hp => ?_
  obtain ⟨l1, l2⟩ := storeB_of hs (hsub p hp)
  refine ⟨by rw [B.hsc]; exact l1, ?_⟩
  rcases l2 with l2 | l2
  · refine .inl ?_
    show (scope.names.lookup p.1 == some .cell) = true
    rw [l2]
    rfl
  · refine .inr ?_
    rw [B.hsc]
    exact l2
/-- what is wanted behind a comprehension: the list as it was filled, not yet read -/
def PostC (W : Wo) (Z H : Hp) (r : Res (List D)) (Q : VK) (E : XK) : Prop := match r with
  | .ok ys => ∀ Z1 H1 p av Z' H', Ext W Z H Z1 H1 → H1 p = none → CSt W Z1 H1 p Z' H' av ys → Q (.ref p) H'
  | .ex c fs => ∀ dx Z' H', Ext W Z H Z' H' → ExcR W Z' H' c fs dx → E (.ref (W.xA c)) dx H'
  | .bad => False
theorem PostC_bad {Z H : Hp} {Q : VK} {E : XK} : PostC W Z H .bad Q E = False := rfl
theorem PostC.ext {Z H Z1 H1 : Hp} {r : Res (List D)} {Q : VK} {E : XK} (h : PostC W Z H r Q E) (x : Ext W Z H Z1 H1) : PostC W Z1 H1 r Q E := by
  cases r with
  | ok d => exact fun Z2 H2 p av Z' H' y hp s => h Z2 H2 p av Z' H' (x.trans y) hp s
  | ex c fs => exact fun dx Z' H' y q => h dx Z' H' (x.trans y) q
  | bad => exact h
/-- the list that a comprehension fills -/
def evC (Φ : Or) (sk : Sk) (tg : List Nat) (srcs conds : List E) (elt : E) (Δ : List (Option D)) : Res (List D) := ((evs Φ srcs Δ).bind (srcR sk)).bind fun items =>
    (noEx (mapR (fun x => match bindT tg x (wipe Δ tg) with
      | none => .bad
      | some Δ' => (evc Φ conds Δ').bind fun b => if b then (ev Φ elt Δ').bind fun d => .ok (some d) else .ok none) items)).bind fun ys => if ys.length ≤ LINE then .ok ys else .bad
theorem ev_compC {sk : Sk} {tg : List Nat} {srcs conds : List E} {elt : E} {Δ : List (Option D)} : ev Φ (.comp sk tg srcs conds elt) Δ = (evC Φ sk tg srcs conds elt Δ).bind fun ys => .ok (.lst ys) := by
  rw [ev_comp, ← Res.bind_assoc]
  unfold evC
  cases (evs Φ srcs Δ).bind (srcR sk) with
  | ok items =>
    simp only [Res.bind_ok]
    generalize noEx _ = mr
    cases mr with
    | ok ys => simp only [Res.bind_ok]; split <;> rfl
    | ex c fs => rfl
    | bad => rfl
  | ex c fs => rfl
  | bad => rfl
def tC (W : Wo) (Φ : Or) (sk : Sk) (tg : List Nat) (srcs conds : List E) (elt : E) (Wx : WX) : TE := fun σ H Q => ∃ Δ Z, EnvOk W Z σ Δ ∧ Zh W Z H ∧ PostC W Z H (evC Φ sk tg srcs conds elt Δ) Q fun c d H' => Wx c d σ H'
/-- the comprehension's rule, read -/
theorem comp_read {sk : Sk} {tg : List Nat} {srcs conds : List E} {elt : E} {Wx : WX} {σ : L2.St} {H : Hp} {Q : VK} (h : tC W Φ sk tg srcs conds elt Wx σ H Q) : tLc (tI W Φ sk srcs Wx) (gOf W.K tg) (tTs W Φ conds W0) (tE W Φ elt W0) tg σ H Q := by
  obtain ⟨Δ, Z, hE, hz, q⟩ := h
  unfold evC at q
  refine ⟨Δ, Z, hE, hz, ?_⟩
  cases e : (evs Φ srcs Δ).bind (srcR sk) with
  | ex c fs => rw [e] at q; exact q
  | bad => rw [e] at q; exact q
  | ok items =>
    rw [e] at q
    intro J Z1 H1 x1 wk _ p hp
    have q := PostC.ext q x1
    simp only [Res.bind_ok] at q
    revert q
    generalize hm : noEx (mapR _ items) = mr
    intro q
    cases mr with
    | ex c fs => cases hh : mapR _ items <;> rw [hh] at hm <;> cases hm
    | bad => exact q.elim
    | ok ys =>
      have hm := noEx_ok hm
      simp only [Res.bind_ok] at q
      split at q
      · rename_i hl
        have ef : ys.flatMap (fun y => [y]) = ys := by simp
        refine loop_core (total := ys) (ad0 := []) (av0 := []) (pr := fun y => [y]) (p := p) wk (Same.refl _) hm (by rw [ef]; rfl) hl (CSt.start x1.zh hp) ?_ fun Z2 H2 av s _ => ?_
        · intro d o hfd Z2 H2 av ad s zw hlen x H' Z' x2 rx Nx nx
          have s' := s.ext x2
          cases eb : bindT tg d (wipe Δ tg) with
          | none => rw [eb] at hfd; cases hfd
          | some Δ' =>
            rw [eb] at hfd
            simp only at hfd
            refine tg_read eb ((((hE.mono x1.zz).mono s.zz).mono x2.zz).wipe tg) rx x2.zh fun σ2 hE2 hw => ⟨?_, ?_⟩
            · rw [hw tg (fun _ h => h)]
              exact wipe_wipe fun _ h => h
            · refine ⟨Δ', Z', hE2, x2.zh, ?_⟩
              cases ec : evc Φ conds Δ' with
              | ex c fs => rw [ec] at hfd; cases hfd
              | bad => rw [ec] at hfd; cases hfd
              | ok b =>
                rw [ec] at hfd
                intro c Z3 H3 x3 rc
                obtain rfl : c = b := rc
                have s3 := s'.ext x3
                cases c with
                | false =>
                  simp only [Res.bind_ok, Bool.false_eq_true, if_false] at hfd
                  injection hfd with hfd
                  subst hfd
                  exact nx Z3 H3 av (by simpa [prO] using s3) ((zw.trans x2.zz).trans x3.zz)
                | true =>
                  simp only [Res.bind_ok, if_true] at hfd
                  refine ⟨Δ', Z3, hE2.mono x3.zz, x3.zh, ?_⟩
                  cases ed : ev Φ elt Δ' with
                  | ex c fs => rw [ed] at hfd; cases hfd
                  | bad => rw [ed] at hfd; cases hfd
                  | ok y =>
                    rw [ed] at hfd
                    simp only [Res.bind_ok] at hfd
                    injection hfd with hfd
                    subst hfd
                    intro v Z4 H4 x4 rv
                    have s4 := s3.ext x4
                    refine ⟨av, s4.at_, ?_, nx Z4 _ _ (s4.push hp rv) (((zw.trans x2.zz).trans x3.zz).trans x4.zz)⟩
                    have l1 := s4.rep.length
                    rw [LINE_eq] at hlen
                    simp only [prO, List.length_singleton] at hlen
                    omega
        · exact q _ _ _ _ _ _ (Ext.refl x1.zh) hp s
      · simp only [PostC_bad] at q
theorem gen_comp {sk : Sk} {tg : List Nat} {srcs conds : List E} {elt : E} (ihs : SndA T W Φ k N srcs) (ihc : ∀ c ∈ conds, SndT T W Φ k N c) (ihe : SndE T W Φ k N elt) {sc : Scope} {ex : Expr} {X : Cx} {Wx : WX} (G : Good T W Φ k N sc X) (tk : Takes X Wx)
    (h : chkE T N sc (.comp sk tg srcs conds elt) ex = true) : PE X ex (tC W Φ sk tg srcs conds elt Wx) := by
  rw [chkE_comp] at h
  split at h
  · rename_i el t i ifs scope pos
    rw [Bool.and_eq_true] at h; obtain ⟨h1, h⟩ := h
    rw [Bool.and_eq_true] at h; obtain ⟨h2, h⟩ := h
    rw [Bool.and_eq_true] at h; obtain ⟨h3, h⟩ := h
    rw [Bool.and_eq_true] at h; obtain ⟨h4, h⟩ := h
    rw [Bool.and_eq_true] at h; obtain ⟨h5, h⟩ := h
    rw [Bool.and_eq_true] at h; obtain ⟨h6, h⟩ := h
    have hv := own_snd h1
    have hpe := pe_lc (pos := pos) G.calm (by rw [G.hN]; exact G.nd) (snd_src ihs G tk h1 h4) (G.blkOk h2) (fun s H C cl fp => pg_blk G h1 h3 (fun p hp => hp) s H C cl fp)
      (fun s H C cl fp => snd_conds ihc (G.blk s H scope C cl fp) (takes0 : Takes _ W0) h5) (fun s H C cl fp => ihe (G.blk s H scope C cl fp) (takes0 : Takes _ W0) h) (fun x => noFold h6 _ x)
    rw [hv] at hpe
    exact hpe.imp fun σ H Q q => comp_read q
  · exact absurd h Bool.false_ne_true
theorem snd_comp {sk : Sk} {tg : List Nat} {srcs conds : List E} {elt : E} (ihs : SndA T W Φ k N srcs) (ihc : ∀ c ∈ conds, SndT T W Φ k N c) (ihe : SndE T W Φ k N elt) : SndE T W Φ k N (.comp sk tg srcs conds elt) := by
  intro sc ex X Wx G tk h
  refine (gen_comp ihs ihc ihe G tk h).imp fun σ H Q ⟨Δ, Z, hE, hz, q⟩ => ⟨Δ, Z, hE, hz, ?_⟩
  rw [ev_compC] at q
  cases e : evC Φ sk tg srcs conds elt Δ with
  | ok ys =>
    rw [e] at q
    intro Z1 H1 p av Z' H' x hp s
    obtain ⟨m1, m2⟩ := s.fin hp
    exact q _ _ _ (x.trans m1) m2
  | ex c fs => rw [e] at q; exact q
  | bad => rw [e] at q; exact q
/-- two clauses -/
def evC2 (Φ : Or) (sk : Sk) (tg : List Nat) (srcs conds : List E) (sk2 : Sk) (tg2 : List Nat) (srcs2 conds2 : List E) (elt : E) (Δ : List (Option D)) : Res (List D) := ((evs Φ srcs Δ).bind (srcR sk)).bind fun items =>
    (noEx (mapR (fun x => match bindT tg x (wipe Δ (tg ++ tg2)) with
      | none => .bad
      | some Δ' => (evc Φ conds Δ').bind fun b => if b then ((evs Φ srcs2 Δ').bind fun ds2 => (srcR sk2 ds2).bind fun items2 =>
          (mapR (fun x2 => match bindT tg2 x2 (wipe Δ' tg2) with
            | none => .bad
            | some Δ2 => (evc Φ conds2 Δ2).bind fun b => if b then (ev Φ elt Δ2).bind fun d => .ok (some d) else .ok none) items2).bind fun ys => .ok (some ys)) else .ok none) items)).bind fun yss => if yss.flatten.length ≤ LINE then .ok yss.flatten else .bad
theorem ev_comp2C {sk : Sk} {tg : List Nat} {srcs conds : List E} {sk2 : Sk} {tg2 : List Nat} {srcs2 conds2 : List E} {elt : E} {Δ : List (Option D)} : ev Φ (.comp2 sk tg srcs conds sk2 tg2 srcs2 conds2 elt) Δ = (evC2 Φ sk tg srcs conds sk2 tg2 srcs2 conds2 elt Δ).bind fun ys => .ok (.lst ys) := by
  rw [ev_comp2, ← Res.bind_assoc]
  unfold evC2
  cases (evs Φ srcs Δ).bind (srcR sk) with
  | ok items =>
    simp only [Res.bind_ok]
    generalize noEx _ = mr
    cases mr with
    | ok ys => simp only [Res.bind_ok]; split <;> rfl
    | ex c fs => rfl
    | bad => rfl
  | ex c fs => rfl
  | bad => rfl
def tC2 (W : Wo) (Φ : Or) (sk : Sk) (tg : List Nat) (srcs conds : List E) (sk2 : Sk) (tg2 : List Nat) (srcs2 conds2 : List E) (elt : E) (Wx : WX) : TE := fun σ H Q => ∃ Δ Z, EnvOk W Z σ Δ ∧ Zh W Z H ∧ PostC W Z H (evC2 Φ sk tg srcs conds sk2 tg2 srcs2 conds2 elt Δ) Q fun c d H' => Wx c d σ H'
theorem comp2_read {sk : Sk} {tg : List Nat} {srcs conds : List E} {sk2 : Sk} {tg2 : List Nat} {srcs2 conds2 : List E} {elt : E} {Wx : WX} {σ : L2.St} {H : Hp} {Q : VK} (h : tC2 W Φ sk tg srcs conds sk2 tg2 srcs2 conds2 elt Wx σ H Q) :
    tLc2 (tI W Φ sk srcs Wx) (gOf W.K tg) (tTs W Φ conds W0) (tI W Φ sk2 srcs2 W0) (gOf W.K tg2) (tTs W Φ conds2 W0) (tE W Φ elt W0) (tg ++ tg2) tg2 σ H Q := by
  obtain ⟨Δ, Z, hE, hz, q⟩ := h
  unfold evC2 at q
  refine ⟨Δ, Z, hE, hz, ?_⟩
  cases e : (evs Φ srcs Δ).bind (srcR sk) with
  | ex c fs => rw [e] at q; exact q
  | bad => rw [e] at q; exact q
  | ok items =>
    rw [e] at q
    intro J Z1 H1 x1 wk _ p hp
    have q := PostC.ext q x1
    simp only [Res.bind_ok] at q
    revert q
    generalize hm : noEx (mapR _ items) = mr
    intro q
    cases mr with
    | ex c fs => cases hh : mapR _ items <;> rw [hh] at hm <;> cases hm
    | bad => exact q.elim
    | ok yss =>
      have hm := noEx_ok hm
      simp only [Res.bind_ok] at q
      split at q
      · rename_i hl
        have ef : yss.flatMap (fun y => y) = yss.flatten := by rw [List.flatMap_def]; simp
        refine loop_core (total := yss.flatten) (ad0 := []) (av0 := []) (pr := fun y => y) (p := p) wk (Same.refl _) hm (by rw [ef]; rfl) hl (CSt.start x1.zh hp) ?_ fun Z2 H2 av s _ => ?_
        · intro d o hfd Z2 H2 av ad s zw hlen x H' Z' x2 rx Nx nx
          have s' := s.ext x2
          cases eb : bindT tg d (wipe Δ (tg ++ tg2)) with
          | none => rw [eb] at hfd; cases hfd
          | some Δ' =>
            rw [eb] at hfd
            simp only at hfd
            refine tg_read eb ((((hE.mono x1.zz).mono s.zz).mono x2.zz).wipe (tg ++ tg2)) rx x2.zh fun σ2 hE2 hw => ⟨?_, ?_⟩
            · rw [hw (tg ++ tg2) (fun _ h => List.mem_append.mpr (.inl h))]
              exact wipe_wipe fun _ h => h
            · refine ⟨Δ', Z', hE2, x2.zh, ?_⟩
              cases ec : evc Φ conds Δ' with
              | ex c fs => rw [ec] at hfd; cases hfd
              | bad => rw [ec] at hfd; cases hfd
              | ok b =>
                rw [ec] at hfd
                intro c Z3 H3 x3 rc
                obtain rfl : c = b := rc
                have s3 := s'.ext x3
                have zw3 := (zw.trans x2.zz).trans x3.zz
                cases c with
                | false =>
                  simp only [Res.bind_ok, Bool.false_eq_true, if_false] at hfd
                  injection hfd with hfd
                  subst hfd
                  exact nx Z3 H3 av (by simpa [prO] using s3) zw3
                | true =>
                  simp only [Res.bind_ok, if_true] at hfd
                  rw [← Res.bind_assoc] at hfd
                  refine ⟨Δ', Z3, hE2.mono x3.zz, x3.zh, ?_⟩
                  cases e2 : (evs Φ srcs2 Δ').bind (srcR sk2) with
                  | ex c fs =>
                    have e2' : ((evs Φ srcs2 Δ').bind fun ds2 => srcR sk2 ds2) = .ex c fs := e2
                    rw [e2'] at hfd; cases hfd
                  | bad =>
                    have e2' : ((evs Φ srcs2 Δ').bind fun ds2 => srcR sk2 ds2) = .bad := e2
                    rw [e2'] at hfd; cases hfd
                  | ok items2 =>
                    have e2' : ((evs Φ srcs2 Δ').bind fun ds2 => srcR sk2 ds2) = .ok items2 := e2
                    rw [e2'] at hfd
                    simp only [Res.bind_ok] at hfd
                    revert hfd
                    generalize hm2 : mapR _ items2 = mr2
                    intro hfd
                    cases mr2 with
                    | ex c fs => cases hfd
                    | bad => cases hfd
                    | ok ys2 =>
                      simp only [Res.bind_ok] at hfd
                      injection hfd with hfd
                      subst hfd
                      intro J1 Z4 H4 x4 wk2 _
                      have s4 := s3.ext x4
                      have ef2 : ys2.flatMap (fun y => [y]) = ys2 := by simp
                      have hlen2 : (ad ++ ys2).length ≤ LINE := by
                        rw [List.length_append]
                        exact hlen
                      refine loop_core (total := ad ++ ys2) (ad0 := ad) (av0 := av) (pr := fun y => [y]) (p := p) wk2 (Same.refl _) hm2 (by rw [ef2]) hlen2 s4 ?_ fun Z5 H5 av5 s5 zw5 => nx Z5 H5 av5 s5 ((zw3.trans x4.zz).trans zw5)
                      intro d2 o2 hfd2 Z5 H5 av5 ad5 s5 zw5 hlen5 y H6 Z6 x6 ry Nx1 nx1
                      have s6 := s5.ext x6
                      cases eb2 : bindT tg2 d2 (wipe Δ' tg2) with
                      | none => rw [eb2] at hfd2; cases hfd2
                      | some Δ2 =>
                        rw [eb2] at hfd2
                        simp only at hfd2
                        refine tg_read eb2 (((((hE2.mono x3.zz).mono x4.zz).mono zw5).mono x6.zz).wipe tg2) ry x6.zh fun σ3 hE3 hw3 => ⟨?_, ?_⟩
                        · rw [hw3 tg2 (fun _ h => h)]
                          exact wipe_wipe fun _ h => h
                        · refine ⟨Δ2, Z6, hE3, x6.zh, ?_⟩
                          cases ec2 : evc Φ conds2 Δ2 with
                          | ex c fs => rw [ec2] at hfd2; cases hfd2
                          | bad => rw [ec2] at hfd2; cases hfd2
                          | ok b2 =>
                            rw [ec2] at hfd2
                            intro c2 Z7 H7 x7 rc2
                            obtain rfl : c2 = b2 := rc2
                            have s7 := s6.ext x7
                            cases c2 with
                            | false =>
                              simp only [Res.bind_ok, Bool.false_eq_true, if_false] at hfd2
                              injection hfd2 with hfd2
                              subst hfd2
                              exact nx1 Z7 H7 av5 (by simpa [prO] using s7) ((zw5.trans x6.zz).trans x7.zz)
                            | true =>
                              simp only [Res.bind_ok, if_true] at hfd2
                              refine ⟨Δ2, Z7, hE3.mono x7.zz, x7.zh, ?_⟩
                              cases ed : ev Φ elt Δ2 with
                              | ex c fs => rw [ed] at hfd2; cases hfd2
                              | bad => rw [ed] at hfd2; cases hfd2
                              | ok yd =>
                                rw [ed] at hfd2
                                simp only [Res.bind_ok] at hfd2
                                injection hfd2 with hfd2
                                subst hfd2
                                intro v Z8 H8 x8 rv
                                have s8 := s7.ext x8
                                refine ⟨av5, s8.at_, ?_, nx1 Z8 _ _ (s8.push hp rv) (((zw5.trans x6.zz).trans x7.zz).trans x8.zz)⟩
                                have l1 := s8.rep.length
                                rw [LINE_eq] at hlen5
                                simp only [prO, List.length_singleton] at hlen5
                                omega
        · exact q _ _ _ _ _ _ (Ext.refl x1.zh) hp s
      · simp only [PostC_bad] at q
theorem gen_comp2 {sk : Sk} {tg : List Nat} {srcs conds : List E} {sk2 : Sk} {tg2 : List Nat} {srcs2 conds2 : List E} {elt : E} (ihs : SndA T W Φ k N srcs) (ihc : ∀ c ∈ conds, SndT T W Φ k N c) (ihs2 : SndA T W Φ k N srcs2) (ihc2 : ∀ c ∈ conds2, SndT T W Φ k N c) (ihe : SndE T W Φ k N elt) {sc : Scope} {ex : Expr} {X : Cx} {Wx : WX} (G : Good T W Φ k N sc X) (tk : Takes X Wx)
    (h : chkE T N sc (.comp2 sk tg srcs conds sk2 tg2 srcs2 conds2 elt) ex = true) : PE X ex (tC2 W Φ sk tg srcs conds sk2 tg2 srcs2 conds2 elt Wx) := by
  rw [chkE_comp2] at h
  split at h
  · rename_i el t i ifs t2 i2 ifs2 scope pos
    rw [Bool.and_eq_true] at h; obtain ⟨h1, h⟩ := h
    rw [Bool.and_eq_true] at h; obtain ⟨g1, h⟩ := h
    rw [Bool.and_eq_true] at h; obtain ⟨h2, h⟩ := h
    rw [Bool.and_eq_true] at h; obtain ⟨h3, h⟩ := h
    rw [Bool.and_eq_true] at h; obtain ⟨h4, h⟩ := h
    rw [Bool.and_eq_true] at h; obtain ⟨h5, h⟩ := h
    rw [Bool.and_eq_true] at h; obtain ⟨g4, h⟩ := h
    rw [Bool.and_eq_true] at h; obtain ⟨g5, h⟩ := h
    rw [Bool.and_eq_true] at h; obtain ⟨h6, h⟩ := h
    rw [Bool.and_eq_true] at h; obtain ⟨g6, h⟩ := h
    have hv : (ownOf t tg ++ ownOf t2 tg2).map (·.2) = tg ++ tg2 := by rw [List.map_append, own_snd h1, own_snd g1]
    have hpe := pe_lc2 (pos := pos) (vs1 := tg2) G.calm (by rw [G.hN]; exact G.nd) (snd_src ihs G tk h1 h4) (G.blkOk h2) (fun i hi => by rw [hv]; exact List.mem_append.mpr (.inr hi)) (fun s H C cl fp => pg_blk G h1 h3 (fun p hp => List.mem_append.mpr (.inl hp)) s H C cl fp)
      (fun s H C cl fp => snd_conds ihc (G.blk s H scope C cl fp) (takes0 : Takes _ W0) h5) (fun s H C cl fp => snd_src ihs2 (G.blk s H scope C cl fp) (takes0 : Takes _ W0) g1 g4) (fun s H C cl fp => pg_blk G g1 h3 (fun p hp => List.mem_append.mpr (.inr hp)) s H C cl fp) (fun s H C cl fp => snd_conds ihc2 (G.blk s H scope C cl fp) (takes0 : Takes _ W0) g5) (fun s H C cl fp => ihe (G.blk s H scope C cl fp) (takes0 : Takes _ W0) h) (fun x => noFold h6 _ x) (fun env x => noFold g6 env x)
    rw [hv] at hpe
    exact hpe.imp fun σ H Q q => comp2_read q
  · exact absurd h Bool.false_ne_true
theorem snd_comp2 {sk : Sk} {tg : List Nat} {srcs conds : List E} {sk2 : Sk} {tg2 : List Nat} {srcs2 conds2 : List E} {elt : E} (ihs : SndA T W Φ k N srcs) (ihc : ∀ c ∈ conds, SndT T W Φ k N c) (ihs2 : SndA T W Φ k N srcs2) (ihc2 : ∀ c ∈ conds2, SndT T W Φ k N c) (ihe : SndE T W Φ k N elt) : SndE T W Φ k N (.comp2 sk tg srcs conds sk2 tg2 srcs2 conds2 elt) := by
  intro sc ex X Wx G tk h
  refine (gen_comp2 ihs ihc ihs2 ihc2 ihe G tk h).imp fun σ H Q ⟨Δ, Z, hE, hz, q⟩ => ⟨Δ, Z, hE, hz, ?_⟩
  rw [ev_comp2C] at q
  cases e : evC2 Φ sk tg srcs conds sk2 tg2 srcs2 conds2 elt Δ with
  | ok ys =>
    rw [e] at q
    intro Z1 H1 p av Z' H' x hp s
    obtain ⟨m1, m2⟩ := s.fin hp
    exact q _ _ _ (x.trans m1) m2
  | ex c fs => rw [e] at q; exact q
  | bad => rw [e] at q; exact q
end
end R
end

section
set_option Elab.async false
set_option linter.all false
set_option maxRecDepth 100000
set_option maxHeartbeats 8000000
/-! R14: every expression. -/
namespace R
open PySem PySem.Spec PyProof.Rows L2
def plainT : Expr → Bool
  | .Name _ _ => true | .Constant _ _ _ => true | .Tuple _ _ _ => true | .List _ _ => true | .BinOp _ _ _ _ => true | .Subscript _ _ _ => true | .Call _ _ _ _ => true | .Attribute _ _ _ => true | .ListComp _ _ _ _ => true
  | _ => false
theorem plainT_is {e : Expr} (h : plainT e = true) (env : Env) (whole : Sem Value) : isTrue e env whole = (do let v ← whole; standAt e.pos; holding [v] (truthy v)) := by
  cases e <;> first | rfl | exact absurd h Bool.false_ne_true
/-- its text is of those forms -/
def leafE : E → Bool
  | .op _ _ _ => false | .un _ _ => false | .not _ => false | .and _ _ => false | .or _ _ => false | .ite _ _ _ => false | .meth _ _ _ _ => false | .prop _ _ _ => false
  | _ => true
section
variable {T : Th} {W : Wo} {Φ : Or} {k : Nat} {N : List PySem.Str}
theorem leaf_plain {sc : Scope} {e : E} {ex : Expr} (hl : leafE e = true) (h : chkE T N sc e ex = true) : plainT ex = true := by
  cases e <;> first | exact absurd hl Bool.false_ne_true | skip
  case bi b es =>
    rw [chkE_bi] at h
    cases b <;> cases ex <;> first | rfl | exact absurd h Bool.false_ne_true
  all_goals cases ex <;> first | rfl | exact absurd h Bool.false_ne_true
theorem leaf_noBool {sc : Scope} {e : E} (hl : (match e with | .and _ _ => false | .or _ _ => false | _ => true) = true) (o : BoolOp) (xs : List Expr) (p : Pos) : chkE T N sc e (.BoolOp o xs p) = false := by
  cases e <;> first | exact absurd hl Bool.false_ne_true | skip
  case bi b es => cases b <;> rfl
  all_goals rfl
theorem sndT_leaf {e : E} (hl : leafE e = true) (h : SndE T W Φ k N e) : SndT T W Φ k N e := fun G tk _ hc => pt_of (h G tk hc) (plainT_is (leaf_plain hl hc) _)
theorem sndW_none {e : E} (hl : (match e with | .and _ _ => false | .or _ _ => false | _ => true) = true) : SndW T W Φ k N e := fun {sc o xs p X Wx} _ _ _ hc => by
  rw [leaf_noBool hl] at hc
  exact absurd hc Bool.false_ne_true
structure Snd (T : Th) (W : Wo) (Φ : Or) (k : Nat) (N : List PySem.Str) (x : E) : Prop where
  e : SndE T W Φ k N x
  t : SndT T W Φ k N x
  w : SndW T W Φ k N x
theorem Snd.leaf {e : E} (hl : leafE e = true) (h : SndE T W Φ k N e) : Snd T W Φ k N e := ⟨h, sndT_leaf hl h, sndW_none (by cases e <;> first | rfl | exact hl)⟩
theorem Snd.none {e : E} (h : ∀ (sc : Scope) (ex : Expr), chkE T N sc e ex = false) : Snd T W Φ k N e :=
  ⟨fun {sc ex X Wx} _ _ hc => by rw [h] at hc; exact absurd hc Bool.false_ne_true, fun {sc ex X Wx} _ _ _ hc => by rw [h] at hc; exact absurd hc Bool.false_ne_true, fun {sc o xs p X Wx} _ _ _ hc => by rw [h] at hc; exact absurd hc Bool.false_ne_true⟩
mutual
theorem snd : ∀ e : E, Snd T W Φ k N e
  | .var i => .leaf rfl (snd_var i)
  | .non => .leaf rfl snd_non
  | .bl b => .leaf rfl (snd_bl b)
  | .int z => .leaf rfl (snd_int z)
  | .str s => .leaf rfl (snd_str s)
  | .tup es => .leaf rfl (snd_tup (SndA.es fun e h => (snds es e h).e))
  | .lst es => .leaf rfl (snd_lst (SndA.es fun e h => (snds es e h).e))
  | .op o a b => ⟨snd_op (snd a).e (snd b).e, sndT_op (snd a).e (snd b).e, sndW_none rfl⟩
  | .un o a => ⟨snd_un (snd a).e, sndT_un (snd a).e, sndW_none rfl⟩
  | .not a => ⟨snd_not (snd a).e, sndT_not (snd a).t, sndW_none rfl⟩
  | .and a b => ⟨snd_and (snd a).e (snd b).e, sndT_and (sndW_and (snd a).t (snd b).t (snd b).w), sndW_and (snd a).t (snd b).t (snd b).w⟩
  | .or a b => ⟨snd_or (snd a).e (snd b).e, sndT_or (sndW_or (snd a).t (snd b).t (snd b).w), sndW_or (snd a).t (snd b).t (snd b).w⟩
  | .ite c a b => ⟨snd_ite (snd c).t (snd a).e (snd b).e, fun {sc ex X Wx} _ _ hc => absurd hc Bool.false_ne_true, sndW_none rfl⟩
  | .idx a i => .leaf rfl (snd_idx (snd a).e (snd i).e)
  | .slc a l h => .leaf rfl (snd_slc (snd a).e (snd l).e (snd h).e)
  | .slo a l => .leaf rfl (snd_slo (snd a).e (snd l).e)
  | .shi a h => .leaf rfl (snd_shi (snd a).e (snd h).e)
  | .bi b es => .leaf rfl (snd_bi fun e h => (snds es e h).e)
  | .call f es => .leaf rfl (snd_call fun e h => (snds es e h).e)
  | .mk c f es df => .leaf rfl (snd_mk fun e h => (snds es e h).e)
  | .fld a c p => .leaf rfl (snd_fld (snd a).e)
  | .meth a c f es => .none fun _ _ => rfl
  | .prop a c f => .none fun _ _ => rfl
  | .bits a => .leaf rfl (snd_bits (snd a).e)
  | .comp sk tg srcs conds elt => .leaf rfl (snd_comp (fun e h => (snds srcs e h).e) (fun e h => (snds conds e h).t) (snd elt).e)
  | .comp2 sk tg srcs conds sk2 tg2 srcs2 conds2 elt => .leaf rfl (snd_comp2 (fun e h => (snds srcs e h).e) (fun e h => (snds conds e h).t) (fun e h => (snds srcs2 e h).e) (fun e h => (snds conds2 e h).t) (snd elt).e)
theorem snds : ∀ es : List E, ∀ e ∈ es, Snd T W Φ k N e
  | [], e, h => by cases h
  | x :: xs, e, h => (List.mem_cons.mp h).elim (fun q => q ▸ snd x) fun q => snds xs e q
end

/-! ### a list of the frame's own -/
/-- what is wanted behind a display or a comprehension that is bound as the frame's own list -/
def PostO (W : Wo) (Z H : Hp) (r : Res (List D)) (Q : VK) (E : XK) : Prop := match r with
  | .ok ds => ∀ p vs Z' H', Ext W Z H Z' H' → Z' p = none → H p = none → H' p = some (.lst vs) → RepL W Z' ds vs → Q (.ref p) H'
  | .ex c fs => ∀ dx Z' H', Ext W Z H Z' H' → ExcR W Z' H' c fs dx → E (.ref (W.xA c)) dx H'
  | .bad => False
theorem PostO_bad {Z H : Hp} {Q : VK} {E : XK} : PostO W Z H .bad Q E = False := rfl
/-- the list that e makes -/
def evO (Φ : Or) : E → List (Option D) → Res (List D)
  | .lst es, Δ => (evs Φ es Δ).bind fun ds => if ds.length ≤ LINE then .ok ds else .bad
  | .comp sk tg srcs conds elt, Δ => evC Φ sk tg srcs conds elt Δ
  | .bi .listR1 es, Δ => (evs Φ es Δ).bind fun ds => match ds with
    | [.int n] => if rngOk 0 n then .ok (rng 0 n) else .bad
    | _ => .bad
  | .bi .list es, Δ => (evs Φ es Δ).bind fun ds => match ds with
    | [.lst xs] => .ok xs
    | [.tup xs] => .ok xs
    | _ => .bad
  | _, _ => .bad
def tO (W : Wo) (Φ : Or) (e : E) (Wx : WX) : TE := fun σ H Q => ∃ Δ Z, EnvOk W Z σ Δ ∧ Zh W Z H ∧ PostO W Z H (evO Φ e Δ) Q fun c d H' => Wx c d σ H'
theorem post_new {Z H : Hp} {ds : List D} {Q : VK} {E : XK} {vs : List V} {p : Addr} (h : PostO W Z H (.ok ds) Q E) (z : Zh W Z H) (r : RepL W Z ds vs) (hp : H p = none) : Q (.ref p) (upd H p (.lst vs)) := by
  have zp : Z p = none := (Ext.refl z).none hp
  exact h p vs Z _ ⟨.of (same_upd hp), Same.refl _, z.hup hp, fun b o e => .inl e⟩ zp hp upd_same r
theorem PostO.ext {Z H Z1 H1 : Hp} {r : Res (List D)} {Q : VK} {E : XK} (h : PostO W Z H r Q E) (x : Ext W Z H Z1 H1) : PostO W Z1 H1 r Q E := by
  cases r with
  | ok d => exact fun p vs Z' H' y hp hq ha r => h p vs Z' H' (x.trans y) hp (x.hh.free hq) ha r
  | ex c fs => exact fun dx Z' H' y q => h dx Z' H' (x.trans y) q
  | bad => exact h
theorem PostO.bind {γ : Type} {Rp : Hp → List D → List V → Prop} {Z H : Hp} {r : Res (List D)} {f : List D → Res (List D)} {Q : VK} {E : XK} (h : PostO W Z H (r.bind f) Q E) : PostE W Rp Z H r (fun v H1 => ∃ d Z1, r = .ok d ∧ Ext W Z H Z1 H1 ∧ Rp Z1 d v ∧ PostO W Z1 H1 (f d) Q E) E := by
  cases r with
  | ok d => exact fun v Z' H' x q => ⟨d, Z', rfl, x, q, h.ext x⟩
  | ex c fs => exact h
  | bad => exact h
theorem own {e : E} {sc : Scope} {ex : Expr} {X : Cx} {Wx : WX} (G : Good T W Φ k N sc X) (tk : Takes X Wx) (h : chkE T N sc e ex = true) : PE X ex (tO W Φ e Wx) := by
  have none : (∀ Δ, evO Φ e Δ = .bad) → PE X ex (tO W Φ e Wx) := fun q => ((snd (T := T) (W := W) (Φ := Φ) (k := k) (N := N) e).e G tk h).imp fun σ H Q ⟨Δ, Z, _, _, r⟩ => by
    rw [q, PostO_bad] at r
    exact r.elim
  cases e <;> first | exact none fun _ => rfl | skip
  case lst es =>
    rw [chkE_lst] at h
    split at h
    · refine (pe_lst ((SndA.es fun e h => (snds es e h).e) G tk h).1).imp fun σ H Q ⟨Δ, Z, hE, hz, q⟩ => ?_
      unfold evO at q
      refine ⟨Δ, Z, hE, hz, (PostO.bind (γ := Unit) (Rp := RepL W) q).imp fun vs H1 ⟨ds, Z1, _, x, r, q1⟩ => ?_⟩
      split at q1
      · rename_i hl
        exact ⟨by rw [r.length]; exact sum_le_line hl, fun p hp => post_new q1 x.zh r hp⟩
      · exact q1.elim
    · exact absurd h Bool.false_ne_true
  case comp sk tg srcs conds elt =>
    refine (gen_comp (fun e h => (snds srcs e h).e) (fun e h => (snds conds e h).t) (snd elt).e G tk h).imp fun σ H Q ⟨Δ, Z, hE, hz, q⟩ => ⟨Δ, Z, hE, hz, ?_⟩
    have q : PostO W Z H (evC Φ sk tg srcs conds elt Δ) Q fun c d H' => Wx c d σ H' := q
    cases e : evC Φ sk tg srcs conds elt Δ with
    | ok ys =>
      rw [e] at q
      intro Z1 H1 p av Z' H' x hp s
      refine q p av Z' H' (x.trans ⟨s.hh, s.zz, s.zh, s.new⟩) s.zD (x.hh.free hp) s.at_ s.rep
    | ex c fs => rw [e] at q; exact q
    | bad => rw [e] at q; exact q
  case bi b es =>
    cases b <;> first | exact none fun _ => rfl | skip
    · rw [chkE_bi] at h
      simp only at h
      split at h
      · rename_i f p x xs pos
        rw [Bool.and_eq_true] at h; obtain ⟨h1, h⟩ := h
        rw [Bool.and_eq_true] at h; obtain ⟨h2, h⟩ := h
        rw [Bool.and_eq_true] at h; obtain ⟨h3, h⟩ := h
        have e := de (ba h1).1
        subst e
        obtain ⟨pa, hn⟩ := (SndA.es fun e h => (snds es e h).e) G tk h
        have hb : ("list" : PySem.Str) ∈ bNames := by decide +kernel
        obtain ⟨n1, n2⟩ := bnm hb
        refine (pe_callTy call_list_of (gl_of G.hsc h3) (G.blt _ hb) (by decide +kernel) pa n1 n2 (starEach_nst (hn x List.mem_cons_self) _ _) (any_star (fun y hy => hn y (List.mem_cons_of_mem _ hy)) _ _)).imp fun σ H Q ⟨Δ, Z, hE, hz, q⟩ => ?_
        unfold evO at q
        refine ⟨Δ, Z, hE, hz, (PostO.bind (γ := Unit) (Rp := RepL W) q).imp fun vs H1 ⟨ds, Z1, _, y, r, q1⟩ => ?_⟩
        split at q1
        · obtain ⟨v, rfl, g1⟩ := r.one
          simp only [Rep] at g1
          obtain ⟨a, us, rfl, g2, g3⟩ := g1
          exact ⟨a, us, rfl, .inl (SqL.of (y.zh _ _ g2)), fun p hp => post_new q1 y.zh g3 hp⟩
        · obtain ⟨v, rfl, g1⟩ := r.one
          simp only [Rep] at g1
          obtain ⟨a, us, rfl, g2, g3⟩ := g1
          exact ⟨a, us, rfl, .inr (by rw [G.hK]; exact sqT_mono y.zh g2), fun p hp => post_new q1 y.zh g3 hp⟩
        · exact q1.elim
      · exact absurd h Bool.false_ne_true
    · rw [chkE_bi] at h
      simp only at h
      split at h
      · rename_i f p g p2 x pos2 pos
        rw [Bool.and_eq_true] at h; obtain ⟨h1, h⟩ := h
        rw [Bool.and_eq_true] at h; obtain ⟨h2, h⟩ := h
        rw [Bool.and_eq_true] at h; obtain ⟨h3, h⟩ := h
        rw [Bool.and_eq_true] at h; obtain ⟨h4, h⟩ := h
        have e := de h1
        subst e
        have e := de h2
        subst e
        obtain ⟨e, rfl, hx, hc⟩ := chk_one h
        have px := (snd e).e G tk hc
        have hb : ("list" : PySem.Str) ∈ bNames := by decide +kernel
        have hr : ("range" : PySem.Str) ∈ bNames := by decide +kernel
        refine (pe_listRg G.calm (gl_of G.hsc h3) (G.blt _ hb) (prg_1 (gl_of G.hsc h4) (G.blt _ hr) px (starEach_nst hx _ _)) (starEach_nst rfl _ _)).imp fun σ H Q ⟨Δ, Z, hE, hz, q⟩ => ?_
        have q : PostO W Z H ((evs Φ [e] Δ).bind fun ds => match ds with
          | [.int n] => if rngOk 0 n then .ok (rng 0 n) else .bad
          | _ => .bad) Q fun c d H' => Wx c d σ H' := q
        refine ⟨Δ, Z, hE, hz, ?_⟩
        rw [evs_cons1, evs_l0] at q
        cases r : ev Φ e Δ with
        | ex c fs => rw [r] at q; exact q
        | bad => rw [r] at q; exact q
        | ok d =>
          rw [r] at q
          intro u Z1 H1 x1 rv
          have q1 := PostO.ext q x1
          simp only [Res.bind_ok] at q1
          cases d <;> simp only [PostO_bad] at q1
          rename_i n
          simp only [Rep] at rv
          refine ⟨n, rv, ?_⟩
          split at q1
          · rename_i ho
            simp only [rngOk, Bool.and_eq_true, decide_eq_true_eq] at ho
            obtain ⟨o1, o2, o3, o4, o5⟩ := ho
            refine ⟨⟨o1, o2, o3, o4, by rw [LINE_eq] at o5; exact o5⟩, fun p hp => post_new q1 x1.zh ?_ hp⟩
            have e3 : rng 0 n = ((List.range (n - 0).toNat).map fun i => (0 : Int) + (i : Nat)).map D.int := by unfold rng; rw [List.map_map]; rfl
            have e4 : rgV 0 n = ((List.range (n - 0).toNat).map fun i => (0 : Int) + (i : Nat)).map V.int := by unfold rgV; rw [List.map_map]; rfl
            rw [e3, e4]
            exact RepL.ofInts _
          · exact q1.elim
      · exact absurd h Bool.false_ne_true
end
end R
end

section
set_option Elab.async false
set_option linter.all false
set_option maxRecDepth 100000
set_option maxHeartbeats 4000000
/-! KM: a lambda is made; sorted(xs, key=lambda a: (y[a], a)). -/
namespace R
open PySem PySem.Spec PyProof.Rows L2

/-- where a def's lambdas are told: its code object, the table -/
structure LamF (W : Wo) (X : Cx) (c P : Addr) : Prop where
  code : X.env.code = .ref c
  mem : (P, X.env.qual ++ "<lambda>") ∈ W.tb
  uni : ∀ p ∈ W.tb, p.1 = P → p.2 = X.env.qual ++ "<lambda>"
  tab : LamX.TabB X.base X.mg c P
section
variable {W : Wo} {X : Cx} {pins : List (Addr × Obj)} {σ : L2.St} {H : Hp} {s : Shared} {c P : Addr}
/-- the lambda is made -/
theorem lam_mk (F : LamF W X c P) (I : Inv X pins σ H s) {Z : Hp} (z : Zh W Z H) {params : Arguments} {body : Expr} {scope : Scope} {pos : Pos} {E : Value → Shared → Prop} {Q : Value → Shared → Prop}
    (hdef : defaultsOf params X.env = ([], [])) (hfree : ∀ y ∈ scope.names, y.2 = .free → ∃ c, X.env.cells.lookup y.1 = some c)
    (h : ∀ (f c' : Addr) (pm ctv : Value) (H1 : Hp) (s' : Shared), Inv X pins σ H1 s' → Grow H H1 → Zh W Z H1 → s'.heap.get? f = some (PySem.W.kla_obj "<lambda>" (X.env.qual ++ "<lambda>") params body scope (cloFrom X.env.cells scope.names []) pm c' ctv) →
      (∃ (oc : Obj) (vs : Array Value) (t : Tok), s'.heap.get? c' = some oc ∧ oc.data = .fields vs ∧ vs[1]? = some (.str (X.env.qual ++ "<lambda>") t)) → Q (.ref f) s') :
    wpAny (model X.prog X.w) X.A (eval (.Lambda params body scope pos) X.env) Q E s := by
  obtain ⟨ps, hP, ht, ha⟩ := z.tab _ F.mem
  have TB := F.tab
  refine PySem.W.kla_eval hdef ?_
  have bP : s.heap.BuiltinsAt X.mg P := TB.bm.keeps I.bk
  have hP' : s.heap.get? P = some { cls := .none, data := .fields ps } := I.hok P _ hP
  cases hc : codeAmong pos ps.toList with
  | some cv =>
    obtain ⟨c', e, hco⟩ := ha pos cv hc
    subst e
    refine PySem.W.kla_makeFunctionHit (mg := X.mg) (c := c) (P := P) (ps := ps) (closure_ok hfree) I.ok.glob (I.mod.glob.keeps I.bk) F.code (TB.code.keeps I.bk) hP' ht hc bP fun ctv h' tk hx hsz => ?_
    have kp : ∀ b o, s.heap.get? b = some o → (h'.push (PySem.W.kla_obj "<lambda>" (X.env.qual ++ "<lambda>") params body scope (cloFrom X.env.cells scope.names []) ((X.mg "__name__").getD .none) c' ctv)).get? b = some o := fun b o e => Heap.get?_push_of_some _ (hx b o e)
    obtain ⟨⟨oc, vs, t, q1, q2, q3⟩, _⟩ := I.hok _ _ hco
    exact h _ c' _ ctv H _ (I.kept kp) (Grow.refl _) z (Heap.get?_push_size _ rfl) ⟨oc, vs, t, kp _ _ q1, q2, q3⟩
  | none =>
    refine PySem.W.kla_makeFunction (mg := X.mg) (c := c) (P := P) (ps := ps) (closure_ok hfree) I.ok.glob (I.mod.glob.keeps I.bk) F.code (TB.code.keeps I.bk) hP' ht hc TB.gP bP fun c' ctv h' tk hx hge hlt hrec htb => ?_
    obtain ⟨c2, oc, vs, t, e2, hoc, hd, hv⟩ := hrec
    cases e2
    have nC : H c' = none := I.hok.fresh hge
    have nPc : P ≠ c' := ne_of_none hP nC
    have I1 := LamX.inv_table (t' := tk) (more := #[rawInt pos.line, rawInt pos.col, .ref c']) (h' := h'.push (PySem.W.kla_obj "<lambda>" (X.env.qual ++ "<lambda>") params body scope (cloFrom X.env.cells scope.names []) ((X.mg "__name__").getD .none) c' ctv)) I hP
      (fun b o hb e => Heap.get?_push_of_some _ (hx b o hb e)) (Heap.get?_push_of_some _ htb) hge ⟨oc, vs, t, Heap.get?_push_of_some _ hoc, hd, hv⟩
    have at_ : ∀ b, b ≠ P → b ≠ c' → upd (upd H P (.tbl (ps ++ #[rawInt pos.line, rawInt pos.col, .ref c']))) c' (LamX.CodeO c' (X.env.qual ++ "<lambda>")) b = H b := fun b h1 h2 => by rw [upd_ne h2, upd_ne h1]
    have old : ∀ b u, H b = some u → (∀ q, u ≠ .tbl q) → upd (upd H P (.tbl (ps ++ #[rawInt pos.line, rawInt pos.col, .ref c']))) c' (LamX.CodeO c' (X.env.qual ++ "<lambda>")) b = some u := fun b u e n => by
      rw [at_ b (fun q => by rw [q, hP] at e; injection e with e; exact n _ e.symm) (ne_of_none e nC)]; exact e
    have g : Grow H (upd (upd H P (.tbl (ps ++ #[rawInt pos.line, rawInt pos.col, .ref c']))) c' (LamX.CodeO c' (X.env.qual ++ "<lambda>"))) := ⟨old, fun {b} e => by
      by_cases h1 : b = c'
      · rw [h1]; exact nC
      · by_cases h2 : b = P
        · rw [h2, upd_ne nPc, upd_same] at e; cases e
        · rw [at_ b h2 h1] at e; exact e⟩
    have eL : (ps ++ #[rawInt pos.line, rawInt pos.col, .ref c']).toList = ps.toList ++ [rawInt pos.line, rawInt pos.col, .ref c'] := by simp
    refine h h'.objs.size c' _ ctv _ _ I1 g ⟨fun b u e => ?_, fun p hp => ?_, z.out⟩ (Heap.get?_push_size _ rfl) ⟨oc, vs, t, Heap.get?_push_of_some _ hoc, hd, hv⟩
    · rw [at_ b (fun q => by rw [q, z.out _ F.mem] at e; cases e) (ne_of_none (z.sub _ _ e) nC)]
      exact z.sub _ _ e
    · by_cases hb : p.1 = P
      · rw [F.uni p hp hb, hb]
        refine ⟨_, by rw [upd_ne nPc, upd_same], by rw [eL]; exact PySem.TriplesOk_snoc _ _ _ _ ht, fun p' cv hcv => ?_⟩
        rw [eL] at hcv
        rcases LamX.among_app _ ht hcv with q | q
        · obtain ⟨c0, e1, e2⟩ := ha p' cv q
          exact ⟨c0, e1, old _ _ e2 LamX.codeO_ne⟩
        · exact ⟨c', q, upd_same⟩
      · exact (z.tab p hp).go (fun qs e => by rw [at_ _ hb (ne_of_none e nC)]; exact e) fun c0 e => old _ _ e LamX.codeO_ne
end
/-! ### sorted(xs, key=lambda a: (y[a], a)) -/
def kLe (x : Int → Int) (p q : Int) : Bool := decide (x p < x q ∨ (x p = x q ∧ p ≤ q))
def srtR (neg : Bool) (d : D) (o : Option D) : Res D := match d with
  | .lst ds => match D.ints ds, o.bind intsOf with
    | some ns, some ks => if ns.all fun n => decide (0 ≤ n) && decide (n < ks.length) then .ok (.lst ((ns.mergeSort (kLe fun n => kNum neg (ks.getD n.toNat 0))).map .int)) else .bad
    | _, _ => .bad
  | _ => .bad
def kOf : Expr → Option (Bool × PySem.Str × PySem.Str)
  | .Tuple [.UnaryOp .USub (.Subscript (.Name y _) (.Name a _) _) _, .Name b _] 0 _ => if a = b then some (true, y, a) else none
  | .Tuple [.Subscript (.Name y _) (.Name a _) _, .Name b _] 0 _ => if a = b then some (false, y, a) else none
  | _ => none
theorem kOf_eq {e : Expr} {neg : Bool} {y a : PySem.Str} (h : kOf e = some (neg, y, a)) : ∃ p1 p2 p3 p4 p5 p6, e = kBody neg y a p1 p2 p3 p4 p5 p6 := by
  unfold kOf at h
  split at h
  · split at h
    · rename_i e0
      injection h with h; injection h with h1 h2; injection h2 with h2 h3
      subst h1 h2 h3
      subst e0
      exact ⟨_, _, _, _, _, _, rfl⟩
    · cases h
  · split at h
    · rename_i e0
      injection h with h; injection h with h1 h2; injection h2 with h2 h3
      subst h1 h2 h3
      subst e0
      exact ⟨_, _, _, default, _, _, rfl⟩
    · cases h
  · cases h
def kscB (sc s2 : Scope) (a y : PySem.Str) : Bool := (match s2.kind with | .function => true | _ => false) && (!s2.isCoroutine && (!s2.isGenerator && (s2.names.all (fun x => match x.2 with | .cell => false | .free => (match sc.names.lookup x.1 with | some .cell => true | _ => false) | _ => true) && ((match s2.names.lookup a with | some .local => true | _ => false) && (match s2.names.lookup y with | some .free => true | _ => false)))))
def lamB (sc : Scope) (neg : Bool) (y : PySem.Str) : Expr → Bool
  | .Lambda params body s2 _ => match kOf body with
    | some (n', y', a) => (n' == neg) && (decide (y' = y) && (parK a params && (kscB sc s2 a y && (plainNm a && plainNm y))))
    | none => false
  | _ => false
theorem ksc_of {sc s2 : Scope} {a y : PySem.Str} (h : kscB sc s2 a y = true) : KSc s2 a y ∧ ∀ x ∈ s2.names, x.2 = .free → sc.names.lookup x.1 = some .cell := by
  unfold kscB at h
  obtain ⟨h1, h⟩ := ba h
  obtain ⟨h2, h⟩ := ba h
  obtain ⟨h3, h⟩ := ba h
  obtain ⟨h4, h⟩ := ba h
  obtain ⟨h5, h6⟩ := ba h
  rw [List.all_eq_true] at h4
  refine ⟨⟨?_, by simpa using h2, by simpa using h3, fun x hx e => ?_, ?_, ?_⟩, fun x hx e => ?_⟩
  · split at h1
    · assumption
    · cases h1
  · have q := h4 x hx
    rw [e] at q
    cases q
  · split at h5
    · assumption
    · cases h5
  · split at h6
    · assumption
    · cases h6
  · have q := h4 x hx
    rw [e] at q
    simp only at q
    split at q
    · assumption
    · cases q
theorem vals_is : ∀ {ns : List Int} {us : List Value}, Vals (ns.map V.int) us → PySem.W.EachIs (fun (v : Value) (n : Int) => ∃ t, v = .int n t) us ns
  | [], us, h => by
    have := h.length
    cases us with
    | nil => exact .nil
    | cons u us => simp at this
  | n :: ns, us, h => by
    cases h with
    | cons r t => exact .cons r (vals_is t)
theorem is_vals : ∀ {ns : List Int} {us : List Value}, PySem.W.EachIs (fun (v : Value) (n : Int) => ∃ t, v = .int n t) us ns → Vals (ns.map V.int) us
  | _, _, .nil => .nil
  | _, _, .cons r t => .cons r (is_vals t)
section
variable {T : Th} {W : Wo} {Φ : Or} {k : Nat} {N : List PySem.Str} {sc : Scope} {X : Cx} {Wx : WX}
def tSrt (W : Wo) (Φ : Or) (e : E) (y : Nat) (neg : Bool) (Wx : WX) : TE := fun σ H Q => ∃ Δ Z, EnvOk W Z σ Δ ∧ Zh W Z H ∧ PostE W (Rep W) Z H ((ev Φ e Δ).bind fun d => srtR neg d ((Δ[y]?).bind id)) Q fun c d H' => Wx c d σ H'
theorem pe_srt {c P : Addr} (G : Good T W Φ k N sc X) (tk : Takes X Wx) (F : LamF W X c P) {e : E} {y : Nat} {neg : Bool} {yn : PySem.Str} {src lam : Expr} {p kp pos : Pos} (he : chkE T N sc e src = true) (hs : nst src = true) (hg : glB sc "sorted" = true) (hl : lamB sc neg yn lam = true) (hy : N[y]? = some yn) (hc : sc.names.lookup yn = some .cell) :
    PE X (.Call (.Name "sorted" p) [src] [⟨some "key", lam, kp⟩] pos) (tSrt W Φ e y neg Wx) := by
  refine ⟨fun pins s σ H Q I h => ?_⟩
  obtain ⟨Δ, Z, hE, hz, q⟩ := h
  refine wpAny_Call_Name_kw (ld_blt (u := Value.builtin "sorted") I (gl_of G.hsc hg) (G.blt "sorted" (by decide +kernel)) (by decide +kernel) ?_ (by decide) (by decide))
  refine PyProof.Rows.callWith_kw ?_ ((congrArg (backTo pos) (starEach_nst hs [] X.env)).trans rfl) (any_star (fun z hz => by rw [List.mem_singleton] at hz; rw [hz]; exact hs) _ _)
  rw [starEach_nst hs]
  show wpAny _ _ (spliced [(false, eval src X.env)]) _ _ _
  refine Calls.spliced_cons (thn (((snd (T := T) (W := W) (Φ := Φ) (k := k) (N := N) e).e G tk he).run pins s σ H _ I (tE_bind hE hz q)) fun u s1 ⟨v, H1, I1, r1, d, Z1, x1, rv, q1⟩ => Calls.spliced_nil ?_)
  cases lam with
  | Lambda params body s2 lpos =>
    simp only [lamB] at hl
    cases ek : kOf body with
    | none => rw [ek] at hl; cases hl
    | some w =>
      obtain ⟨n', y', a⟩ := w
      rw [ek] at hl
      simp only at hl
      obtain ⟨l1, hl⟩ := ba hl
      obtain ⟨l2, hl⟩ := ba hl
      obtain ⟨l3, hl⟩ := ba hl
      obtain ⟨l4, hl⟩ := ba hl
      obtain ⟨l5, l6⟩ := ba hl
      have l1 : n' = neg := by simpa using l1
      have l2 := de l2
      subst l1; subst l2
      obtain ⟨p1, p2, p3, p4, p5, p6, rfl⟩ := kOf_eq ek
      obtain ⟨S, hfr⟩ := ksc_of l4
      obtain ⟨da, _⟩ := plainNm_of l5
      obtain ⟨dy, cy⟩ := plainNm_of l6
      have hfree : ∀ z ∈ s2.names, z.2 = .free → ∃ c, X.env.cells.lookup z.1 = some c := fun z hz e => I1.ok.has _ (.inl (by show X.env.scope.names.lookup z.1 = _; rw [G.hsc]; exact hfr z hz e))
      have hdef : defaultsOf params X.env = ([], []) := by
        unfold parK at l3
        split at l3
        · rfl
        · cases l3
      show wpAny _ _ (evalAll [(do let v ← eval (.Lambda params (kBody n' y' a p1 p2 p3 p4 p5 p6) s2 lpos) X.env; standAt pos; pure v)]) _ _ s1
      refine wpAny_evalAll_cons (wpAny_bind (lam_mk F I1 x1.zh hdef hfree fun f c' pm ctv H2 s' I2 gr z2 hf hco => wpAny_bind (wpAny_standAt (wpAny_pure (wpAny_evalAll_nil ?_)))))
      -- what is told
      cases d with
      | lst ds =>
        simp only [srtR] at q1
        split at q1
        · rename_i ns ks e1 e2
          split at q1
          · rename_i hall
            rw [List.all_eq_true] at hall
            cases ey : Δ[y]? with
            | none => rw [ey] at e2; cases e2
            | some o =>
              cases o with
              | none => rw [ey] at e2; cases e2
              | some dk =>
                rw [ey] at e2
                have e2 : intsOf dk = some ks := e2
                obtain ⟨w, ew, rw'⟩ := hE.2 y dk ey
                obtain ⟨py, rfl, hsq⟩ := sqI_of (X := X) G.hK.symm.symm z2 (rw'.mono x1.zz) e2
                obtain ⟨itY, hrv, hat⟩ : ∃ its : List Value, Vals (ks.map V.int) its ∧ SeqAt s'.heap py its := by
                  rcases hsq with hsq | hsq
                  · obtain ⟨its, rv, hl, _⟩ := I2.list hsq
                    exact ⟨its, rv, .inr hl.isList⟩
                  · obtain ⟨its, rv, hl, _⟩ := I2.tuple hsq
                    exact ⟨its, rv, .inl hl⟩
                simp only [Rep] at rv
                obtain ⟨l, us, rfl, hl1, hl2⟩ := rv
                obtain rfl := hl2.ints e1
                obtain rfl : u = Value.ref l := r1
                obtain ⟨its, rvl, hil, hz9⟩ := I2.list (SqL.of (z2 _ _ hl1))
                obtain ⟨m, hm, hlk⟩ := I2.loc
                obtain ⟨uy, ruy, lky⟩ := hlk y y' (.ref py) (by rw [G.hN]; exact hy) ew (by rw [G.hsc]; exact .inr (.inl hc))
                obtain rfl : uy = Value.ref py := ruy
                obtain ⟨cy', hcy, hcell⟩ : ∃ c, X.env.cells.lookup y' = some c ∧ s'.heap.IsCell c (some (.ref py)) := by
                  rcases lky with ⟨h1, _⟩ | ⟨_, c, h1, h2⟩
                  · have h1 : X.env.scope.names.lookup y' = some .local := h1
                    rw [G.hsc, hc] at h1
                    cases h1
                  · exact ⟨c, h1, h2⟩
                have hclo : (cloFrom X.env.cells s2.names []).lookup y' = some cy' := by
                  have hy : (y', NameKind.free) ∈ s2.names := PySem.mem_of_lookup S.y_
                  obtain ⟨c1, e1⟩ := mem_lookup (cloFrom_has (cells := X.env.cells) (acc := []) hy)
                  rw [e1]
                  rcases cloFrom_mem (PySem.mem_of_lookup e1) with hm | ⟨h1, h2⟩
                  · cases hm
                  · rw [h2, hcy] <;> rfl
                have lenS : ns.length ≤ sizeLine := by rw [List.length_map] at hz9; exact hz9
                have lenK : ks.length ≤ sizeLine := by
                  have : ks.length = itY.length := by rw [← hrv.length, List.length_map]
                  rw [this]
                  rcases hsq with hsq | hsq
                  · obtain ⟨_, rv3, _, hz3⟩ := I2.list hsq
                    have := hrv.length
                    omega
                  · obtain ⟨_, rv3, _, hz3⟩ := I2.tuple hsq
                    have := hrv.length
                    omega
                have sl : sizeLine < 2 ^ 63 := by decide
                refine PySem.W.sorted_key_data (s := s') (b := false) (fun n : Int => PyData.tuple [.int (kNum n' (ks.getD n.toNat 0)), .int n]) hil.isList (vals_is rvl) ?_ ?_ lenS ?_ (PyProof.Rows.ksk_s1 _ _) (fun _ => PyProof.Rows.ksk_l1 _ _) (fun x => PyProof.Rows.ksk_t1 f x) ?_ ?_
                · intro d1 m1 d2 m2
                  obtain ⟨n1, _, rfl⟩ := List.mem_map.mp m1
                  obtain ⟨n2, _, rfl⟩ := List.mem_map.mp m2
                  rfl
                · refine .inl fun d1 m1 => ?_
                  obtain ⟨n1, _, rfl⟩ := List.mem_map.mp m1
                  exact ⟨_, _, rfl⟩
                · intro n _
                  have := G.room.un
                  show X.A.units + 2 + (PyData.tuple [.int (kNum n' (ks.getD n.toNat 0)), .int n]).depth < cLine
                  have : (PyData.tuple [.int (kNum n' (ks.getD n.toNat 0)), .int n]).depth ≤ 4 := by
                    simp [PyData.depth, PyData.depthAll]
                  omega
                · rintro v n ⟨t, rfl⟩ hn h3 tk3 kp
                  have hb := hall n hn
                  rw [Bool.and_eq_true, decide_eq_true_eq, decide_eq_true_eq] at hb
                  obtain ⟨w1, hw, rw1⟩ := hrv.get (i := n.toNat) (x := V.int (ks.getD n.toNat 0)) (by rw [List.getElem?_map, List.getD_eq_getElem?_getD, List.getElem?_eq_getElem (by omega)]; rfl)
                  obtain ⟨t2, rfl⟩ := rw1
                  obtain ⟨oc, vsc, tc, q1', q2', q3'⟩ := hco
                  have hcl2 : h3.IsCell cy' (some (.ref py)) := by
                    obtain ⟨o, e, d⟩ := hcell
                    exact ⟨o, kp _ _ e, d⟩
                  exact key_call (A := X.A.in1.in1) (s := { s' with heap := h3, toks := tk3 }) G.room.depth (kp _ _ hf) ⟨oc, vsc, tc, kp _ _ q1', q2', q3'⟩ (I2.nolimit.keeps kp) l3 S hclo hcl2 (hat.keeps kp) hb.1 (by omega) hw da dy cy
                · intro out c2 h3 tk3 kp hnone hout hol heach
                  rw [PySem.W.dataLe_ii] at heach
                  have hv := is_vals heach
                  have hp : H2 (s'.heap.objs.size + 1) = none := I2.hok.fresh (Nat.le_succ _)
                  refine ⟨.ref (s'.heap.objs.size + 1), upd H2 (s'.heap.objs.size + 1) (.lst ((ns.mergeSort (kLe fun n => kNum n' (ks.getD n.toNat 0))).map .int)), I2.laid (t' := tk3) kp (Nat.le_succ _) ⟨?_, out, c2, hv, hout⟩, rfl, ?_⟩
                  · rw [List.length_map, List.length_mergeSort]; exact lenS
                  · have q2 := PostE.ext q1 (Z1 := Z1) (H1 := H2) ⟨gr, Same.refl _, z2, fun a o e => .inl e⟩
                    exact post_lst q2 z2 (RepL.ofInts _) hp
          · exact q1.elim
        · exact q1.elim
      | _ => exact q1.elim
  | _ => cases hl
end
end R
end

section
set_option Elab.async false
set_option linter.all false
set_option maxRecDepth 100000
set_option maxHeartbeats 4000000
/-! R15: statements: the compact form, its plain meaning, the check against the text. -/
namespace R
open PySem PySem.Spec PyProof.Rows L2

/-! ### the state: slots, and the frame's own lists -/
inductive SV where
  | sh (d : D) | loc (n : Nat)
inductive Cell where
  | ls (xs : List SV) | dead
structure PSt where
  g : List (Option SV)
  m : List Cell
def optL {α β : Type} (f : α → Option β) : List α → Option (List β)
  | [] => some []
  | x :: xs => match f x with
    | some y => match optL f xs with
      | some ys => some (y :: ys)
      | none => none
    | none => none
/-- what a value is, read now -/
def den (m : List Cell) : Nat → SV → Option D
  | _, .sh d => some d
  | 0, .loc _ => none
  | n + 1, .loc k => match m[k]? with
    | some (.ls xs) => match optL (den m n) xs with
      | some ds => some (.lst ds)
      | none => none
    | _ => none
def snapO (m : List Cell) : Option SV → Option D
  | some v => den m 4 v
  | none => none
def snap (s : PSt) : List (Option D) := s.g.map (snapO s.m)
def maskO : Option SV → Option D
  | some (.sh d) => some d
  | _ => none
def mask (s : PSt) : List (Option D) := s.g.map maskO
/-- the value goes out of the frame (or is read only from then on): its cells are given up -/
def foldT {α β : Type} (f : List Cell → α → Option (β × List Cell)) (m : List Cell) : List α → Option (List β × List Cell)
  | [] => some ([], m)
  | x :: xs => match f m x with
    | some (t, m') => match foldT f m' xs with
      | some (ts, m2) => some (t :: ts, m2)
      | none => none
    | none => none
def toT : Nat → List Cell → SV → Option (T × List Cell)
  | _, m, .sh d => some (.sh d, m)
  | 0, _, .loc _ => none
  | n + 1, m, .loc k => match m[k]? with
    | some (.ls xs) => match foldT (toT n) (m.set k .dead) xs with
      | some (ts, m') => some (.ow ts, m')
      | none => none
    | _ => none
/- a value comes in -/
mutual
def alT (m : List Cell) : T → SV × List Cell
  | .sh d => (.sh d, m)
  | .ow ts => (.loc (alTs m ts).2.length, (alTs m ts).2 ++ [.ls (alTs m ts).1])
def alTs (m : List Cell) : List T → List SV × List Cell
  | [] => ([], m)
  | t :: ts => ((alT m t).1 :: (alTs (alT m t).2 ts).1, (alTs (alT m t).2 ts).2)
end

inductive Out where
  | nx (s : PSt) | bk (s : PSt) | ct (s : PSt) | rt (t : T) | ex (c : Nat) (fs : List D) (s : PSt) | bad
def onR {α : Type} (r : Res α) (s : PSt) (f : α → Out) : Out := match r with
  | .ok a => f a
  | .ex c fs => .ex c fs s
  | .bad => .bad
def Out.nxt (o : Out) (f : PSt → Out) : Out := match o with
  | .nx s => f s
  | o => o
@[simp] theorem onR_ok {α : Type} (a : α) (s : PSt) (f : α → Out) : onR (.ok a) s f = f a := rfl
@[simp] theorem Out.nxt_nx (s : PSt) (f : PSt → Out) : (Out.nx s).nxt f = f s := rfl
@[simp] theorem Out.nxt_rt (t : T) (f : PSt → Out) : (Out.rt t).nxt f = .rt t := rfl
@[simp] theorem Out.nxt_bk (s : PSt) (f : PSt → Out) : (Out.bk s).nxt f = .bk s := rfl
@[simp] theorem Out.nxt_ct (s : PSt) (f : PSt → Out) : (Out.ct s).nxt f = .ct s := rfl
@[simp] theorem Out.nxt_bad (f : PSt → Out) : Out.bad.nxt f = .bad := rfl
@[simp] theorem Out.nxt_ex (c : Nat) (fs : List D) (s : PSt) (f : PSt → Out) : (Out.ex c fs s).nxt f = .ex c fs s := rfl

inductive S where
  /-- x = e, the frame's own lists out of sight -/
  | set (i : Nat) (e : E)
  /-- x = e, no list within the value -/
  | setc (i : Nat) (e : E)
  /-- x = [..], the frame's own -/
  | own (i : Nat) (e : E)
  /-- x = f(..), its lists the frame's own -/
  | ownT (i f : Nat) (es : List E)
  /-- x = y -/
  | mv (i j : Nat)
  /-- x = y[e], a list in an own list -/
  | al (i j : Nat) (e : E)
  /-- the name's own list is read only from then on (nothing of the text) -/
  | frz (i : Nat)
  /-- the own lists told anew in the order of the names (nothing of the text) -/
  | gc
  /-- names that are forgotten (nothing of the text) -/
  | frg (vs : List Nat)
  /-- x = [..], the frame's own, the frame's own lists out of sight -/
  | ownM (i : Nat) (e : E)
  | appM (j : Nat) (e : E)
  /-- x = y.pop(e) -/
  | popA (i j : Nat) (e : E)
  /-- y.pop() -/
  | popE (j : Nat)
  /-- return [..], the caller's own from then on -/
  | retO (e : E)
  /-- x, y = a list of two -/
  | unpL (i j : Nat) (e : E)
  /-- the body of __init__: the fields behind b -/
  | ini (b : List S) (c : Nat) (es : List E)
  | app (j : Nat) (e : E) | appV (j i : Nat) | setI (j : Nat) (ie e : E) | aug (i : Nat) (o : O2) (e : E)
  | unp (i j : Nat) (e : E)
  /-- x = sorted(e, key=lambda a: (y[a], a)) -/
  | srt (i : Nat) (e : E) (y : Nat) (neg : Bool)
  | srtR (e : E) (y : Nat) (neg : Bool)
  /-- x.append(f(e1, z.pop(e2))) -/
  | appP (j f : Nat) (e1 : E) (k : Nat) (e2 : E)
  | ret (e : E) | retN | retV (i : Nat)
  | ifs (c : E) (a b : List S) | whl (c : E) (b : List S) (vs : List Nat) | fr (sk : Sk) (tg : List Nat) (srcs : List E) (b : List S) (vs : List Nat)
  | expr (e : E) | pass | brk | cnt | never

def setS (s : PSt) (i : Nat) (v : SV) : PSt := ⟨s.g.set i (some v), s.m⟩
def wipeS (g : List (Option SV)) : List Nat → List (Option SV)
  | [] => g
  | v :: vs => (wipeS g vs).set v none
def SV.lt (n : Nat) : SV → Bool
  | .sh _ => true
  | .loc k => decide (k < n)
def ltO (n : Nat) : Option SV → Bool
  | some v => v.lt n
  | none => true
def Cell.lt (n : Nat) : Cell → Bool
  | .ls xs => xs.all (SV.lt n)
  | .dead => true
/-- a turn's end: the names vs are forgotten, and the cells behind the first n -/
def tidy (vs : List Nat) (n : Nat) (s : PSt) : Option PSt :=
  if s.m.length = n then some ⟨wipeS s.g vs, s.m⟩
  else if (wipeS s.g vs).all (ltO n) && (s.m.take n).all (Cell.lt n) then some ⟨wipeS s.g vs, s.m.take n⟩ else none
def bindS (tg : List Nat) (d : D) (s : PSt) : Option PSt := match tg with
  | [i] => some (setS s i (.sh d))
  | [i, j] => match d with
    | .tup [a, b] => some (setS (setS s i (.sh a)) j (.sh b))
    | _ => none
  | _ => none
/-- a turn's end, then on -/
def nextTurn (vs : List Nat) (n : Nat) (o : Out) (f : PSt → Out) : Out := match o with
  | .nx s => match tidy vs n s with
    | some s' => f s'
    | none => .bad
  | .ct s => match tidy vs n s with
    | some s' => f s'
    | none => .bad
  | .bk s => .nx s
  | .rt t => .rt t
  | .ex c fs s => .ex c fs s
  | .bad => .bad
def forR (vs : List Nat) (n : Nat) (b : D → PSt → Out) : List D → PSt → Out
  | [], s => .nx s
  | x :: xs, s => nextTurn vs n (b x s) (forR vs n b xs)
def whlR (vs : List Nat) (n : Nat) (c : PSt → Res Bool) (b : PSt → Out) : Nat → PSt → Out
  | 0, _ => .bad
  | k + 1, s => onR (c s) s fun t => if t then nextTurn vs n (b s) (whlR vs n c b k) else .nx s
open Classical in
noncomputable def whlO (vs : List Nat) (n : Nat) (c : PSt → Res Bool) (b : PSt → Out) (s : PSt) : Out := if h : ∃ k, whlR vs n c b k s ≠ .bad then whlR vs n c b (choose h) s else .bad
def augR : O2 → Option D → D → Res D
  | o, some d, y => op2 o d y
  | _, none, _ => .bad
def slotV (s : PSt) (i : Nat) : Option SV := match s.g[i]? with
  | some (some v) => some v
  | _ => none
/-- the own list that the slot names -/
def cellOf (s : PSt) (j : Nat) : Option (Nat × List SV) := match slotV s j with
  | some (.loc k) => match s.m[k]? with
    | some (.ls xs) => some (k, xs)
    | _ => none
  | _ => none
def setM (s : PSt) (k : Nat) (xs : List SV) : PSt := ⟨s.g, s.m.set k (.ls xs)⟩
def isAug : O2 → Bool
  | .add => true | .sub => true | .mul => true
  | _ => false
def isInt : D → Bool
  | .int _ => true
  | _ => false
def shOf : SV → Option D
  | .sh d => some d
  | .loc _ => none
def frzS (i : Nat) (s : PSt) : Out := match slotV s i with
  | some (.loc k) => match s.m[k]? with
    | some (.ls xs) => match optL shOf xs with
      | some ds => .nx ⟨s.g.set i (some (.sh (.lst ds))), s.m.set k .dead⟩
      | none => .bad
    | _ => .bad
  | _ => .nx s
def ixOf : List Nat → Nat → Option Nat
  | [], _ => none
  | x :: xs, k => if x = k then some 0 else (ixOf xs k).map (· + 1)
def gcG : List (Option SV) → List Nat → List (Option SV) × List Nat
  | [], ks => ([], ks)
  | some (.loc k) :: g, ks => match ixOf ks k with
    | some j => (some (.loc j) :: (gcG g ks).1, (gcG g ks).2)
    | none => (some (.loc ks.length) :: (gcG g (ks ++ [k])).1, (gcG g (ks ++ [k])).2)
  | o :: g, ks => (o :: (gcG g ks).1, (gcG g ks).2)
def gcS (s : PSt) : Out := if (gcG s.g []).2.all (fun k => match s.m[k]? with | some c => c.lt 0 | none => false) then .nx ⟨(gcG s.g []).1, (gcG s.g []).2.map fun k => (s.m[k]?).getD .dead⟩ else .bad
def popR (xs : List SV) (z : Int) : Option (SV × List SV) := match ixN xs.length z with
  | some p => match xs[p]? with
    | some v => some (v, xs.eraseIdx p)
    | none => none
  | none => none
def T.shO : T → Option D
  | .sh d => some d
  | .ow _ => none
/-- a list that is nobody else's, its items plain values -/
def owL : T → Option (List D)
  | .ow ts => optL T.shO ts
  | .sh _ => none
def iniR (o : Out) (f : PSt → Out) : Out := match o with
  | .nx s => f s
  | .ex c fs s => .ex c fs s
  | _ => .bad
variable (Φ : Or)
mutual
noncomputable def exS : S → PSt → Out
  | .set i e, s => onR (ev Φ e (mask s)) s fun d => .nx (setS s i (.sh d))
  | .setc i e, s => onR (ev Φ e (snap s)) s fun d => if d.noL then .nx (setS s i (.sh d)) else .bad
  | .own i e, s => onR (evO Φ e (snap s)) s fun ds => if D.noL.noLs ds then .nx ⟨s.g.set i (some (.loc s.m.length)), s.m ++ [.ls (ds.map .sh)]⟩ else .bad
  | .ownT i f es, s => onR ((evs Φ es (snap s)).bind (Φ f)) s fun t => (match owL t with
    | some ds => if D.noL.noLs ds then .nx ⟨s.g.set i (some (.loc s.m.length)), s.m ++ [.ls (ds.map .sh)]⟩ else .bad
    | none => .bad)
  | .popE j, s => match cellOf s j with
    | some (k, xs) => (match xs[xs.length - 1]? with
      | some _ => .nx (setM s k xs.dropLast)
      | none => .bad)
    | none => .bad
  | .retO e, s => onR (evO Φ e (snap s)) s fun ds => .rt (.ow (ds.map .sh))
  | .mv i j, s => match slotV s j with
    | some v => .nx (setS s i v)
    | none => .bad
  | .al i j e, s => match cellOf s j with
    | some (_, xs) => onR (ev Φ e (snap s)) s fun d => (match d with
      | .int z => match atI xs z with
        | some v => .nx (setS s i v)
        | none => .bad
      | _ => .bad)
    | none => .bad
  | .frz i, s => frzS i s
  | .gc, s => gcS s
  | .frg vs, s => .nx ⟨wipeS s.g vs, s.m⟩
  | .ownM i e, s => onR (evO Φ e (mask s)) s fun ds => .nx ⟨s.g.set i (some (.loc s.m.length)), s.m ++ [.ls (ds.map .sh)]⟩
  | .appM j e, s => match cellOf s j with
    | some (k, xs) => onR (ev Φ e (mask s)) s fun d => if xs.length < LINE then .nx (setM s k (xs ++ [.sh d])) else .bad
    | none => .bad
  | .popA i j e, s => match cellOf s j with
    | some (k, xs) => onR (ev Φ e (snap s)) s fun d => (match d with
      | .int z => if decide (-(2 ^ 63) ≤ z) && decide (z < 2 ^ 63) then (match popR xs z with
        | some (v, ys) => .nx (setS (setM s k ys) i v)
        | none => .bad) else .bad
      | _ => .bad)
    | none => .bad
  | .unpL i j e, s => onR (ev Φ e (mask s)) s fun d => match d with
    | .lst [a, b] => .nx (setS (setS s i (.sh a)) j (.sh b))
    | _ => .bad
  | .ini b c es, s => iniR (exSs b s) fun s' => onR (evs Φ es (snap s')) s' fun ds => .rt (.sh (.obj c ds))
  | .app j e, s => match cellOf s j with
    | some (k, xs) => onR (ev Φ e (snap s)) s fun d => if d.noL && decide (xs.length < LINE) then .nx (setM s k (xs ++ [.sh d])) else .bad
    | none => .bad
  | .appV j i, s => match cellOf s j with
    | some (k, xs) => match slotV s i with
      | some v => if xs.length < LINE then .nx (setM s k (xs ++ [v])) else .bad
      | none => .bad
    | none => .bad
  | .setI j ie e, s => onR (ev Φ e (snap s)) s fun d => match cellOf s j with
    | some (k, xs) => onR (ev Φ ie (snap s)) s fun z => (match z with
      | .int z => if d.noL then (match ixN xs.length z with
        | some p => .nx (setM s k (xs.set p (.sh d)))
        | none => .bad) else .bad
      | _ => .bad)
    | none => .bad
  | .aug i o e, s => match slotV s i with
    | some (.sh (.int x)) => onR (ev Φ e (snap s)) s fun d => (match d with
      | .int y => onR (op2 o (.int x) (.int y)) s fun r => if isInt r then .nx (setS s i (.sh r)) else .bad
      | _ => .bad)
    | _ => .bad
  | .unp i j e, s => onR (ev Φ e (mask s)) s fun d => match d with
    | .tup [a, b] => .nx (setS (setS s i (.sh a)) j (.sh b))
    | _ => .bad
  | .srt i e y neg, s => onR ((ev Φ e (mask s)).bind fun d => srtR neg d (((mask s)[y]?).bind id)) s fun d => .nx (setS s i (.sh d))
  | .srtR e y neg, s => onR ((ev Φ e (mask s)).bind fun d => srtR neg d (((mask s)[y]?).bind id)) s fun d => .rt (.sh d)
  | .appP j f e1 kz e2, s => match cellOf s j with
    | some _ => onR (ev Φ e1 (snap s)) s fun d1 => if d1.noL then (match cellOf s kz with
      | some (kk, xs) => onR (ev Φ e2 (snap s)) s fun d2 => (match d2 with
        | .int z => if decide (-(2 ^ 63) ≤ z) && decide (z < 2 ^ 63) then (match popR xs z with
          | some (.sh d3, ys) => onR ((Φ f [d1, d3]).bind fun t => .ok t.d) (setM s kk ys) fun d => (match cellOf (setM s kk ys) j with
            | some (jj, zs) => if d.noL && decide (zs.length < LINE) then .nx (setM (setM s kk ys) jj (zs ++ [.sh d])) else .bad
            | none => .bad)
          | _ => .bad) else .bad
        | _ => .bad)
      | none => .bad) else .bad
    | none => .bad
  | .ret e, s => onR (ev Φ e (snap s)) s fun d => .rt (.sh d)
  | .retN, _ => .rt (.sh .non)
  | .retV i, s => match slotV s i with
    | some v => match toT 4 s.m v with
      | some (t, _) => .rt t
      | none => .bad
    | none => .bad
  | .ifs c a b, s => onR (tob (ev Φ c (snap s))) s fun t => if t then exSs a s else exSs b s
  | .whl c b vs, s => whlO vs s.m.length (fun s => tob (ev Φ c (snap s))) (exSs b) ⟨wipeS s.g vs, s.m⟩
  | .fr sk tg srcs b vs, s => onR ((evs Φ srcs (match sk with | .r1 => snap s | .r2 => snap s | _ => mask s)).bind (srcR sk)) s fun items =>
    forR vs s.m.length (fun x s => match bindS tg x s with | some s' => exSs b s' | none => .bad) items ⟨wipeS s.g vs, s.m⟩
  | .expr e, s => onR (ev Φ e (snap s)) s fun _ => .nx s
  | .pass, s => .nx s
  | .brk, s => .bk s
  | .cnt, s => .ct s
  | .never, _ => .bad
noncomputable def exSs : List S → PSt → Out
  | [], s => .nx s
  | x :: xs, s => (exS x s).nxt (exSs xs)
end

/-! ### a def by its number, calls nested at most n deep -/
structure Def where
  /-- the parameters -/
  np : Nat
  /-- all names -/
  ns : Nat
  body : List S
def endR : Out → Res T
  | .nx _ => .ok (.sh .non)
  | .rt t => .ok t
  | .ex c fs _ => .ex c fs
  | _ => .bad
def enter (ns : Nat) (ds : List D) : PSt := ⟨ds.map (fun d => some (.sh d)) ++ List.replicate (ns - ds.length) none, []⟩
noncomputable def run (prog : List Def) : Nat → Or
  | 0, _, _ => .bad
  | n + 1, f, ds => match prog[f]? with
    | some D => if ds.length = D.np then endR (exSs (run prog n) D.body (enter D.ns ds)) else .bad
    | none => .bad
end R
end

section
set_option autoImplicit true
set_option linter.all false
/-! printed by eqs.py R15 -/
namespace R
open PySem PySem.Spec PyProof.Rows L2
theorem exS_set : exS Φ (.set i e) s = onR (ev Φ e (mask s)) s fun d => .nx (setS s i (.sh d)) := rfl
theorem exS_setc : exS Φ (.setc i e) s = onR (ev Φ e (snap s)) s fun d => if d.noL then .nx (setS s i (.sh d)) else .bad := rfl
theorem exS_own : exS Φ (.own i e) s = onR (evO Φ e (snap s)) s fun ds => if D.noL.noLs ds then .nx ⟨s.g.set i (some (.loc s.m.length)), s.m ++ [.ls (ds.map .sh)]⟩ else .bad := rfl
theorem exS_ownT : exS Φ (.ownT i f es) s = onR ((evs Φ es (snap s)).bind (Φ f)) s fun t => (match owL t with
      | some ds => if D.noL.noLs ds then .nx ⟨s.g.set i (some (.loc s.m.length)), s.m ++ [.ls (ds.map .sh)]⟩ else .bad
      | none => .bad) := rfl
theorem exS_popE : exS Φ (.popE j) s = match cellOf s j with
      | some (k, xs) => (match xs[xs.length - 1]? with
        | some _ => .nx (setM s k xs.dropLast)
        | none => .bad)
      | none => .bad := rfl
theorem exS_retO : exS Φ (.retO e) s = onR (evO Φ e (snap s)) s fun ds => .rt (.ow (ds.map .sh)) := rfl
theorem exS_mv : exS Φ (.mv i j) s = match slotV s j with
      | some v => .nx (setS s i v)
      | none => .bad := rfl
theorem exS_al : exS Φ (.al i j e) s = match cellOf s j with
      | some (_, xs) => onR (ev Φ e (snap s)) s fun d => (match d with
        | .int z => match atI xs z with
          | some v => .nx (setS s i v)
          | none => .bad
        | _ => .bad)
      | none => .bad := rfl
theorem exS_frz : exS Φ (.frz i) s = frzS i s := rfl
theorem exS_gc : exS Φ .gc s = gcS s := rfl
theorem exS_frg : exS Φ (.frg vs) s = .nx ⟨wipeS s.g vs, s.m⟩ := rfl
theorem exS_ownM : exS Φ (.ownM i e) s = onR (evO Φ e (mask s)) s fun ds => .nx ⟨s.g.set i (some (.loc s.m.length)), s.m ++ [.ls (ds.map .sh)]⟩ := rfl
theorem exS_appM : exS Φ (.appM j e) s = match cellOf s j with
      | some (k, xs) => onR (ev Φ e (mask s)) s fun d => if xs.length < LINE then .nx (setM s k (xs ++ [.sh d])) else .bad
      | none => .bad := rfl
theorem exS_popA : exS Φ (.popA i j e) s = match cellOf s j with
      | some (k, xs) => onR (ev Φ e (snap s)) s fun d => (match d with
        | .int z => if decide (-(2 ^ 63) ≤ z) && decide (z < 2 ^ 63) then (match popR xs z with
          | some (v, ys) => .nx (setS (setM s k ys) i v)
          | none => .bad) else .bad
        | _ => .bad)
      | none => .bad := rfl
theorem exS_unpL : exS Φ (.unpL i j e) s = onR (ev Φ e (mask s)) s fun d => match d with
      | .lst [a, b] => .nx (setS (setS s i (.sh a)) j (.sh b))
      | _ => .bad := rfl
theorem exS_ini : exS Φ (.ini b c es) s = iniR (exSs Φ b s) fun s' => onR (evs Φ es (snap s')) s' fun ds => .rt (.sh (.obj c ds)) := rfl
theorem exS_app : exS Φ (.app j e) s = match cellOf s j with
      | some (k, xs) => onR (ev Φ e (snap s)) s fun d => if d.noL && decide (xs.length < LINE) then .nx (setM s k (xs ++ [.sh d])) else .bad
      | none => .bad := rfl
theorem exS_appV : exS Φ (.appV j i) s = match cellOf s j with
      | some (k, xs) => match slotV s i with
        | some v => if xs.length < LINE then .nx (setM s k (xs ++ [v])) else .bad
        | none => .bad
      | none => .bad := rfl
theorem exS_setI : exS Φ (.setI j ie e) s = onR (ev Φ e (snap s)) s fun d => match cellOf s j with
      | some (k, xs) => onR (ev Φ ie (snap s)) s fun z => (match z with
        | .int z => if d.noL then (match ixN xs.length z with
          | some p => .nx (setM s k (xs.set p (.sh d)))
          | none => .bad) else .bad
        | _ => .bad)
      | none => .bad := rfl
theorem exS_aug : exS Φ (.aug i o e) s = match slotV s i with
      | some (.sh (.int x)) => onR (ev Φ e (snap s)) s fun d => (match d with
        | .int y => onR (op2 o (.int x) (.int y)) s fun r => if isInt r then .nx (setS s i (.sh r)) else .bad
        | _ => .bad)
      | _ => .bad := rfl
theorem exS_unp : exS Φ (.unp i j e) s = onR (ev Φ e (mask s)) s fun d => match d with
      | .tup [a, b] => .nx (setS (setS s i (.sh a)) j (.sh b))
      | _ => .bad := rfl
theorem exS_srt : exS Φ (.srt i e y neg) s = onR ((ev Φ e (mask s)).bind fun d => srtR neg d (((mask s)[y]?).bind id)) s fun d => .nx (setS s i (.sh d)) := rfl
theorem exS_srtR : exS Φ (.srtR e y neg) s = onR ((ev Φ e (mask s)).bind fun d => srtR neg d (((mask s)[y]?).bind id)) s fun d => .rt (.sh d) := rfl
theorem exS_appP : exS Φ (.appP j f e1 kz e2) s = match cellOf s j with
      | some _ => onR (ev Φ e1 (snap s)) s fun d1 => if d1.noL then (match cellOf s kz with
        | some (kk, xs) => onR (ev Φ e2 (snap s)) s fun d2 => (match d2 with
          | .int z => if decide (-(2 ^ 63) ≤ z) && decide (z < 2 ^ 63) then (match popR xs z with
            | some (.sh d3, ys) => onR ((Φ f [d1, d3]).bind fun t => .ok t.d) (setM s kk ys) fun d => (match cellOf (setM s kk ys) j with
              | some (jj, zs) => if d.noL && decide (zs.length < LINE) then .nx (setM (setM s kk ys) jj (zs ++ [.sh d])) else .bad
              | none => .bad)
            | _ => .bad) else .bad
          | _ => .bad)
        | none => .bad) else .bad
      | none => .bad := rfl
theorem exS_ret : exS Φ (.ret e) s = onR (ev Φ e (snap s)) s fun d => .rt (.sh d) := rfl
theorem exS_retN : exS Φ .retN u1 = .rt (.sh .non) := rfl
theorem exS_retV : exS Φ (.retV i) s = match slotV s i with
      | some v => match toT 4 s.m v with
        | some (t, _) => .rt t
        | none => .bad
      | none => .bad := rfl
theorem exS_ifs : exS Φ (.ifs c a b) s = onR (tob (ev Φ c (snap s))) s fun t => if t then exSs Φ a s else exSs Φ b s := rfl
theorem exS_whl : exS Φ (.whl c b vs) s = whlO vs s.m.length (fun s => tob (ev Φ c (snap s))) (exSs Φ b) ⟨wipeS s.g vs, s.m⟩ := rfl
theorem exS_fr : exS Φ (.fr sk tg srcs b vs) s = onR ((evs Φ srcs (match sk with | .r1 => snap s | .r2 => snap s | _ => mask s)).bind (srcR sk)) s fun items =>
      forR vs s.m.length (fun x s => match bindS tg x s with | some s' => exSs Φ b s' | none => .bad) items ⟨wipeS s.g vs, s.m⟩ := rfl
theorem exS_expr : exS Φ (.expr e) s = onR (ev Φ e (snap s)) s fun _ => .nx s := rfl
theorem exS_pass : exS Φ .pass s = .nx s := rfl
theorem exS_brk : exS Φ .brk s = .bk s := rfl
theorem exS_cnt : exS Φ .cnt s = .ct s := rfl
theorem exS_never : exS Φ .never u1 = .bad := rfl
theorem exSs_l0 : exSs Φ [] s = .nx s := rfl
theorem exSs_cons1 : exSs Φ (x :: xs) s = (exS Φ x s).nxt (exSs Φ xs) := rfl
end R
end

section
set_option Elab.async false
set_option linter.all false
set_option maxRecDepth 100000
set_option maxHeartbeats 4000000
/-! R16: how a state stands in the slots and in the heap. -/
namespace R
open PySem PySem.Spec PyProof.Rows L2

def RepS (W : Wo) (Z : Hp) (as : List Addr) : SV → V → Prop
  | .sh d, v => Rep W Z d v
  | .loc k, v => ∃ a, as[k]? = some a ∧ v = .ref a
def RepSs (W : Wo) (Z : Hp) (as : List Addr) : List SV → List V → Prop
  | [], vs => vs = []
  | x :: xs, vs => ∃ v us, vs = v :: us ∧ RepS W Z as x v ∧ RepSs W Z as xs us
section
variable {W : Wo} {Z Z' H H' Z0 H0 : Hp} {as bs : List Addr}
theorem RepS.mono (z : Same Z Z') {x : SV} {v : V} (h : RepS W Z as x v) : RepS W Z' as x v := by
  cases x with
  | sh d => exact Rep.mono z h
  | loc k => exact h
theorem RepSs.mono (z : Same Z Z') : ∀ {xs : List SV} {vs : List V}, RepSs W Z as xs vs → RepSs W Z' as xs vs
  | [], _, h => h
  | x :: xs, _, ⟨v, us, e, h, t⟩ => ⟨v, us, e, h.mono z, t.mono z⟩
theorem get_app {α : Type} {l l' : List α} {k : Nat} {a : α} (h : l[k]? = some a) : (l ++ l')[k]? = some a := by
  obtain ⟨hl, e⟩ := List.getElem?_eq_some_iff.mp h
  rw [List.getElem?_append_left hl]
  exact h
theorem RepS.more {x : SV} {v : V} (h : RepS W Z as x v) : RepS W Z (as ++ bs) x v := by
  cases x with
  | sh d => exact h
  | loc k =>
    obtain ⟨a, e, r⟩ := h
    exact ⟨a, get_app e, r⟩
theorem RepSs.more : ∀ {xs : List SV} {vs : List V}, RepSs W Z as xs vs → RepSs W Z (as ++ bs) xs vs
  | [], _, h => h
  | x :: xs, _, ⟨v, us, e, h, t⟩ => ⟨v, us, e, h.more, t.more⟩
theorem RepSs.ofL : ∀ {ds : List D} {vs : List V}, RepL W Z ds vs → RepSs W Z as (ds.map .sh) vs
  | [], _, h => h.unnil
  | d :: ds, _, h => by
    obtain ⟨v, us, rfl, h1, h2⟩ := h.uncons
    exact ⟨v, us, rfl, h1, RepSs.ofL h2⟩
theorem RepSs.length : ∀ {xs : List SV} {vs : List V}, RepSs W Z as xs vs → vs.length = xs.length
  | [], _, h => by rw [show _ = [] from h]; rfl
  | x :: xs, _, ⟨v, us, e, h, t⟩ => by rw [e, List.length_cons, List.length_cons, t.length]
theorem RepSs.get : ∀ {xs : List SV} {vs : List V} {i : Nat} {x : SV}, RepSs W Z as xs vs → xs[i]? = some x → ∃ v, vs[i]? = some v ∧ RepS W Z as x v
  | [], _, _, _, _, e => by simp at e
  | y :: xs, _, i, x, ⟨v, us, e1, h, t⟩, e => by
    subst e1
    cases i with
    | zero =>
      simp at e
      subst e
      exact ⟨v, rfl, h⟩
    | succ i =>
      obtain ⟨w, e1, e2⟩ := RepSs.get (i := i) t (by simpa using e)
      exact ⟨w, by simpa using e1, e2⟩
theorem RepSs.append : ∀ {xs : List SV} {vs : List V} {ys : List SV} {us : List V}, RepSs W Z as xs vs → RepSs W Z as ys us → RepSs W Z as (xs ++ ys) (vs ++ us)
  | [], _, _, _, h, t => by rw [show _ = [] from h]; exact t
  | x :: xs, _, _, _, ⟨v, us, e, h, t⟩, q => by
    subst e
    exact ⟨v, _, rfl, h, t.append q⟩
theorem RepSs.set {y : SV} {w : V} (r : RepS W Z as y w) : ∀ {xs : List SV} {vs : List V} (i : Nat), RepSs W Z as xs vs → RepSs W Z as (xs.set i y) (vs.set i w)
  | [], _, i, h => by rw [show _ = [] from h]; rfl
  | x :: xs, _, 0, ⟨v, us, e, h, t⟩ => by
    subst e
    exact ⟨w, us, rfl, r, t⟩
  | x :: xs, _, i + 1, ⟨v, us, e, h, t⟩ => by
    subst e
    exact ⟨v, _, rfl, h, t.set r i⟩
/-- the own lists' addresses -/
def lv : List Cell → List Addr → List Addr
  | [], _ => []
  | _ :: _, [] => []
  | .ls _ :: m, a :: as => a :: lv m as
  | .dead :: m, _ :: as => lv m as
theorem mem_lv {b : Addr} : ∀ {m : List Cell} {as : List Addr}, b ∈ lv m as ↔ ∃ (k : Nat) (xs : List SV), m[k]? = some (Cell.ls xs) ∧ as[k]? = some b
  | [], _ => by simp [lv]
  | _ :: _, [] => by simp [lv]
  | .ls xs :: m, a :: as => by
    rw [lv, List.mem_cons, mem_lv (m := m) (as := as)]
    constructor
    · rintro (rfl | ⟨k, ys, h1, h2⟩)
      · exact ⟨0, xs, rfl, rfl⟩
      · exact ⟨k + 1, ys, h1, h2⟩
    · rintro ⟨k, ys, h1, h2⟩
      cases k with
      | zero => left; simpa using h2.symm
      | succ k => right; exact ⟨k, ys, by simpa using h1, by simpa using h2⟩
  | .dead :: m, a :: as => by
    rw [lv, mem_lv (m := m) (as := as)]
    constructor
    · rintro ⟨k, ys, h1, h2⟩
      exact ⟨k + 1, ys, h1, h2⟩
    · rintro ⟨k, ys, h1, h2⟩
      cases k with
      | zero => simp at h1
      | succ k => exact ⟨k, ys, by simpa using h1, by simpa using h2⟩
structure Rel (W : Wo) (Z0 H0 : Hp) (s : PSt) (σ : L2.St) (H Z : Hp) (as : List Addr) : Prop where
  x : Ext W Z0 H0 Z H
  len : s.g.length ≤ σ.length
  nd : as.Nodup
  al : as.length = s.m.length
  ne : ∀ a ∈ as, H a ≠ none ∧ H0 a = none
  slot : ∀ (i : Nat) (v : SV), s.g[i]? = some (some v) → ∃ u : V, σ[i]? = some (some u) ∧ RepS W Z as v u
  cell : ∀ (k : Nat) (xs : List SV), s.m[k]? = some (.ls xs) → ∀ a : Addr, as[k]? = some a → Z a = none ∧ ∃ vs, H a = some (.lst vs) ∧ RepSs W Z as xs vs
  pin : ∀ u : V, W.s0 = some u → σ[0]? = some (some u)
def cutZ (Z : Hp) (L : List Addr) : Hp := fun b => if b ∈ L then none else Z b
theorem cutZ_in {L : List Addr} {b : Addr} (h : b ∈ L) : cutZ Z L b = none := if_pos h
theorem cutZ_out {L : List Addr} {b : Addr} (h : b ∉ L) : cutZ Z L b = Z b := if_neg h
theorem cutZ_sub {L : List Addr} : Same (cutZ Z L) Z := fun b o e => by
  by_cases h : b ∈ L
  · rw [cutZ_in h] at e; cases e
  · rw [cutZ_out h] at e; exact e
variable {s : PSt} {σ : L2.St}
/-- an own list's address -/
theorem Rel.addr (R : Rel W Z0 H0 s σ H Z as) {k : Nat} {xs : List SV} (h : s.m[k]? = some (.ls xs)) : ∃ a, as[k]? = some a := by
  obtain ⟨hl, e⟩ := List.getElem?_eq_some_iff.mp h
  exact ⟨_, List.getElem?_eq_getElem (by rw [R.al]; exact hl)⟩
theorem Rel.live (R : Rel W Z0 H0 s σ H Z as) {b : Addr} (h : b ∈ lv s.m as) : Z b = none ∧ H0 b = none ∧ ∃ vs, H b = some (.lst vs) := by
  obtain ⟨k, xs, h1, h2⟩ := mem_lv.mp h
  obtain ⟨z, vs, e, _⟩ := R.cell k xs h1 b h2
  exact ⟨z, (R.ne b (List.mem_of_getElem? h2)).2, vs, e⟩
/-- what is read now -/
def Rel.zs (_ : Rel W Z0 H0 s σ H Z as) : Hp := addZ Z H (lv s.m as)
theorem optL_rep (R : Rel W Z0 H0 s σ H Z as) {f : SV → Option D} {Y : Hp} (hf : ∀ v u d, f v = some d → RepS W Z as v u → Rep W Y d u) : ∀ {xs : List SV} {vs : List V} {ds : List D}, optL f xs = some ds → RepSs W Z as xs vs → RepL W Y ds vs
  | [], vs, ds, h, r => by
    simp only [optL, Option.some.injEq] at h
    subst h
    rw [show vs = [] from r]
    exact .nil
  | x :: xs, vs, ds, h, ⟨v, us, e, r, t⟩ => by
    subst e
    unfold optL at h
    split at h
    · rename_i y e1
      split at h
      · rename_i ys e2
        injection h with h
        subst h
        exact .cons (hf _ _ _ e1 r) (optL_rep R hf e2 t)
      · cases h
    · cases h
theorem den_rep (R : Rel W Z0 H0 s σ H Z as) : ∀ (n : Nat) (v : SV) (u : V) (d : D), den s.m n v = some d → RepS W Z as v u → Rep W (addZ Z H (lv s.m as)) d u
  | 0, .sh d, u, d', h, r => by
    simp only [den, Option.some.injEq] at h
    subst h
    exact Rep.mono (addZ_same R.x.zh _) r
  | n + 1, .sh d, u, d', h, r => by
    simp only [den, Option.some.injEq] at h
    subst h
    exact Rep.mono (addZ_same R.x.zh _) r
  | 0, .loc k, u, d', h, r => by simp [den] at h
  | n + 1, .loc k, u, d', h, ⟨a, e, e2⟩ => by
    subst e2
    unfold den at h
    split at h
    · rename_i xs e1
      split at h
      · rename_i ds e2
        injection h with h
        subst h
        obtain ⟨z, vs, h1, h2⟩ := R.cell k xs e1 a e
        simp only [Rep]
        refine ⟨a, vs, rfl, ?_, optL_rep R (fun v u d => den_rep R n v u d) e2 h2⟩
        rw [addZ_in (mem_lv.mpr ⟨k, xs, e1, e⟩)]
        exact h1
      · cases h
    · cases h
theorem Rel.env (R : Rel W Z0 H0 s σ H Z as) : EnvOk W (addZ Z H (lv s.m as)) σ (snap s) := by
  refine ⟨by unfold snap; rw [List.length_map]; exact R.len, fun i d h => ?_⟩
  unfold snap at h
  rw [List.getElem?_map] at h
  cases e : s.g[i]? with
  | none => rw [e] at h; cases h
  | some o =>
    rw [e] at h
    cases o with
    | none => cases h
    | some v =>
      have h : den s.m 4 v = some d := by
        injection h
      obtain ⟨u, e1, r⟩ := R.slot i v e
      exact ⟨u, e1, den_rep R 4 v u d h r⟩
theorem Rel.envM (R : Rel W Z0 H0 s σ H Z as) : EnvOk W Z σ (mask s) := by
  refine ⟨by unfold mask; rw [List.length_map]; exact R.len, fun i d h => ?_⟩
  unfold mask at h
  rw [List.getElem?_map] at h
  cases e : s.g[i]? with
  | none => rw [e] at h; cases h
  | some o =>
    rw [e] at h
    cases o with
    | none => cases h
    | some v =>
      cases v with
      | loc k => cases h
      | sh d' =>
        injection h with h
        injection h with h
        subst h
        exact R.slot i _ e
theorem Rel.zsH (R : Rel W Z0 H0 s σ H Z as) : Zh W (addZ Z H (lv s.m as)) H := addZ_H R.x.zh fun b hb => (R.live hb).2.2
/-- nothing but new objects: the slots, the lists are as they were -/
theorem Rel.grow (R : Rel W Z0 H0 s σ H Z as) (hh : Grow H H') (zz : Same Z Z') (zh : Zh W Z' H') (new : ∀ a o, Z' a = some o → Z a = some o ∨ H a = none) (out : ∀ b ∈ lv s.m as, Z' b = none) : Rel W Z0 H0 s σ H' Z' as := by
  refine ⟨R.x.trans ⟨hh, zz, zh, new⟩, R.len, R.nd, R.al, fun a ha => ⟨fun e => ?_, (R.ne a ha).2⟩, fun i v e => ?_, fun k xs e a ha => ?_, R.pin⟩
  · exact (R.ne a ha).1 (hh.free e)
  · obtain ⟨u, e1, r⟩ := R.slot i v e
    exact ⟨u, e1, r.mono zz⟩
  · obtain ⟨z, vs, h1, h2⟩ := R.cell k xs e a ha
    exact ⟨out a (mem_lv.mpr ⟨k, xs, e, ha⟩), vs, hh.lst h1, h2.mono zz⟩
theorem Rel.stepM (R : Rel W Z0 H0 s σ H Z as) (x : Ext W Z H Z' H') : Rel W Z0 H0 s σ H' Z' as := by
  refine R.grow x.hh x.zz x.zh x.new fun b hb => ?_
  obtain ⟨z, _, vs, e⟩ := R.live hb
  cases h : Z' b with
  | none => rfl
  | some o =>
    rcases x.new b o h with q | q
    · rw [z] at q; cases q
    · rw [e] at q; cases q
theorem Rel.cutSame (R : Rel W Z0 H0 s σ H Z as) (x : Ext W (addZ Z H (lv s.m as)) H Z' H') : Same Z (cutZ Z' (lv s.m as)) := fun b o e => by
  have hb : b ∉ lv s.m as := fun hb => by rw [(R.live hb).1] at e; cases e
  rw [cutZ_out hb]
  exact x.zz _ _ (addZ_same R.x.zh _ _ _ e)
theorem Rel.step (R : Rel W Z0 H0 s σ H Z as) (x : Ext W (addZ Z H (lv s.m as)) H Z' H') : Rel W Z0 H0 s σ H' (cutZ Z' (lv s.m as)) as := by
  refine R.grow x.hh (R.cutSame x) (x.zh.less cutZ_sub) (fun b o e => ?_) fun b hb => cutZ_in hb
  by_cases hb : b ∈ lv s.m as
  · rw [cutZ_in hb] at e; cases e
  · rw [cutZ_out hb] at e
    rcases x.new b o e with q | q
    · rw [addZ_out hb] at q; exact .inl q
    · exact .inr q
mutual
theorem noL_cut (zh : Zh W Z H) {L : List Addr} (hL : ∀ b ∈ L, ∃ vs, H b = some (.lst vs)) : ∀ {d : D} {v : V}, Rep W Z d v → d.noL = true → Rep W (cutZ Z L) d v
  | .non, _, h, _ => by simpa only [Rep] using h
  | .bl _, _, h, _ => by simpa only [Rep] using h
  | .int _, _, h, _ => by simpa only [Rep] using h
  | .str _, _, h, _ => by simpa only [Rep] using h
  | .lst _, _, _, e => absurd e Bool.false_ne_true
  | .fz _, _, _, e => absurd e Bool.false_ne_true
  | .tup ds, _, h, e => by
    simp only [Rep] at h ⊢
    obtain ⟨a, vs, h1, h2, h3⟩ := h
    refine ⟨a, vs, h1, ?_, noLs_cut zh hL h3 e⟩
    have out : ∀ o : HO, Z a = some o → (∀ us, o ≠ .lst us) → cutZ Z L a = some o := fun o h q => by
      have hb : a ∉ L := fun hb => by
        obtain ⟨us, e⟩ := hL a hb
        rw [zh _ _ h] at e
        injection e with e
        exact q us e
      rw [cutZ_out hb]
      exact h
    rcases h2 with (h2 | ⟨o, h2⟩) | h2
    · exact .inl (.inl (out _ h2 fun us => by intro e; cases e))
    · exact .inl (.inr ⟨o, out _ h2 fun us => by intro e; cases e⟩)
    · exact .inr h2
  | .obj c ds, _, h, e => by
    simp only [Rep] at h ⊢
    obtain ⟨a, dx, vs, h1, h0, h2, h3, h4⟩ := h
    refine ⟨a, dx, vs, h1, h0, ?_, h3, noLs_cut zh hL h4 e⟩
    have hb : a ∉ L := fun hb => by
      obtain ⟨us, e⟩ := hL a hb
      rw [zh _ _ h2] at e
      cases e
    rw [cutZ_out hb]
    exact h2
theorem noLs_cut (zh : Zh W Z H) {L : List Addr} (hL : ∀ b ∈ L, ∃ vs, H b = some (.lst vs)) : ∀ {ds : List D} {vs : List V}, RepL W Z ds vs → D.noL.noLs ds = true → RepL W (cutZ Z L) ds vs
  | [], _, h, _ => by rw [h.unnil]; exact .nil
  | d :: ds, _, h, e => by
    obtain ⟨v, us, rfl, h1, h2⟩ := h.uncons
    unfold D.noL.noLs at e
    rw [Bool.and_eq_true] at e
    exact .cons (noL_cut zh hL h1 e.1) (noLs_cut zh hL h2 e.2)
end
/-- a value without lists goes on -/
theorem Rel.keep (R : Rel W Z0 H0 s σ H Z as) (x : Ext W (addZ Z H (lv s.m as)) H Z' H') {d : D} {v : V} (r : Rep W Z' d v) (h : d.noL = true) : Rep W (cutZ Z' (lv s.m as)) d v :=
  noL_cut x.zh (fun b hb => by
    obtain ⟨_, _, vs, e⟩ := R.live hb
    exact ⟨vs, x.hh.lst e⟩) r h
theorem Rel.keepL (R : Rel W Z0 H0 s σ H Z as) (x : Ext W (addZ Z H (lv s.m as)) H Z' H') {ds : List D} {vs : List V} (r : RepL W Z' ds vs) (h : D.noL.noLs ds = true) : RepL W (cutZ Z' (lv s.m as)) ds vs :=
  noLs_cut x.zh (fun b hb => by
    obtain ⟨_, _, vs, e⟩ := R.live hb
    exact ⟨vs, x.hh.lst e⟩) r h
theorem Rel.set (R : Rel W Z0 H0 s σ H Z as) {i : Nat} {v : SV} {u : V} (hi : i = 0 → W.s0 = none) (r : RepS W Z as v u) : Rel W Z0 H0 (setS s i v) (σ.set i (some u)) H Z as := by
  refine ⟨R.x, by unfold setS; rw [List.length_set, List.length_set]; exact R.len, R.nd, R.al, R.ne, fun j w e => ?_, R.cell, fun u hu => by
    rw [List.getElem?_set]
    split
    · rename_i h0
      rw [hi h0] at hu
      cases hu
    · exact R.pin u hu⟩
  simp only [setS] at e
  rw [List.getElem?_set] at e
  rw [List.getElem?_set]
  split at e
  · rename_i hj
    subst hj
    split at e
    · rename_i hl
      injection e with e
      injection e with e
      subst e
      rw [if_pos rfl, if_pos (Nat.lt_of_lt_of_le hl R.len)]
      exact ⟨u, rfl, r⟩
    · cases e
  · rename_i hj
    rw [if_neg hj]
    exact R.slot j w e
theorem Rel.wipe (R : Rel W Z0 H0 s σ H Z as) : ∀ vs : List Nat, Rel W Z0 H0 ⟨wipeS s.g vs, s.m⟩ σ H Z as
  | [] => R
  | v :: vs => by
    have R' := Rel.wipe R vs
    refine ⟨R.x, ?_, R.nd, R.al, R.ne, fun j w e => ?_, R.cell, R.pin⟩
    · unfold wipeS
      rw [List.length_set]
      exact R'.len
    · simp only [wipeS] at e
      rw [List.getElem?_set] at e
      split at e
      · split at e <;> cases e
      · exact R'.slot j w e
/-- a new list of the frame's own -/
theorem Rel.alloc (R : Rel W Z0 H0 s σ H Z as) {p : Addr} {vs : List V} {xs : List SV} (hp : H p = some (.lst vs)) (zp : Z p = none) (h0 : H0 p = none) (hn : p ∉ as) (r : RepSs W Z as xs vs) : Rel W Z0 H0 ⟨s.g, s.m ++ [.ls xs]⟩ σ H Z (as ++ [p]) := by
  refine ⟨R.x, R.len, ?_, by rw [List.length_append, List.length_append, R.al]; rfl, fun a ha => ?_, fun i v e => ?_, fun k ys e a ha => ?_, R.pin⟩
  · rw [List.nodup_append]
    refine ⟨R.nd, by simp, fun a ha b hb => ?_⟩
    rw [List.mem_singleton] at hb
    subst hb
    intro e
    subst e
    exact hn ha
  · rcases List.mem_append.mp ha with ha | ha
    · exact R.ne a ha
    · rw [List.mem_singleton] at ha
      subst ha
      exact ⟨by rw [hp]; simp, h0⟩
  · obtain ⟨u, e1, q⟩ := R.slot i v e
    exact ⟨u, e1, q.more⟩
  · by_cases hk : k < s.m.length
    · rw [List.getElem?_append_left hk] at e
      rw [List.getElem?_append_left (by rw [R.al]; exact hk)] at ha
      obtain ⟨z, us, h1, h2⟩ := R.cell k ys e a ha
      exact ⟨z, us, h1, h2.more⟩
    · rw [List.getElem?_append_right (Nat.le_of_not_lt hk)] at e
      rw [List.getElem?_append_right (by rw [R.al]; exact Nat.le_of_not_lt hk), R.al] at ha
      cases hq : k - s.m.length with
      | zero =>
        rw [hq] at e ha
        simp at e ha
        subst e; subst ha
        exact ⟨zp, vs, hp, r.more⟩
      | succ n => rw [hq] at e; simp at e
/-- an own list is written -/
theorem Rel.write (R : Rel W Z0 H0 s σ H Z as) {k : Nat} {a : Addr} {xs ys : List SV} {vs : List V} (hk : s.m[k]? = some (.ls xs)) (ha : as[k]? = some a) (r : RepSs W Z as ys vs) : Rel W Z0 H0 (setM s k ys) σ (upd H a (.lst vs)) Z as := by
  obtain ⟨z, us, h1, h2⟩ := R.cell k xs hk a ha
  have h0 := (R.ne a (List.mem_of_getElem? ha)).2
  refine ⟨⟨R.x.hh.wr h0, R.x.zz, R.x.zh.wr h1 z, R.x.new⟩, R.len, R.nd, by rw [R.al]; unfold setM; rw [List.length_set], fun b hb => ⟨?_, (R.ne b hb).2⟩, R.slot, fun j zs e b hb => ?_, R.pin⟩
  · by_cases q : b = a
    · subst q; rw [upd_same]; simp
    · rw [upd_ne q]; exact (R.ne b hb).1
  · simp only [setM] at e
    rw [List.getElem?_set] at e
    split at e
    · rename_i hj
      subst hj
      split at e
      · rw [ha] at hb
        injection hb with hb
        subst hb
        injection e with e
        injection e with e
        subst e
        exact ⟨z, vs, upd_same, r⟩
      · cases e
    · rename_i hj
      obtain ⟨z', us', q1, q2⟩ := R.cell j zs e b hb
      have hne : b ≠ a := fun e => by
        subst e
        have l1 := (List.getElem?_eq_some_iff.mp ha).1
        have l2 := (List.getElem?_eq_some_iff.mp hb).1
        exact hj ((List.getElem?_inj l1 R.nd).mp (by rw [ha, hb]))
      exact ⟨z', us', by rw [upd_ne hne]; exact q1, q2⟩
theorem RepS.cut {n : Nat} {x : SV} {v : V} (h : RepS W Z as x v) (hx : x.lt n = true) : RepS W Z (as.take n) x v := by
  cases x with
  | sh d => exact h
  | loc k =>
    obtain ⟨a, e, r⟩ := h
    exact ⟨a, by rw [List.getElem?_take_of_lt (of_decide_eq_true hx)]; exact e, r⟩
theorem RepSs.cut {n : Nat} : ∀ {xs : List SV} {vs : List V}, RepSs W Z as xs vs → xs.all (SV.lt n) = true → RepSs W Z (as.take n) xs vs
  | [], _, h, _ => h
  | x :: xs, _, ⟨v, us, e, h, t⟩, q => by
    rw [List.all_cons, Bool.and_eq_true] at q
    exact ⟨v, us, e, h.cut q.1, t.cut q.2⟩
theorem Rel.tidy (R : Rel W Z0 H0 s σ H Z as) {vs : List Nat} {n : Nat} {s' : PSt} (h : tidy vs n s = some s') : ∃ bs, Rel W Z0 H0 s' σ H Z bs := by
  unfold _root_.R.tidy at h
  have R1 := R.wipe vs
  split at h
  · injection h with h
    subst h
    exact ⟨as, R1⟩
  · split at h
    · rename_i hq
      injection h with h
      subst h
      rw [Bool.and_eq_true, List.all_eq_true, List.all_eq_true] at hq
      refine ⟨as.take n, R.x, R1.len, R.nd.sublist (List.take_sublist _ _), by rw [List.length_take, List.length_take, R.al], fun a ha => R.ne a (List.mem_of_mem_take ha), fun i v e => ?_, fun k xs e a ha => ?_, R1.pin⟩
      · obtain ⟨u, e1, r⟩ := R1.slot i v e
        exact ⟨u, e1, r.cut (hq.1 _ (List.mem_of_getElem? e))⟩
      · have hk : k < n := by
          rcases Nat.lt_or_ge k n with q | q
          · exact q
          · have e : (s.m.take n)[k]? = _ := e
            rw [List.getElem?_take_eq_none q] at e
            cases e
        have e' : (s.m.take n)[k]? = some (.ls xs) := e
        have e2 := e'
        rw [List.getElem?_take_of_lt hk] at e2 ha
        obtain ⟨z, us, h1, h2⟩ := R.cell k xs e2 a ha
        exact ⟨z, us, h1, h2.cut (hq.2 _ (List.mem_of_getElem? e'))⟩
    · cases h
end
end R
end

section
set_option Elab.async false
set_option linter.all false
set_option maxRecDepth 100000
set_option maxHeartbeats 8000000
/-! R17: the check of statements; what is wanted behind one. -/
namespace R
open PySem PySem.Spec PyProof.Rows L2

def isCall : Expr → Bool
  | .Call _ _ _ _ => true
  | _ => false
def ghost : S → Bool
  | .frz _ => true
  | .gc => true
  | .frg _ => true
  | _ => false
def nTup : Expr → Bool
  | .Call _ _ _ _ => true | .Name _ _ => true | .Subscript _ _ _ => true | .Attribute _ _ _ => true
  | _ => false
section
def okI (T : Th) (i : Nat) : Bool := !(T.hid && i == 0)
variable (T : Th) (N : List PySem.Str) (sc : Scope)
def nmB (i : Nat) (x : PySem.Str) : Bool := decide (N[i]? = some x) && (visB sc x && plainNm x)
def keyB (y : Nat) (neg : Bool) (lam : Expr) : Bool := match N[y]? with
  | some yn => (match sc.names.lookup yn with | some .cell => true | _ => false) && lamB sc neg yn lam
  | none => false
def fnB (f : Nat) (g : PySem.Str) (n : Nat) : Bool := (match T.fns[f]? with
  | some (.glob x m) => decide (x = g) && m == n
  | _ => false) && (glB sc g && plainNm g)
mutual
def chkS : S → Stmt → Bool
  | .set i e, st => match st with
    | .Assign [.Name x _] ex _ => okI T i && (decide (N[i]? = some x) && (locB sc x && chkE T N sc e ex))
    | _ => false
  | .setc i e, st => match st with
    | .Assign [.Name x _] ex _ => okI T i && (decide (N[i]? = some x) && (locB sc x && chkE T N sc e ex))
    | _ => false
  | .own i e, st => match st with
    | .Assign [.Name x _] ex _ => okI T i && (decide (N[i]? = some x) && (locB sc x && chkE T N sc e ex))
    | _ => false
  | .ownT i f es, st => match st with
    | .Assign [.Name x _] (.Call fx xs ks q) _ => okI T i && (decide (N[i]? = some x) && (locB sc x && chkE T N sc (.call f es) (.Call fx xs ks q)))
    | _ => false
  | .popE j, st => match st with
    | .Expr (.Call (.Attribute (.Name y _) m p) [] [] q) _ => decide (m = "pop") && (nmB N sc j y && p.endLine == q.line)
    | _ => false
  | .retO e, st => match st with
    | .Return (some ex) _ => chkE T N sc e ex
    | _ => false
  | .mv i j, st => match st with
    | .Assign [.Name x _] (.Name y _) _ => okI T i && (decide (N[i]? = some x) && (locB sc x && nmB N sc j y))
    | _ => false
  | .al _ _ _, _ => false
  | .frz _, _ => false
  | .gc, _ => false
  | .frg _, _ => false
  | .ownM i e, st => match st with
    | .Assign [.Name x _] ex _ => okI T i && (decide (N[i]? = some x) && (locB sc x && chkE T N sc e ex))
    | _ => false
  | .appM j e, st => match st with
    | .Expr (.Call (.Attribute (.Name y _) m p) [x] [] q) _ => decide (m = "append") && (nmB N sc j y && (p.endLine == q.line && (nst x && chkE T N sc e x)))
    | _ => false
  | .popA i j e, st => match st with
    | .Assign [.Name z _] (.Call (.Attribute (.Name y _) m p) [x] [] q) _ => okI T i && (decide (N[i]? = some z) && (locB sc z && (decide (m = "pop") && (nmB N sc j y && (p.endLine == q.line && (nst x && chkE T N sc e x))))))
    | _ => false
  | .unpL i j e, st => match st with
    | .Assign [.Tuple [.Name x _, .Name y _] _ _] ex _ => okI T i && (okI T j && (decide (N[i]? = some x) && (decide (N[j]? = some y) && (locB sc x && (locB sc y && (nTup ex && chkE T N sc e ex))))))
    | _ => false
  | .ini _ _ _, _ => false
  | .app j e, st => match st with
    | .Expr (.Call (.Attribute (.Name y _) m p) [x] [] q) _ => decide (m = "append") && (nmB N sc j y && (p.endLine == q.line && (nst x && chkE T N sc e x)))
    | _ => false
  | .appV _ _, _ => false
  | .setI j ie e, st => match st with
    | .Assign [.Subscript (.Name y _) ix _] ex _ => nmB N sc j y && (nsl ix && (chkE T N sc ie ix && chkE T N sc e ex))
    | _ => false
  | .aug i o e, st => match st with
    | .AugAssign (.Name x _) op ex _ => okI T i && (decide (N[i]? = some x) && (locB sc x && ((match op, o with | .Add, .add => true | .Sub, .sub => true | _, _ => false) && chkE T N sc e ex)))
    | _ => false
  | .srt i e y neg, st => match st with
    | .Assign [.Name x _] (.Call (.Name f _) [src] [⟨some kw, lam, _⟩] _) _ => okI T i && (decide (N[i]? = some x) && (locB sc x && (decide (f = "sorted") && (decide (kw = "key") && (T.lam && (glB sc "sorted" && (nst src && (chkE T N sc e src && keyB N sc y neg lam))))))))
    | _ => false
  | .srtR e y neg, st => match st with
    | .Return (some (.Call (.Name f _) [src] [⟨some kw, lam, _⟩] _)) _ => decide (f = "sorted") && (decide (kw = "key") && (T.lam && (glB sc "sorted" && (nst src && (chkE T N sc e src && keyB N sc y neg lam)))))
    | _ => false
  | .appP j f e1 kz e2, st => match st with
    | .Expr (.Call (.Attribute (.Name y _) m p) [.Call (.Name g _) [x1, .Call (.Attribute (.Name y2 _) m2 p2) [x2] [] q2] [] _] [] q) _ =>
      decide (m = "append") && (nmB N sc j y && (p.endLine == q.line && (fnB T sc f g 2 && (nst x1 && (chkE T N sc e1 x1 && (decide (m2 = "pop") && (nmB N sc kz y2 && (p2.endLine == q2.line && (nst x2 && chkE T N sc e2 x2)))))))))
    | _ => false
  | .unp i j e, st => match st with
    | .Assign [.Tuple [.Name x _, .Name y _] _ _] ex _ => okI T i && (okI T j && (decide (N[i]? = some x) && (decide (N[j]? = some y) && (locB sc x && (locB sc y && (nTup ex && chkE T N sc e ex))))))
    | _ => false
  | .ret e, st => match st with
    | .Return (some ex) _ => chkE T N sc e ex
    | _ => false
  | .retN, st => match st with
    | .Return none _ => true
    | _ => false
  | .retV _, _ => false
  | .ifs c a b, st => match st with
    | .If t x y _ => tok c && (chkE T N sc c t && (chkSs a x && chkSs b y))
    | _ => false
  | .whl c b _, st => match st with
    | .While t x [] _ => tok c && (chkE T N sc c t && chkSs b x)
    | _ => false
  | .fr sk tg srcs b _, st => match st with
    | .For t i x [] _ => tg.all (okI T) && (tgB N (ownOf t tg) t tg && ((ownOf t tg).all (fun p => locB sc p.1) && (chkI T N sc sk tg i srcs && (nset i && chkSs b x))))
    | _ => false
  | .expr e, st => match st with
    | .Expr ex _ => isCall ex && chkE T N sc e ex
    | _ => false
  | .pass, st => match st with
    | .Pass _ => true
    | _ => false
  | .brk, st => match st with
    | .Break _ => true
    | _ => false
  | .cnt, st => match st with
    | .Continue _ => true
    | _ => false
  | .never, _ => true
def chkSs : List S → List Stmt → Bool
  | [], sts => sts.isEmpty
  | x :: xs, sts => if ghost x then chkSs xs sts else match sts with
    | st :: r => chkS x st && chkSs xs r
    | [] => false
end
end

/-! ### what is wanted behind a statement -/
def PostS (W : Wo) (Z0 H0 Zi : Hp) (r : Out) (D : Ends) (Wx : WX) : Prop := match r with
  | .nx s => ∀ σ H Z as, Rel W Z0 H0 s σ H Z as → Same Zi Z → D.nx σ H
  | .bk s => ∀ σ H Z as, Rel W Z0 H0 s σ H Z as → Same Zi Z → D.bk σ H
  | .ct s => ∀ σ H Z as, Rel W Z0 H0 s σ H Z as → Same Zi Z → D.ct σ H
  | .rt t => ∀ v Z' H' bs, Ext W Z0 H0 Z' H' → RepT W Z' H' t v bs → (∀ b ∈ bs, H0 b = none ∧ Z' b = none) → bs.Nodup → D.rt v H'
  | .ex c fs s => ∀ dx σ H Z as Zx, Rel W Z0 H0 s σ H Z as → Ext W Z0 H0 Zx H → ExcR W Zx H c fs dx → Wx (.ref (W.xA c)) dx σ H
  | .bad => False
def tS (W : Wo) (f : PSt → Out) (Wx : WX) : TS := fun D σ H => ∃ Z0 H0 s Z as, Rel W Z0 H0 s σ H Z as ∧ PostS W Z0 H0 Z (f s) D Wx
section
variable {W : Wo} {Z0 H0 Zi Zj Z H Z' H' : Hp} {D D' : Ends} {Wx : WX} {s : PSt} {σ : L2.St} {as : List Addr}
theorem PostS_bad : PostS W Z0 H0 Zi .bad D Wx = False := rfl
theorem PostS.weak {r : Out} (h : PostS W Z0 H0 Zi r D Wx) (z : Same Zi Zj) : PostS W Z0 H0 Zj r D Wx := by
  cases r with
  | nx s => exact fun σ H Z as R q => h σ H Z as R (z.trans q)
  | bk s => exact fun σ H Z as R q => h σ H Z as R (z.trans q)
  | ct s => exact fun σ H Z as R q => h σ H Z as R (z.trans q)
  | rt t => exact h
  | ex c fs s => exact h
  | bad => exact h
/-- the next statement -/
theorem PostS.nxt {r : Out} {f : PSt → Out} (h : PostS W Z0 H0 Zi (r.nxt f) D Wx) : PostS W Z0 H0 Zi r { D with nx := tS W f Wx D } Wx := by
  cases r with
  | nx s => exact fun σ H Z as R q => ⟨Z0, H0, s, Z, as, R, PostS.weak h q⟩
  | bk s => exact h
  | ct s => exact h
  | rt t => exact h
  | ex c fs s => exact h
  | bad => exact h
theorem Rel.extZ (R : Rel W Z0 H0 s σ H Z as) (x : Ext W (addZ Z H (lv s.m as)) H Z' H') : Ext W Z0 H0 Z' H' :=
  ⟨R.x.hh.trans x.hh, (R.x.zz.trans (addZ_same R.x.zh _)).trans x.zz, x.zh, fun b o e => by
    rcases x.new b o e with q | q
    · by_cases hb : b ∈ lv s.m as
      · exact .inr (R.live hb).2.1
      · rw [addZ_out hb] at q
        exact R.x.new b o q
    · exact .inr (R.x.hh.free q)⟩
/-- an expression that sees all -/
theorem read_snap {α β : Type} {Rp : Hp → α → β → Prop} (R : Rel W Z0 H0 s σ H Z as) {r : Res α} {f : α → Out} (q : PostS W Z0 H0 Z (onR r s f) D Wx) {Q : β → Hp → Prop}
    (k : ∀ a v Z' H', r = .ok a → Ext W (addZ Z H (lv s.m as)) H Z' H' → Rp Z' a v → PostS W Z0 H0 Z (f a) D Wx → Q v H') : PostE W Rp (addZ Z H (lv s.m as)) H r Q fun c d H' => Wx c d σ H' := by
  cases r with
  | ok a => exact fun v Z' H' x rv => k a v Z' H' rfl x rv q
  | ex c fs => exact fun dx Z' H' x e => q dx σ H' _ as Z' (R.step x) (R.extZ x) e
  | bad => exact q
/-- one that sees no own list -/
theorem read_mask {α β : Type} {Rp : Hp → α → β → Prop} (R : Rel W Z0 H0 s σ H Z as) {r : Res α} {f : α → Out} (q : PostS W Z0 H0 Z (onR r s f) D Wx) {Q : β → Hp → Prop}
    (k : ∀ a v Z' H', r = .ok a → Ext W Z H Z' H' → Rp Z' a v → PostS W Z0 H0 Z (f a) D Wx → Q v H') : PostE W Rp Z H r Q fun c d H' => Wx c d σ H' := by
  cases r with
  | ok a => exact fun v Z' H' x rv => k a v Z' H' rfl x rv q
  | ex c fs => exact fun dx Z' H' x e => q dx σ H' _ as Z' (R.stepM x) (R.x.trans x) e
  | bad => exact q
end
theorem _root_.L2.PS.imp {X : Cx} {st : Stmt} {t t' : TS} (h : PS X st t) (i : ∀ D σ H, t' D σ H → t D σ H) : PS X st t' := ⟨fun pins s σ H D I q => h.run pins s σ H D I (i D σ H q)⟩
theorem _root_.L2.PSs.imp {X : Cx} {st : List Stmt} {t t' : TS} (h : PSs X st t) (i : ∀ D σ H, t' D σ H → t D σ H) : PSs X st t' := ⟨fun pins s σ H D I q => h.run pins s σ H D I (i D σ H q)⟩

/-! ### name = value -/
def swB (sc : Scope) (ex : Expr) (x : PySem.Str) (p : Pos) : Bool := match ex with
  | .ListComp _ _ s q => (sc.names.lookup x == some .local) && ((p.line == q.line) && !(s.names.any fun (n, k) => n == x && (k == .local || k == .cell)))
  | _ => false
theorem loc_of {sc : Scope} {x : PySem.Str} (h : locB sc x = true) : Loc sc x := by
  unfold locB at h
  split at h
  · exact .inl (by assumption)
  · exact .inr (by assumption)
  · exact absurd h Bool.false_ne_true
theorem kind_eq {a : Option NameKind} (h : (a == some .local) = true) : a = some .local := by
  cases a with
  | none => cases h
  | some k => cases k <;> first | rfl | cases h
section
variable {T : Th} {W : Wo} {Φ : Or} {k : Nat} {N : List PySem.Str} {sc : Scope} {X : Cx} {Wx : WX}
/-- a def's body -/
structure Body (T : Th) (W : Wo) (X : Cx) (sc : Scope) : Prop where
  fn : ∀ x, X.fn x = true
  own : PassesOwn (model X.prog X.w) X.A X.env X.xe
  kind : sc.kind = .function
  lam : T.lam = true → ∃ c P, LamF W X c P
theorem sw_false {e : E} {ex : Expr} {x : PySem.Str} {p : Pos} {l : Nat} (hsc : X.env.scope = sc) (hk : sc.kind = .function) (hc : chkE T N sc e ex = true) (h : swB sc ex x p = false) : swapsWith ex (some (.Name x p)) l X.env = pure false := by
  have no : ∀ {b : Bool}, b = false → b = true → False := fun h q => by rw [h] at q; cases q
  cases ex <;> first | rfl | skip
  case ListComp elt gs s q =>
    have hb : X.env.blockKind = .function := by unfold Env.blockKind; rw [hsc, hk]; rfl
    unfold swB at h
    unfold swapsWith
    simp only [hb]
    show pure (((_ : Bool) && (X.env.scope.names.lookup x == some NameKind.local) && (p.line == q.line) && !(s.names.any _)) : Bool) = _
    rw [hsc]
    have e : ((ScopeKind.function == ScopeKind.function && (sc.names.lookup x == some NameKind.local) && (p.line == q.line) && !(s.names.any fun (n, k) => n == x && (k == .local || k == .cell))) : Bool) = false := by
      have h' : ((sc.names.lookup x == some NameKind.local) && ((p.line == q.line) && !(s.names.any fun (n, k) => n == x && (k == .local || k == .cell)))) = false := h
      rw [← Bool.and_assoc] at h'
      rw [show (ScopeKind.function == ScopeKind.function) = true from rfl, Bool.true_and]
      exact h'
    first | rw [e] | exact congrArg pure e
  all_goals
    exfalso
    cases e <;> first | exact Bool.false_ne_true hc | skip
    rename_i b es
    cases b <;> exact Bool.false_ne_true hc
theorem sw_true' {ex : Expr} {x : PySem.Str} {p : Pos} {l : Nat} (hsc : X.env.scope = sc) (hk : sc.kind = .function) (h : swB sc ex x p = true) : ∃ elt gs s q, ex = .ListComp elt gs s q ∧ sc.names.lookup x = some .local ∧ swapsWith ex (some (.Name x p)) l X.env = pure true := by
  unfold swB at h
  split at h
  · rename_i elt gs s q
    rw [Bool.and_eq_true, Bool.and_eq_true, Bool.not_eq_true'] at h
    obtain ⟨h1, h2, h3⟩ := h
    have h1 := kind_eq h1
    exact ⟨elt, gs, s, q, rfl, h1, sw_true (by rw [hsc]; exact hk) (by rw [hsc]; exact h1) h2 h3⟩
  · cases h
/-- the general case: te reads e as a value that is bound -/
theorem asg_gen {e : E} {ex : Expr} {i : Nat} {x : PySem.Str} {p pos : Pos} {te : TE} (G : Good T W Φ k N sc X) (tk : Takes X Wx) (B : Body T W X sc) (hi : N[i]? = some x) (hl : locB sc x = true) (hc : chkE T N sc e ex = true) (he : PE X ex te)
    (hr : ∀ sk tg srcs conds elt, e = .comp sk tg srcs conds elt → ∀ σ H Q, te σ H Q → tC W Φ sk tg srcs conds elt Wx σ H Q)
    (hr2 : ∀ sk tg srcs conds sk2 tg2 srcs2 conds2 elt, e = .comp2 sk tg srcs conds sk2 tg2 srcs2 conds2 elt → ∀ σ H Q, te σ H Q → tC2 W Φ sk tg srcs conds sk2 tg2 srcs2 conds2 elt Wx σ H Q) : PS X (.Assign [.Name x p] ex pos) (tAsg te (gName i)) := by
  cases h : swB sc ex x p with
  | false => exact ps_set (by rw [G.hN]; exact G.nd) (by rw [G.hN]; exact hi) (by rw [G.hsc]; exact loc_of hl) he (sw_false G.hsc B.kind hc h) (.inl (B.fn x))
  | true =>
    obtain ⟨el, gs, scope, q, rfl, hx, hw⟩ := sw_true' (X := X) (l := pos.line) G.hsc B.kind h
    have alt : (∃ sk tg srcs conds elt, e = .comp sk tg srcs conds elt) ∨ ∃ sk tg srcs conds sk2 tg2 srcs2 conds2 elt, e = .comp2 sk tg srcs conds sk2 tg2 srcs2 conds2 elt := by
      cases e <;> first | exact .inl ⟨_, _, _, _, _, rfl⟩ | exact .inr ⟨_, _, _, _, _, _, _, _, _, rfl⟩ | exact absurd hc Bool.false_ne_true | skip
      rename_i b es
      cases b <;> exact absurd hc Bool.false_ne_true
    rcases alt with ⟨sk, tg, srcs, conds, elt, rfl⟩ | ⟨sk, tg, srcs, conds, sk2, tg2, srcs2, conds2, elt, rfl⟩
    rotate_left
    · have h0 := hc
      rw [chkE_comp2] at h0
      split at h0
      · rename_i el2 t i2 ifs t2 i3 ifs2 scope2 q2 eq
        cases eq
        rw [Bool.and_eq_true] at h0; obtain ⟨h1, h0⟩ := h0
        rw [Bool.and_eq_true] at h0; obtain ⟨g1, h0⟩ := h0
        rw [Bool.and_eq_true] at h0; obtain ⟨h2, h0⟩ := h0
        rw [Bool.and_eq_true] at h0; obtain ⟨h3, h0⟩ := h0
        rw [Bool.and_eq_true] at h0; obtain ⟨h4, h0⟩ := h0
        rw [Bool.and_eq_true] at h0; obtain ⟨h5, h0⟩ := h0
        rw [Bool.and_eq_true] at h0; obtain ⟨g4, h0⟩ := h0
        rw [Bool.and_eq_true] at h0; obtain ⟨g5, h0⟩ := h0
        rw [Bool.and_eq_true] at h0; obtain ⟨h6, h0⟩ := h0
        rw [Bool.and_eq_true] at h0; obtain ⟨g6, h0⟩ := h0
        have hv : (ownOf t tg ++ ownOf t2 tg2).map (·.2) = tg ++ tg2 := by rw [List.map_append, own_snd h1, own_snd g1]
        have hpe := ps_setLc2 (pos := q) (spos := pos) (vs1 := tg2) G.calm (by rw [G.hN]; exact G.nd) (by rw [G.hN]; exact hi) (by rw [G.hsc]; exact hx) hw (snd_src (fun e h => (snds srcs e h).e) G tk h1 h4) (G.blkOk h2) (fun i hi => by rw [hv]; exact List.mem_append.mpr (.inr hi)) (fun s H C cl fp => pg_blk G h1 h3 (fun p hp => List.mem_append.mpr (.inl hp)) s H C cl fp)
          (fun s H C cl fp => snd_conds (fun e h => (snds conds e h).t) (G.blk s H scope C cl fp) (takes0 : Takes _ W0) h5) (fun s H C cl fp => snd_src (fun e h => (snds srcs2 e h).e) (G.blk s H scope C cl fp) (takes0 : Takes _ W0) g1 g4) (fun s H C cl fp => pg_blk G g1 h3 (fun p hp => List.mem_append.mpr (.inr hp)) s H C cl fp) (fun s H C cl fp => snd_conds (fun e h => (snds conds2 e h).t) (G.blk s H scope C cl fp) (takes0 : Takes _ W0) g5) (fun s H C cl fp => (snd elt).e (G.blk s H scope C cl fp) (takes0 : Takes _ W0) h0) (fun x => noFold h6 _ x) (fun env x => noFold g6 env x)
        rw [hv] at hpe
        exact hpe.imp fun D σ H q => comp2_read (hr2 _ _ _ _ _ _ _ _ _ rfl _ _ _ q)
      · exact absurd h0 Bool.false_ne_true
    have h0 := hc
    rw [chkE_comp] at h0
    split at h0
    · rename_i el2 t i2 ifs scope2 q2 eq
      cases eq
      rw [Bool.and_eq_true] at h0; obtain ⟨h1, h0⟩ := h0
      rw [Bool.and_eq_true] at h0; obtain ⟨h2, h0⟩ := h0
      rw [Bool.and_eq_true] at h0; obtain ⟨h3, h0⟩ := h0
      rw [Bool.and_eq_true] at h0; obtain ⟨h4, h0⟩ := h0
      rw [Bool.and_eq_true] at h0; obtain ⟨h5, h0⟩ := h0
      rw [Bool.and_eq_true] at h0; obtain ⟨h6, h0⟩ := h0
      have hv := own_snd h1
      have hpe := ps_setLc (pos := q) (spos := pos) G.calm (by rw [G.hN]; exact G.nd) (by rw [G.hN]; exact hi) (by rw [G.hsc]; exact hx) hw (snd_src (fun e h => (snds srcs e h).e) G tk h1 h4) (G.blkOk h2) (fun s H C cl fp => pg_blk G h1 h3 (fun p hp => hp) s H C cl fp)
        (fun s H C cl fp => snd_conds (fun e h => (snds conds e h).t) (G.blk s H scope C cl fp) (takes0 : Takes _ W0) h5) (fun s H C cl fp => (snd elt).e (G.blk s H scope C cl fp) (takes0 : Takes _ W0) h0) (fun x => noFold h6 _ x)
      rw [hv] at hpe
      exact hpe.imp fun D σ H q => comp_read (hr _ _ _ _ _ rfl _ _ _ q)
    · exact absurd h0 Bool.false_ne_true
/-- the values of a comprehension, read from then on -/
theorem tE_tC {sk : Sk} {tg : List Nat} {srcs conds : List E} {elt : E} {σ : L2.St} {H : Hp} {Q : VK} (h : tE W Φ (.comp sk tg srcs conds elt) Wx σ H Q) : tC W Φ sk tg srcs conds elt Wx σ H Q := by
  obtain ⟨Δ, Z, hE, hz, q⟩ := h
  refine ⟨Δ, Z, hE, hz, ?_⟩
  rw [ev_compC] at q
  cases e : evC Φ sk tg srcs conds elt Δ with
  | ok ys =>
    rw [e] at q
    intro Z1 H1 p av Z' H' x hp s
    obtain ⟨m1, m2⟩ := s.fin hp
    exact q _ _ _ (x.trans m1) m2
  | ex c fs => rw [e] at q; exact q
  | bad => rw [e] at q; exact q
theorem tO_tC {sk : Sk} {tg : List Nat} {srcs conds : List E} {elt : E} {σ : L2.St} {H : Hp} {Q : VK} (h : tO W Φ (.comp sk tg srcs conds elt) Wx σ H Q) : tC W Φ sk tg srcs conds elt Wx σ H Q := by
  obtain ⟨Δ, Z, hE, hz, q⟩ := h
  have q : PostO W Z H (evC Φ sk tg srcs conds elt Δ) Q fun c d H' => Wx c d σ H' := q
  refine ⟨Δ, Z, hE, hz, ?_⟩
  cases e : evC Φ sk tg srcs conds elt Δ with
  | ok ys =>
    rw [e] at q
    intro Z1 H1 p av Z' H' x hp s
    exact q p av Z' H' (x.trans ⟨s.hh, s.zz, s.zh, s.new⟩) s.zD (x.hh.free hp) s.at_ s.rep
  | ex c fs => rw [e] at q; exact q
  | bad => rw [e] at q; exact q
theorem tE_tC2 {sk : Sk} {tg : List Nat} {srcs conds : List E} {sk2 : Sk} {tg2 : List Nat} {srcs2 conds2 : List E} {elt : E} {σ : L2.St} {H : Hp} {Q : VK} (h : tE W Φ (.comp2 sk tg srcs conds sk2 tg2 srcs2 conds2 elt) Wx σ H Q) : tC2 W Φ sk tg srcs conds sk2 tg2 srcs2 conds2 elt Wx σ H Q := by
  obtain ⟨Δ, Z, hE, hz, q⟩ := h
  refine ⟨Δ, Z, hE, hz, ?_⟩
  rw [ev_comp2C] at q
  cases e : evC2 Φ sk tg srcs conds sk2 tg2 srcs2 conds2 elt Δ with
  | ok ys =>
    rw [e] at q
    intro Z1 H1 p av Z' H' x hp s
    obtain ⟨m1, m2⟩ := s.fin hp
    exact q _ _ _ (x.trans m1) m2
  | ex c fs => rw [e] at q; exact q
  | bad => rw [e] at q; exact q
theorem tO_tC2 {sk : Sk} {tg : List Nat} {srcs conds : List E} {sk2 : Sk} {tg2 : List Nat} {srcs2 conds2 : List E} {elt : E} {σ : L2.St} {H : Hp} {Q : VK} (h : tO W Φ (.comp2 sk tg srcs conds sk2 tg2 srcs2 conds2 elt) Wx σ H Q) : tC2 W Φ sk tg srcs conds sk2 tg2 srcs2 conds2 elt Wx σ H Q := by
  obtain ⟨Δ, Z, hE, hz, q⟩ := h
  exact False.elim q
end
end R
end

section
set_option autoImplicit true
set_option linter.all false
/-! printed by eqs.py R17 -/
namespace R
open PySem PySem.Spec PyProof.Rows L2
variable {T : Th} {N : List PySem.Str} {sc : Scope} {st : Stmt}
theorem chkS_set : chkS T N sc (.set i e) st = match st with
      | .Assign [.Name x _] ex _ => okI T i && (decide (N[i]? = some x) && (locB sc x && chkE T N sc e ex))
      | _ => false := rfl
theorem chkS_setc : chkS T N sc (.setc i e) st = match st with
      | .Assign [.Name x _] ex _ => okI T i && (decide (N[i]? = some x) && (locB sc x && chkE T N sc e ex))
      | _ => false := rfl
theorem chkS_own : chkS T N sc (.own i e) st = match st with
      | .Assign [.Name x _] ex _ => okI T i && (decide (N[i]? = some x) && (locB sc x && chkE T N sc e ex))
      | _ => false := rfl
theorem chkS_ownT : chkS T N sc (.ownT i f es) st = match st with
      | .Assign [.Name x _] (.Call fx xs ks q) _ => okI T i && (decide (N[i]? = some x) && (locB sc x && chkE T N sc (.call f es) (.Call fx xs ks q)))
      | _ => false := rfl
theorem chkS_popE : chkS T N sc (.popE j) st = match st with
      | .Expr (.Call (.Attribute (.Name y _) m p) [] [] q) _ => decide (m = "pop") && (nmB N sc j y && p.endLine == q.line)
      | _ => false := rfl
theorem chkS_retO : chkS T N sc (.retO e) st = match st with
      | .Return (some ex) _ => chkE T N sc e ex
      | _ => false := rfl
theorem chkS_mv : chkS T N sc (.mv i j) st = match st with
      | .Assign [.Name x _] (.Name y _) _ => okI T i && (decide (N[i]? = some x) && (locB sc x && nmB N sc j y))
      | _ => false := rfl
theorem chkS_al : chkS T N sc (.al u1 u2 u3) u4 = false := rfl
theorem chkS_frz : chkS T N sc (.frz u1) u2 = false := rfl
theorem chkS_gc : chkS T N sc .gc u1 = false := rfl
theorem chkS_frg : chkS T N sc (.frg u1) u2 = false := rfl
theorem chkS_ownM : chkS T N sc (.ownM i e) st = match st with
      | .Assign [.Name x _] ex _ => okI T i && (decide (N[i]? = some x) && (locB sc x && chkE T N sc e ex))
      | _ => false := rfl
theorem chkS_appM : chkS T N sc (.appM j e) st = match st with
      | .Expr (.Call (.Attribute (.Name y _) m p) [x] [] q) _ => decide (m = "append") && (nmB N sc j y && (p.endLine == q.line && (nst x && chkE T N sc e x)))
      | _ => false := rfl
theorem chkS_popA : chkS T N sc (.popA i j e) st = match st with
      | .Assign [.Name z _] (.Call (.Attribute (.Name y _) m p) [x] [] q) _ => okI T i && (decide (N[i]? = some z) && (locB sc z && (decide (m = "pop") && (nmB N sc j y && (p.endLine == q.line && (nst x && chkE T N sc e x))))))
      | _ => false := rfl
theorem chkS_unpL : chkS T N sc (.unpL i j e) st = match st with
      | .Assign [.Tuple [.Name x _, .Name y _] _ _] ex _ => okI T i && (okI T j && (decide (N[i]? = some x) && (decide (N[j]? = some y) && (locB sc x && (locB sc y && (nTup ex && chkE T N sc e ex))))))
      | _ => false := rfl
theorem chkS_ini : chkS T N sc (.ini u1 u2 u3) u4 = false := rfl
theorem chkS_app : chkS T N sc (.app j e) st = match st with
      | .Expr (.Call (.Attribute (.Name y _) m p) [x] [] q) _ => decide (m = "append") && (nmB N sc j y && (p.endLine == q.line && (nst x && chkE T N sc e x)))
      | _ => false := rfl
theorem chkS_appV : chkS T N sc (.appV u1 u2) u3 = false := rfl
theorem chkS_setI : chkS T N sc (.setI j ie e) st = match st with
      | .Assign [.Subscript (.Name y _) ix _] ex _ => nmB N sc j y && (nsl ix && (chkE T N sc ie ix && chkE T N sc e ex))
      | _ => false := rfl
theorem chkS_aug : chkS T N sc (.aug i o e) st = match st with
      | .AugAssign (.Name x _) op ex _ => okI T i && (decide (N[i]? = some x) && (locB sc x && ((match op, o with | .Add, .add => true | .Sub, .sub => true | _, _ => false) && chkE T N sc e ex)))
      | _ => false := rfl
theorem chkS_srt : chkS T N sc (.srt i e y neg) st = match st with
      | .Assign [.Name x _] (.Call (.Name f _) [src] [⟨some kw, lam, _⟩] _) _ => okI T i && (decide (N[i]? = some x) && (locB sc x && (decide (f = "sorted") && (decide (kw = "key") && (T.lam && (glB sc "sorted" && (nst src && (chkE T N sc e src && keyB N sc y neg lam))))))))
      | _ => false := rfl
theorem chkS_srtR : chkS T N sc (.srtR e y neg) st = match st with
      | .Return (some (.Call (.Name f _) [src] [⟨some kw, lam, _⟩] _)) _ => decide (f = "sorted") && (decide (kw = "key") && (T.lam && (glB sc "sorted" && (nst src && (chkE T N sc e src && keyB N sc y neg lam)))))
      | _ => false := rfl
theorem chkS_appP : chkS T N sc (.appP j f e1 kz e2) st = match st with
      | .Expr (.Call (.Attribute (.Name y _) m p) [.Call (.Name g _) [x1, .Call (.Attribute (.Name y2 _) m2 p2) [x2] [] q2] [] _] [] q) _ =>
        decide (m = "append") && (nmB N sc j y && (p.endLine == q.line && (fnB T sc f g 2 && (nst x1 && (chkE T N sc e1 x1 && (decide (m2 = "pop") && (nmB N sc kz y2 && (p2.endLine == q2.line && (nst x2 && chkE T N sc e2 x2)))))))))
      | _ => false := rfl
theorem chkS_unp : chkS T N sc (.unp i j e) st = match st with
      | .Assign [.Tuple [.Name x _, .Name y _] _ _] ex _ => okI T i && (okI T j && (decide (N[i]? = some x) && (decide (N[j]? = some y) && (locB sc x && (locB sc y && (nTup ex && chkE T N sc e ex))))))
      | _ => false := rfl
theorem chkS_ret : chkS T N sc (.ret e) st = match st with
      | .Return (some ex) _ => chkE T N sc e ex
      | _ => false := rfl
theorem chkS_retN : chkS T N sc .retN st = match st with
      | .Return none _ => true
      | _ => false := rfl
theorem chkS_retV : chkS T N sc (.retV u1) u2 = false := rfl
theorem chkS_ifs : chkS T N sc (.ifs c a b) st = match st with
      | .If t x y _ => tok c && (chkE T N sc c t && (chkSs T N sc a x && chkSs T N sc b y))
      | _ => false := rfl
theorem chkS_whl : chkS T N sc (.whl c b u1) st = match st with
      | .While t x [] _ => tok c && (chkE T N sc c t && chkSs T N sc b x)
      | _ => false := rfl
theorem chkS_fr : chkS T N sc (.fr sk tg srcs b u1) st = match st with
      | .For t i x [] _ => tg.all (okI T) && (tgB N (ownOf t tg) t tg && ((ownOf t tg).all (fun p => locB sc p.1) && (chkI T N sc sk tg i srcs && (nset i && chkSs T N sc b x))))
      | _ => false := rfl
theorem chkS_expr : chkS T N sc (.expr e) st = match st with
      | .Expr ex _ => isCall ex && chkE T N sc e ex
      | _ => false := rfl
theorem chkS_pass : chkS T N sc .pass st = match st with
      | .Pass _ => true
      | _ => false := rfl
theorem chkS_brk : chkS T N sc .brk st = match st with
      | .Break _ => true
      | _ => false := rfl
theorem chkS_cnt : chkS T N sc .cnt st = match st with
      | .Continue _ => true
      | _ => false := rfl
theorem chkS_never : chkS T N sc .never u1 = true := rfl
theorem chkSs_l0 : chkSs T N sc [] sts = sts.isEmpty := rfl
theorem chkSs_cons1 : chkSs T N sc (x :: xs) sts = if ghost x then chkSs T N sc xs sts else match sts with
      | st :: r => chkS T N sc x st && chkSs T N sc xs r
      | [] => false := rfl
end R
end

section
set_option Elab.async false
set_option linter.all false
set_option maxRecDepth 100000
set_option maxHeartbeats 8000000
/-! R18: a statement that passes the check does what the compact form says. -/
namespace R
open PySem PySem.Spec PyProof.Rows L2
section
variable {T : Th} {W : Wo} {Φ : Or} {k : Nat} {N : List PySem.Str} {sc : Scope} {X : Cx} {Wx : WX} {D : Ends} {σ : L2.St} {H : Hp}
theorem ok_pin (G : Good T W Φ k N sc X) {i : Nat} (h : okI T i = true) : i = 0 → W.s0 = none := fun e => by
  subst e
  cases q : W.s0 with
  | none => rfl
  | some u =>
    have := G.hid (by rw [q]; simp)
    unfold okI at h
    rw [this] at h
    cases h
theorem sset {i : Nat} {e : E} {st : Stmt} (G : Good T W Φ k N sc X) (tk : Takes X Wx) (B : Body T W X sc) (h : chkS T N sc (.set i e) st = true) : PS X st (tS W (exS Φ (.set i e)) Wx) := by
  rw [chkS_set] at h
  split at h
  · rename_i x p ex pos
    obtain ⟨hk0, h⟩ := ba h
    obtain ⟨h1, h2⟩ := ba h
    obtain ⟨h2, h3⟩ := ba h2
    refine (asg_gen G tk B (de h1) h2 h3 ((snd e).e G tk h3) (fun sk tg srcs conds elt q σ H Q r => by subst q; exact tE_tC r) (fun sk tg srcs conds sk2 tg2 srcs2 conds2 elt q σ H Q r => by subst q; exact tE_tC2 r)).imp fun D σ H ⟨Z0, H0, s, Z, as, R, q⟩ => ?_
    rw [exS_set] at q
    refine ⟨mask s, Z, R.envM, R.x.zh, read_mask R q fun d v Z' H' _ x r q => ?_⟩
    exact q _ _ _ as ((R.stepM x).set (v := .sh d) (ok_pin G hk0) r) x.zz
  · exact absurd h Bool.false_ne_true
theorem ssetc {i : Nat} {e : E} {st : Stmt} (G : Good T W Φ k N sc X) (tk : Takes X Wx) (B : Body T W X sc) (h : chkS T N sc (.setc i e) st = true) : PS X st (tS W (exS Φ (.setc i e)) Wx) := by
  rw [chkS_setc] at h
  split at h
  · rename_i x p ex pos
    obtain ⟨hk0, h⟩ := ba h
    obtain ⟨h1, h2⟩ := ba h
    obtain ⟨h2, h3⟩ := ba h2
    refine (asg_gen G tk B (de h1) h2 h3 ((snd e).e G tk h3) (fun sk tg srcs conds elt q σ H Q r => by subst q; exact tE_tC r) (fun sk tg srcs conds sk2 tg2 srcs2 conds2 elt q σ H Q r => by subst q; exact tE_tC2 r)).imp fun D σ H ⟨Z0, H0, s, Z, as, R, q⟩ => ?_
    rw [exS_setc] at q
    refine ⟨snap s, _, R.env, R.zsH, read_snap R q fun d v Z' H' _ x r q => ?_⟩
    split at q
    · rename_i hn
      exact q _ _ _ as ((R.step x).set (v := .sh d) (ok_pin G hk0) (R.keep x r hn)) (R.cutSame x)
    · rw [PostS_bad] at q; exact q.elim
  · exact absurd h Bool.false_ne_true
theorem sown {i : Nat} {e : E} {st : Stmt} (G : Good T W Φ k N sc X) (tk : Takes X Wx) (B : Body T W X sc) (h : chkS T N sc (.own i e) st = true) : PS X st (tS W (exS Φ (.own i e)) Wx) := by
  rw [chkS_own] at h
  split at h
  · rename_i x p ex pos
    obtain ⟨hk0, h⟩ := ba h
    obtain ⟨h1, h2⟩ := ba h
    obtain ⟨h2, h3⟩ := ba h2
    refine (asg_gen G tk B (de h1) h2 h3 (own G tk h3) (fun sk tg srcs conds elt q σ H Q r => by subst q; exact tO_tC r) (fun sk tg srcs conds sk2 tg2 srcs2 conds2 elt q σ H Q r => by subst q; exact tO_tC2 r)).imp fun D σ H ⟨Z0, H0, s, Z, as, R, q⟩ => ?_
    rw [exS_own] at q
    refine ⟨snap s, _, R.env, R.zsH, ?_⟩
    cases r : evO Φ e (snap s) with
    | ex c fs =>
      rw [r] at q
      exact fun dx Z' H' x e => q dx σ H' _ as Z' (R.step x) (R.extZ x) e
    | bad => rw [r] at q; exact q
    | ok ds =>
      rw [r] at q
      intro a vs Z' H' x zp hp hq rv
      simp only [onR_ok] at q
      split at q
      · rename_i hn
        have R2 := R.step x
        have np : a ∉ as := fun m => (R.ne a m).1 hp
        have R3 := R2.alloc (p := a) hq (by
          unfold cutZ
          split
          · rfl
          · exact zp) (R.x.hh.free hp) np (RepSs.ofL (R.keepL x rv hn))
        refine q _ _ _ _ (R3.set (i := i) (v := .loc s.m.length) (u := .ref a) (ok_pin G hk0) ⟨a, ?_, rfl⟩) (R.cutSame x)
        rw [← R.al, List.getElem?_append_right (Nat.le_refl _), Nat.sub_self]
        rfl
      · rw [PostS_bad] at q; exact q.elim
  · exact absurd h Bool.false_ne_true
/-- a name is read -/
theorem nm_pe {j : Nat} {y : PySem.Str} {p : Pos} (G : Good T W Φ k N sc X) (h : nmB N sc j y = true) : PE X (.Name y p) (tVar j) := by
  unfold nmB at h
  obtain ⟨h1, h2⟩ := ba h
  obtain ⟨h2, h3⟩ := ba h2
  obtain ⟨h3, h4⟩ := plainNm_of h3
  exact pe_var (i := j) (by rw [G.hN]; exact de h1) (by rw [G.hsc]; exact vis_of h2) h3 h4
theorem slotV_get {s : PSt} {i : Nat} {v : SV} (h : slotV s i = some v) : s.g[i]? = some (some v) := by
  unfold slotV at h
  split at h
  · rename_i w e
    injection h with h
    subst h
    exact e
  · cases h
theorem cellOf_get {s : PSt} {j kk : Nat} {xs : List SV} (h : cellOf s j = some (kk, xs)) : s.g[j]? = some (some (.loc kk)) ∧ s.m[kk]? = some (.ls xs) := by
  unfold cellOf at h
  split at h
  · rename_i n e
    split at h
    · rename_i ys e2
      injection h with h
      injection h with h1 h2
      subst h1; subst h2
      exact ⟨slotV_get e, e2⟩
    · cases h
  · cases h
theorem smv {i j : Nat} {st : Stmt} (G : Good T W Φ k N sc X) (tk : Takes X Wx) (B : Body T W X sc) (h : chkS T N sc (.mv i j) st = true) : PS X st (tS W (exS Φ (.mv i j)) Wx) := by
  rw [chkS_mv] at h
  split at h
  · rename_i x p y p2 pos
    obtain ⟨hk0, h⟩ := ba h
    obtain ⟨h1, h2⟩ := ba h
    obtain ⟨h2, h3⟩ := ba h2
    refine (ps_set (by rw [G.hN]; exact G.nd) (by rw [G.hN]; exact de h1) (by rw [G.hsc]; exact loc_of h2) (nm_pe G h3) rfl (.inl (B.fn x))).imp fun D σ H ⟨Z0, H0, s, Z, as, R, q⟩ => ?_
    rw [exS_mv] at q
    split at q
    · rename_i v e
      obtain ⟨u, e1, r⟩ := R.slot j v (slotV_get e)
      exact ⟨u, e1, q _ _ _ as (R.set (ok_pin G hk0) r) (Same.refl _)⟩
    · rw [PostS_bad] at q; exact q.elim
  · exact absurd h Bool.false_ne_true
theorem sapp {j : Nat} {e : E} {st : Stmt} (G : Good T W Φ k N sc X) (tk : Takes X Wx) (B : Body T W X sc) (h : chkS T N sc (.app j e) st = true) : PS X st (tS W (exS Φ (.app j e)) Wx) := by
  rw [chkS_app] at h
  split at h
  · rename_i y p1 m p x cp pos
    obtain ⟨h1, h2⟩ := ba h
    obtain ⟨h2, h3⟩ := ba h2
    obtain ⟨h3, h4⟩ := ba h3
    obtain ⟨h4, h5⟩ := ba h4
    have e0 := de h1
    subst e0
    have hst := starEach_nst h4 [] X.env
    have hm := pe_bm (apos := p) (cpos := cp) PySem.F.plainAttrs_list PySem.F.slot_list_append PySem.F.type_list_append mt_append (nm_pe (p := p1) G h2) (pa_cons ((snd e).e G tk h5) pa_nil hst) rfl (by rw [hst]; rfl) h3 hst rfl
    refine (ps_expr hm rfl).imp fun D σ H ⟨Z0, H0, s, Z, as, R, q⟩ => ?_
    rw [exS_app] at q
    split at q
    · rename_i kk xs ec
      obtain ⟨c1, c2⟩ := cellOf_get ec
      obtain ⟨u, e1, a, ha, rfl⟩ := R.slot j _ c1
      obtain ⟨z, vs, hv, rv⟩ := R.cell kk xs c2 a ha
      refine ⟨_, e1, .inl ⟨rfl, vs, SqL.of hv⟩, snap s, _, R.env, R.zsH, read_snap R q fun d v Z' H' _ x r q => ?_⟩
      split at q
      · rename_i hn
        obtain ⟨hn1, hn2⟩ := ba hn
        have hn2 := de hn2
        have R2 := R.step x
        obtain ⟨z2, vs2, hv2, rv2⟩ := R2.cell kk xs c2 a ha
        refine ⟨a, vs2, v, rfl, rfl, hv2, ?_, ?_⟩
        · rw [rv2.length, ← LINE_eq]
          exact hn2
        · exact q _ _ _ as (R2.write c2 ha (rv2.append ⟨v, [], rfl, R.keep x r hn1, rfl⟩)) (R.cutSame x)
      · rw [PostS_bad] at q; exact q.elim
    · rw [PostS_bad] at q; exact q.elim
  · exact absurd h Bool.false_ne_true
theorem ssetI {j : Nat} {ie e : E} {st : Stmt} (G : Good T W Φ k N sc X) (tk : Takes X Wx) (B : Body T W X sc) (h : chkS T N sc (.setI j ie e) st = true) : PS X st (tS W (exS Φ (.setI j ie e)) Wx) := by
  rw [chkS_setI] at h
  split at h
  · rename_i y p1 ix p ex pos
    obtain ⟨h1, h2⟩ := ba h
    obtain ⟨h2, h3⟩ := ba h2
    obtain ⟨h3, h4⟩ := ba h3
    have hsw : swapsWithSole [.Subscript (.Name y p1) ix p] ex pos.line X.env = pure false := by
      show swapsWith ex (some (.Subscript (.Name y p1) ix p)) pos.line X.env = pure false
      cases ex <;> rfl
    have hst : swappedStores [.Subscript (.Name y p1) ix p] ex X.env = pure none := by cases ex <;> rfl
    have has : ∀ v, assign (.Subscript (.Name y p1) ix p) X.env v = (do
      let ov ← holding [v] (eval (.Name y p1) X.env)
      let iv ← holding [v, ov] (eval ix X.env)
      standAt p
      holding [v, ov, iv] (setItem ov iv v)
      release [v, ov, iv] []) := fun v => by
      cases ix <;> first | rfl | exact absurd h2 Bool.false_ne_true
    refine (ps_asg ((snd e).e G tk h4) (pg_sub (nm_pe G h1) ((snd ie).e G tk h3) set_list has) hsw hst rfl).imp fun D σ H ⟨Z0, H0, s, Z, as, R, q⟩ => ?_
    rw [exS_setI] at q
    refine ⟨snap s, _, R.env, R.zsH, read_snap R q fun d v Z' H' _ x r q => ?_⟩
    split at q
    · rename_i kk xs ec
      obtain ⟨c1, c2⟩ := cellOf_get ec
      have R2 := R.step x
      obtain ⟨u, e1, a, ha, rfl⟩ := R2.slot j _ c1
      have q := PostS.weak q (R.cutSame x)
      refine ⟨_, e1, snap s, _, R2.env, R2.zsH, read_snap R2 q fun z w Z2 H2 _ x2 r2 q => ?_⟩
      split at q
      · rename_i zz _
        simp only [Rep] at r2
        subst r2
        split at q
        · rename_i hn
          split at q
          · rename_i pp hp
            have R3 := R2.step x2
            obtain ⟨z3, vs3, hv3, rv3⟩ := R3.cell kk xs c2 a ha
            refine ⟨a, vs3, zz, pp, rfl, rfl, hv3, by rw [rv3.length]; exact hp, ?_⟩
            exact q _ _ _ as (R3.write c2 ha (rv3.set (y := .sh d) ((R.keep x r hn).mono (R2.cutSame x2)) pp)) (R2.cutSame x2)
          · rw [PostS_bad] at q; exact q.elim
        · rw [PostS_bad] at q; exact q.elim
      · rw [PostS_bad] at q; exact q.elim
    · rw [PostS_bad] at q; exact q.elim
  · exact absurd h Bool.false_ne_true
theorem sunp {i j : Nat} {e : E} {st : Stmt} (G : Good T W Φ k N sc X) (tk : Takes X Wx) (B : Body T W X sc) (h : chkS T N sc (.unp i j e) st = true) : PS X st (tS W (exS Φ (.unp i j e)) Wx) := by
  rw [chkS_unp] at h
  split at h
  · rename_i x p1 y p2 kk p ex pos
    obtain ⟨hk0, h⟩ := ba h
    obtain ⟨hk1, h⟩ := ba h
    rw [Bool.and_eq_true] at h; obtain ⟨h1, h⟩ := h
    rw [Bool.and_eq_true] at h; obtain ⟨h2, h⟩ := h
    rw [Bool.and_eq_true] at h; obtain ⟨h3, h⟩ := h
    rw [Bool.and_eq_true] at h; obtain ⟨h4, h⟩ := h
    rw [Bool.and_eq_true] at h; obtain ⟨h5, h⟩ := h
    have nd : X.N.Nodup := by rw [G.hN]; exact G.nd
    have hsw : swapsWithSole [.Tuple [.Name x p1, .Name y p2] kk p] ex pos.line X.env = pure false := by
      show swapsWith ex (some (.Tuple [.Name x p1, .Name y p2] kk p)) pos.line X.env = pure false
      cases ex <;> rfl
    have hst : swappedStores [.Tuple [.Name x p1, .Name y p2] kk p] ex X.env = pure none := by cases ex <;> first | rfl | exact absurd h5 Bool.false_ne_true
    have pg := pg_tup (k := kk) (pos := p) G.calm (pgs_cons (pg_name (pos := p1) nd (by rw [G.hN]; exact de h1) (by rw [G.hsc]; exact loc_of h3) (.inl (B.fn x))) (pgs_cons (pg_name (pos := p2) nd (by rw [G.hN]; exact de h2) (by rw [G.hsc]; exact loc_of h4) (.inl (B.fn y))) pgs_nil)) (n := 2)
    refine (ps_asg ((snd e).e G tk h) pg hsw hst rfl).imp fun D σ H ⟨Z0, H0, s, Z, as, R, q⟩ => ?_
    rw [exS_unp] at q
    refine ⟨mask s, Z, R.envM, R.x.zh, read_mask R q fun d v Z' H' _ x r q => ?_⟩
    split at q
    · rename_i a b _
      simp only [Rep] at r
      obtain ⟨t, us, rfl, r1, r2⟩ := r
      obtain ⟨u, w, rfl, q1, q2⟩ := r2.two
      rw [G.hK]
      refine ⟨t, [u, w], rfl, sqT_mono x.zh r1, rfl, u, [w], rfl, w, [], rfl, rfl, ?_⟩
      exact q _ _ _ as (((R.stepM x).set (v := .sh a) (ok_pin G hk0) q1).set (v := .sh b) (ok_pin G hk1) q2) x.zz
    · rw [PostS_bad] at q; exact q.elim
  · exact absurd h Bool.false_ne_true
theorem sret {e : E} {st : Stmt} (G : Good T W Φ k N sc X) (tk : Takes X Wx) (B : Body T W X sc) (h : chkS T N sc (.ret e) st = true) : PS X st (tS W (exS Φ (.ret e)) Wx) := by
  rw [chkS_ret] at h
  split at h
  · refine (ps_ret ((snd e).e G tk h)).imp fun D σ H ⟨Z0, H0, s, Z, as, R, q⟩ => ?_
    rw [exS_ret] at q
    refine ⟨snap s, _, R.env, R.zsH, read_snap R q fun d v Z' H' _ x r q => ?_⟩
    exact q v Z' H' [] (R.extZ x) (by simp only [RepT]; exact ⟨r, trivial⟩) (fun b hb => by cases hb) List.nodup_nil
  · exact absurd h Bool.false_ne_true
theorem sretN {st : Stmt} (G : Good T W Φ k N sc X) (tk : Takes X Wx) (B : Body T W X sc) (h : chkS T N sc .retN st = true) : PS X st (tS W (exS Φ .retN) Wx) := by
  rw [chkS_retN] at h
  split at h
  · refine ps_retN.imp fun D σ H ⟨Z0, H0, s, Z, as, R, q⟩ => ?_
    rw [exS_retN] at q
    exact q .non Z H [] R.x (by simp only [RepT, Rep]; trivial) (fun b hb => by cases hb) List.nodup_nil
  · exact absurd h Bool.false_ne_true
theorem sexpr {e : E} {st : Stmt} (G : Good T W Φ k N sc X) (tk : Takes X Wx) (B : Body T W X sc) (h : chkS T N sc (.expr e) st = true) : PS X st (tS W (exS Φ (.expr e)) Wx) := by
  rw [chkS_expr] at h
  split at h
  · rename_i ex pos
    obtain ⟨h1, h2⟩ := ba h
    have hsw : swapsWith ex none pos.line X.env = pure false := by cases ex <;> first | rfl | exact absurd h1 Bool.false_ne_true
    refine (ps_expr ((snd e).e G tk h2) hsw).imp fun D σ H ⟨Z0, H0, s, Z, as, R, q⟩ => ?_
    rw [exS_expr] at q
    refine ⟨snap s, _, R.env, R.zsH, read_snap R q fun d v Z' H' _ x r q => ?_⟩
    exact q _ _ _ as (R.step x) (R.cutSame x)
  · exact absurd h Bool.false_ne_true
theorem sif {c : E} {a b : List S} {st : Stmt} (G : Good T W Φ k N sc X) (tk : Takes X Wx) (B : Body T W X sc) (h : chkS T N sc (.ifs c a b) st = true)
    (ha : ∀ {sts : List Stmt}, chkSs T N sc a sts = true → PSs X sts (tS W (exSs Φ a) Wx)) (hb : ∀ {sts : List Stmt}, chkSs T N sc b sts = true → PSs X sts (tS W (exSs Φ b) Wx)) : PS X st (tS W (exS Φ (.ifs c a b)) Wx) := by
  rw [chkS_ifs] at h
  split at h
  · obtain ⟨h1, h2⟩ := ba h
    obtain ⟨h2, h3⟩ := ba h2
    obtain ⟨h3, h4⟩ := ba h3
    refine (ps_if ((snd c).t G tk h1 h2) (ha h3) (hb h4)).imp fun D σ H ⟨Z0, H0, s, Z, as, R, q⟩ => ?_
    rw [exS_ifs] at q
    refine ⟨snap s, _, R.env, R.zsH, read_snap R q fun d v Z' H' _ x r q => ?_⟩
    have e : v = d := r
    subst e
    cases v with
    | true => exact ⟨Z0, H0, s, _, as, R.step x, PostS.weak q (R.cutSame x)⟩
    | false => exact ⟨Z0, H0, s, _, as, R.step x, PostS.weak q (R.cutSame x)⟩
  · exact absurd h Bool.false_ne_true
/-- behind a turn -/
theorem turn_end {vs : List Nat} {n : Nat} {o : Out} {f : PSt → Out} {Z0 H0 Zi : Hp} {Nn : L2.St → Hp → Prop} (q : PostS W Z0 H0 Zi (nextTurn vs n o f) D Wx)
    (nn : ∀ σ H s Z as, Rel W Z0 H0 s σ H Z as → Same Zi Z → PostS W Z0 H0 Zi (f s) D Wx → Nn σ H) : PostS W Z0 H0 Zi o { D with nx := Nn, ct := Nn, bk := D.nx } Wx := by
  have go : ∀ s, PostS W Z0 H0 Zi (match tidy vs n s with | some s' => f s' | none => .bad) D Wx → ∀ σ H Z as, Rel W Z0 H0 s σ H Z as → Same Zi Z → Nn σ H := fun s q σ H Z as R z => by
    cases e : tidy vs n s with
    | none => rw [e] at q; exact False.elim q
    | some s' =>
      rw [e] at q
      obtain ⟨bs, R'⟩ := R.tidy e
      exact nn _ _ _ _ _ R' z q
  cases o with
  | nx s => exact go s q
  | ct s => exact go s q
  | bk s => exact q
  | rt t => exact q
  | ex c fs s => exact q
  | bad => exact q
theorem swhl {c : E} {b : List S} {vs : List Nat} {st : Stmt} (G : Good T W Φ k N sc X) (tk : Takes X Wx) (B : Body T W X sc) (h : chkS T N sc (.whl c b vs) st = true)
    (hb : ∀ {sts : List Stmt}, chkSs T N sc b sts = true → PSs X sts (tS W (exSs Φ b) Wx)) : PS X st (tS W (exS Φ (.whl c b vs)) Wx) := by
  rw [chkS_whl] at h
  split at h
  · obtain ⟨h1, h2⟩ := ba h
    obtain ⟨h2, h3⟩ := ba h2
    refine (ps_while B.own ((snd c).t G tk h1 h2) (hb h3)).imp fun D σ H ⟨Z0, H0, s, Z, as, R, q⟩ => ?_
    rw [exS_whl] at q
    unfold whlO at q
    split at q
    · rename_i hh
      refine ⟨fun m σ H => ∃ s' Z' as', Rel W Z0 H0 s' σ H Z' as' ∧ PostS W Z0 H0 Z' (whlR vs s.m.length (fun s => tob (ev Φ c (snap s))) (exSs Φ b) m s') D Wx, ⟨_, _, Z, as, R.wipe vs, q⟩, ?_⟩
      rintro m σ H ⟨s', Z', as', R', q'⟩
      cases m with
      | zero => rw [whlR, PostS_bad] at q'; exact q'.elim
      | succ m =>
        rw [whlR] at q'
        refine ⟨snap s', _, R'.env, R'.zsH, read_snap R' q' fun d v Z2 H2 _ x r q2 => ?_⟩
        have e : v = d := r
        subst e
        have R2 := R'.step x
        have z2 := R'.cutSame x
        cases v with
        | false =>
          simp only [Bool.false_eq_true, if_false] at q2 ⊢
          exact q2 _ _ _ _ R2 z2
        | true =>
          simp only [if_true] at q2 ⊢
          refine ⟨fun σ H => ∃ s' Z' as', Rel W Z0 H0 s' σ H Z' as' ∧ PostS W Z0 H0 Z' (whlR vs s.m.length (fun s => tob (ev Φ c (snap s))) (exSs Φ b) m s') D Wx, fun σ' H' w => ⟨m, Nat.lt_succ_self m, w⟩, Z0, H0, s', _, as', R2, ?_⟩
          exact turn_end (PostS.weak q2 z2) fun σ H s Z as R z q => ⟨s, Z, as, R, PostS.weak q z⟩
    · rw [PostS_bad] at q; exact q.elim
  · exact absurd h Bool.false_ne_true
theorem bind_tg {tg : List Nat} {d : _root_.R.D} {x : V} {s s' : PSt} {σ : L2.St} {H Z Z0 H0 : Hp} {as : List Addr} {Rr : L2.St → Hp → Prop} (h : bindS tg d s = some s') (hp : ∀ i ∈ tg, i = 0 → W.s0 = none) (R : Rel W Z0 H0 s σ H Z as) (r : Rep W Z d x)
    (go : ∀ σ2, Rel W Z0 H0 s' σ2 H Z as → Rr σ2 H) : gOf W.K tg x σ H Rr := by
  unfold bindS at h
  split at h
  · injection h with h
    subst h
    exact go _ (R.set (v := .sh d) (hp _ (by simp)) r)
  · split at h
    · rename_i a b
      injection h with h
      subst h
      simp only [Rep] at r
      obtain ⟨t, us, rfl, h1, h2⟩ := r
      obtain ⟨u, v, rfl, r1, r2⟩ := h2.two
      exact ⟨t, [u, v], rfl, sqT_mono R.x.zh h1, rfl, u, [v], rfl, v, [], rfl, rfl, go _ ((R.set (v := .sh a) (hp _ (by simp)) r1).set (v := .sh b) (hp _ (by simp)) r2)⟩
    · cases h
  · cases h
theorem sfr {sk : Sk} {tg : List Nat} {srcs : List E} {b : List S} {vs : List Nat} {st : Stmt} (G : Good T W Φ k N sc X) (tk : Takes X Wx) (B : Body T W X sc) (h : chkS T N sc (.fr sk tg srcs b vs) st = true)
    (hb : ∀ {sts : List Stmt}, chkSs T N sc b sts = true → PSs X sts (tS W (exSs Φ b) Wx)) : PS X st (tS W (exS Φ (.fr sk tg srcs b vs)) Wx) := by
  rw [chkS_fr] at h
  split at h
  · rename_i t it body pos
    obtain ⟨hk0, h⟩ := ba h
    rw [Bool.and_eq_true] at h; obtain ⟨h1, h⟩ := h
    rw [Bool.and_eq_true] at h; obtain ⟨h2, h⟩ := h
    rw [Bool.and_eq_true] at h; obtain ⟨h3, h⟩ := h
    rw [Bool.and_eq_true] at h; obtain ⟨h4, h⟩ := h
    have pg := pg_of G.hN G.nd G.calm G.hK h1 fun p hp => ⟨by rw [G.hsc]; exact loc_of (List.all_eq_true.mp h2 p hp), .inl (B.fn p.1)⟩
    refine (ps_for B.own G.calm (snd_src (fun e h => (snds srcs e h).e) G tk h1 h3) pg (hb h) (fun x => noFold h4 _ x)).imp fun D σ H ⟨Z0, H0, s, Z, as, R, q⟩ => ?_
    rw [exS_fr] at q
    -- the loop
    have loop : ∀ (items : List _root_.R.D) (J : It) (Zw Z1 : Hp) (H1 : Hp), (∀ Zx, (isRg sk = true ∨ Same Zw Zx) → Walk W J Zx items) → Same Zw Z1 → Rel W Z0 H0 s σ H1 Z1 as → PostS W Z0 H0 Z1 (forR vs s.m.length (fun x s => match bindS tg x s with | some s' => exSs Φ b s' | none => .bad) items ⟨wipeS s.g vs, s.m⟩) D Wx →
        ∃ Wd : Nat → Nat → L2.St → Hp → Prop, (∃ m, Wd 0 m σ H1) ∧ ∀ i m σ H, Wd i m σ H → (J.stop i H ∧ D.nx σ H) ∨ (J.go i H ∧ ∃ Nn : L2.St → Hp → Prop, (∀ σ' H', Nn σ' H' → ∃ m', m' < m ∧ Wd (i + 1) m' σ' H') ∧
          ∀ x H', J.yld i H x H' → gOf W.K tg x σ H' fun σ2 H2 => tS W (exSs Φ b) Wx { D with nx := Nn, ct := Nn, bk := D.nx } σ2 H2) := by
      intro items J Zw Z1 H1 wk zw R1 q1
      refine ⟨fun i m σ H => m = items.length - i ∧ i ≤ items.length ∧ ∃ s' Z' as', Rel W Z0 H0 s' σ H Z' as' ∧ Same Zw Z' ∧ PostS W Z0 H0 Z' (forR vs s.m.length (fun x s => match bindS tg x s with | some s' => exSs Φ b s' | none => .bad) (items.drop i) s') D Wx,
        ⟨_, rfl, Nat.zero_le _, _, Z1, as, R1.wipe vs, zw, q1⟩, ?_⟩
      rintro i m σ H ⟨rfl, hi, s', Z', as', R', zw', q'⟩
      have wk' := wk Z' (.inr zw')
      by_cases hlt : i < items.length
      · have hd : items[i]? = some items[i] := List.getElem?_eq_getElem hlt
        rw [List.drop_eq_getElem_cons hlt, forR] at q'
        refine .inr ⟨wk'.go i H _ R'.x.zh hd, fun σ H => ∃ s' Z' as', Rel W Z0 H0 s' σ H Z' as' ∧ Same Zw Z' ∧ PostS W Z0 H0 Z' (forR vs s.m.length (fun x s => match bindS tg x s with | some s' => exSs Φ b s' | none => .bad) (items.drop (i + 1)) s') D Wx, fun σ' H' w => ⟨items.length - (i + 1), by omega, rfl, hlt, w⟩, fun x H' y => ?_⟩
        obtain ⟨Z2, x2, r2⟩ := wk'.yld i H _ x H' Z' (Same.refl _) R'.x.zh hd y
        have R2 := R'.stepM x2
        cases eb : bindS tg items[i] s' with
        | none => rw [eb] at q'; exact False.elim q'
        | some s2 =>
          rw [eb] at q'
          refine bind_tg eb (fun i hi => ok_pin G (List.all_eq_true.mp hk0 i hi)) R2 r2 fun σ2 R3 => ⟨Z0, H0, s2, Z2, as', R3, ?_⟩
          exact turn_end (PostS.weak q' x2.zz) fun σ H s Z as R z q => ⟨s, Z, as, R, (zw'.trans x2.zz).trans z, PostS.weak q z⟩
      · have e : i = items.length := by omega
        subst e
        rw [List.drop_length, forR] at q'
        exact .inl ⟨wk'.stop _ H R'.x.zh (Nat.le_refl _), q' _ _ _ _ R' (Same.refl _)⟩
    have done : ∀ {a : Res (List _root_.R.D)}, isRg sk = true → (∀ r, a = r → PostS W Z0 H0 Z (onR r s fun items => forR vs s.m.length (fun x s => match bindS tg x s with | some s' => exSs Φ b s' | none => .bad) items ⟨wipeS s.g vs, s.m⟩) D Wx) → a = (evs Φ srcs (snap s)).bind (srcR sk) → tI W Φ sk srcs Wx σ H fun J H1 => ∃ Wd : Nat → Nat → L2.St → Hp → Prop, (∃ m, Wd 0 m σ H1) ∧ ∀ i m σ H, Wd i m σ H → (J.stop i H ∧ D.nx σ H) ∨ (J.go i H ∧ ∃ Nn : L2.St → Hp → Prop, (∀ σ' H', Nn σ' H' → ∃ m', m' < m ∧ Wd (i + 1) m' σ' H') ∧
          ∀ x H', J.yld i H x H' → gOf W.K tg x σ H' fun σ2 H2 => tS W (exSs Φ b) Wx { D with nx := Nn, ct := Nn, bk := D.nx } σ2 H2) := by
      intro a hr q ha
      refine ⟨snap s, _, R.env, R.zsH, ?_⟩
      have q := q _ rfl
      rw [← ha]
      cases a with
      | ok items => exact fun J Z1 H1 x wk wr => loop items J Z _ H1 (fun Zx _ => wr hr Zx) (R.cutSame x) (R.step x) (PostS.weak q (R.cutSame x))
      | ex c fs => exact fun dx Z' H' x e => q dx σ H' _ as Z' (R.step x) (R.extZ x) e
      | bad => exact q
    have done2 : ∀ {a : Res (List _root_.R.D)}, (∀ r, a = r → PostS W Z0 H0 Z (onR r s fun items => forR vs s.m.length (fun x s => match bindS tg x s with | some s' => exSs Φ b s' | none => .bad) items ⟨wipeS s.g vs, s.m⟩) D Wx) → a = (evs Φ srcs (mask s)).bind (srcR sk) → tI W Φ sk srcs Wx σ H fun J H1 => ∃ Wd : Nat → Nat → L2.St → Hp → Prop, (∃ m, Wd 0 m σ H1) ∧ ∀ i m σ H, Wd i m σ H → (J.stop i H ∧ D.nx σ H) ∨ (J.go i H ∧ ∃ Nn : L2.St → Hp → Prop, (∀ σ' H', Nn σ' H' → ∃ m', m' < m ∧ Wd (i + 1) m' σ' H') ∧
          ∀ x H', J.yld i H x H' → gOf W.K tg x σ H' fun σ2 H2 => tS W (exSs Φ b) Wx { D with nx := Nn, ct := Nn, bk := D.nx } σ2 H2) := by
      intro a q ha
      refine ⟨mask s, Z, R.envM, R.x.zh, ?_⟩
      have q := q _ rfl
      rw [← ha]
      cases a with
      | ok items =>
        refine fun J Z1 H1 x wk wr => loop items J Z1 Z1 H1 (fun Zx hz => ?_) (Same.refl _) (R.stepM x) (PostS.weak q x.zz)
        rcases hz with hz | hz
        · exact wr hz Zx
        · exact wk.mono hz
      | ex c fs => exact fun dx Z' H' x e => q dx σ H' _ as Z' (R.stepM x) (R.x.trans x) e
      | bad => exact q
    cases sk with
    | r1 => exact done rfl (fun r e => by rw [← e]; exact q) rfl
    | r2 => exact done rfl (fun r e => by rw [← e]; exact q) rfl
    | seq => exact done2 (fun r e => by rw [← e]; exact q) rfl
    | zip => exact done2 (fun r e => by rw [← e]; exact q) rfl
  · exact absurd h Bool.false_ne_true
theorem sownM {i : Nat} {e : E} {st : Stmt} (G : Good T W Φ k N sc X) (tk : Takes X Wx) (B : Body T W X sc) (h : chkS T N sc (.ownM i e) st = true) : PS X st (tS W (exS Φ (.ownM i e)) Wx) := by
  rw [chkS_ownM] at h
  split at h
  · rename_i x p ex pos
    obtain ⟨hk0, h⟩ := ba h
    obtain ⟨h1, h2⟩ := ba h
    obtain ⟨h2, h3⟩ := ba h2
    refine (asg_gen G tk B (de h1) h2 h3 (own G tk h3) (fun sk tg srcs conds elt q σ H Q r => by subst q; exact tO_tC r) (fun sk tg srcs conds sk2 tg2 srcs2 conds2 elt q σ H Q r => by subst q; exact tO_tC2 r)).imp fun D σ H ⟨Z0, H0, s, Z, as, R, q⟩ => ?_
    rw [exS_ownM] at q
    refine ⟨mask s, _, R.envM, R.x.zh, ?_⟩
    cases r : evO Φ e (mask s) with
    | ex c fs =>
      rw [r] at q
      exact fun dx Z' H' x e => q dx σ H' _ as Z' (R.stepM x) (R.x.trans x) e
    | bad => rw [r] at q; exact q
    | ok ds =>
      rw [r] at q
      intro a vs Z' H' x zp hp hq rv
      simp only [onR_ok] at q
      have np : a ∉ as := fun m => (R.ne a m).1 hp
      have R3 := (R.stepM x).alloc (p := a) hq zp (R.x.hh.free hp) np (RepSs.ofL rv)
      refine q _ _ _ _ (R3.set (i := i) (v := .loc s.m.length) (u := .ref a) (ok_pin G hk0) ⟨a, ?_, rfl⟩) x.zz
      rw [← R.al, List.getElem?_append_right (Nat.le_refl _), Nat.sub_self]
      rfl
  · exact absurd h Bool.false_ne_true
theorem sappM {j : Nat} {e : E} {st : Stmt} (G : Good T W Φ k N sc X) (tk : Takes X Wx) (B : Body T W X sc) (h : chkS T N sc (.appM j e) st = true) : PS X st (tS W (exS Φ (.appM j e)) Wx) := by
  rw [chkS_appM] at h
  split at h
  · rename_i y p1 m p x cp pos
    obtain ⟨h1, h2⟩ := ba h
    obtain ⟨h2, h3⟩ := ba h2
    obtain ⟨h3, h4⟩ := ba h3
    obtain ⟨h4, h5⟩ := ba h4
    have e0 := de h1
    subst e0
    have hst := starEach_nst h4 [] X.env
    have hm := pe_bm (apos := p) (cpos := cp) PySem.F.plainAttrs_list PySem.F.slot_list_append PySem.F.type_list_append mt_append (nm_pe (p := p1) G h2) (pa_cons ((snd e).e G tk h5) pa_nil hst) rfl (by rw [hst]; rfl) h3 hst rfl
    refine (ps_expr hm rfl).imp fun D σ H ⟨Z0, H0, s, Z, as, R, q⟩ => ?_
    rw [exS_appM] at q
    split at q
    · rename_i kk xs ec
      obtain ⟨c1, c2⟩ := cellOf_get ec
      obtain ⟨u, e1, a, ha, rfl⟩ := R.slot j _ c1
      obtain ⟨z, vs, hv, rv⟩ := R.cell kk xs c2 a ha
      refine ⟨_, e1, .inl ⟨rfl, vs, SqL.of hv⟩, mask s, _, R.envM, R.x.zh, read_mask R q fun d v Z' H' _ x r q => ?_⟩
      split at q
      · rename_i hn2
        have R2 := R.stepM x
        obtain ⟨z2, vs2, hv2, rv2⟩ := R2.cell kk xs c2 a ha
        refine ⟨a, vs2, v, rfl, rfl, hv2, ?_, ?_⟩
        · rw [rv2.length, ← LINE_eq]
          exact hn2
        · exact q _ _ _ as (R2.write c2 ha (rv2.append ⟨v, [], rfl, r, rfl⟩)) x.zz
      · rw [PostS_bad] at q; exact q.elim
    · rw [PostS_bad] at q; exact q.elim
  · exact absurd h Bool.false_ne_true
theorem saug {i : Nat} {o : O2} {e : E} {st : Stmt} (G : Good T W Φ k N sc X) (tk : Takes X Wx) (B : Body T W X sc) (h : chkS T N sc (.aug i o e) st = true) : PS X st (tS W (exS Φ (.aug i o e)) Wx) := by
  rw [chkS_aug] at h
  split at h
  · rename_i x p op ex pos
    obtain ⟨hk0, h⟩ := ba h
    obtain ⟨h1, h⟩ := ba h
    obtain ⟨h2, h⟩ := ba h
    obtain ⟨h3, h4⟩ := ba h
    have key : ∀ (f : Int → Int → Int) (hop : PIp X op (ipI f)), (∀ a b, op2 o (.int a) (.int b) = .ok (.int (f a b))) → PS X (.AugAssign (.Name x p) op ex pos) (tS W (exS Φ (.aug i o e)) Wx) := by
      intro f hop hf
      refine (ps_aug (i := i) (by rw [G.hN]; exact G.nd) (by rw [G.hN]; exact de h1) (by rw [G.hsc]; exact loc_of h2) ((snd e).e G tk h4) hop (.inl (B.fn x))).imp fun D σ H ⟨Z0, H0, s, Z, as, R, q⟩ => ?_
      rw [exS_aug] at q
      split at q
      · rename_i a ea
        obtain ⟨u, e1, r1⟩ := R.slot i _ (slotV_get ea)
        have r1 : Rep W Z (.int a) u := r1
        simp only [Rep] at r1
        subst r1
        refine ⟨_, e1, snap s, _, R.env, R.zsH, read_snap R q fun d v Z' H' _ x r q => ?_⟩
        split at q
        · rename_i b _
          simp only [Rep] at r
          subst r
          rw [hf] at q
          simp only [onR_ok, isInt, if_true] at q
          refine ⟨_, _, rfl, rfl, ?_⟩
          exact q _ _ _ as ((R.step x).set (v := .sh (.int (f a b))) (ok_pin G hk0) (by show Rep W _ _ _; simp only [Rep])) (R.cutSame x)
        · rw [PostS_bad] at q; exact q.elim
      · rw [PostS_bad] at q; exact q.elim
    split at h3
    · exact key _ ip_add fun _ _ => rfl
    · exact key _ ip_sub fun _ _ => rfl
    · cases h3
  · exact absurd h Bool.false_ne_true
theorem srt_pe {e : E} {y : Nat} {neg : Bool} {src lam : Expr} {p kp pos : Pos} (G : Good T W Φ k N sc X) (tk : Takes X Wx) (B : Body T W X sc) (hl : T.lam = true) (hg : glB sc "sorted" = true) (hs : nst src = true) (he : chkE T N sc e src = true) (hk : keyB N sc y neg lam = true) :
    PE X (.Call (.Name "sorted" p) [src] [⟨some "key", lam, kp⟩] pos) (tSrt W Φ e y neg Wx) := by
  obtain ⟨c, P, F⟩ := B.lam hl
  unfold keyB at hk
  split at hk
  · rename_i yn hy
    obtain ⟨h1, h2⟩ := ba hk
    refine pe_srt G tk F he hs hg h2 hy ?_
    split at h1
    · assumption
    · cases h1
  · cases hk
theorem ssrt {i : Nat} {e : E} {y : Nat} {neg : Bool} {st : Stmt} (G : Good T W Φ k N sc X) (tk : Takes X Wx) (B : Body T W X sc) (h : chkS T N sc (.srt i e y neg) st = true) : PS X st (tS W (exS Φ (.srt i e y neg)) Wx) := by
  rw [chkS_srt] at h
  split at h
  · rename_i x p f fp src kw lam kp cp pos
    obtain ⟨hk0, h⟩ := ba h
    obtain ⟨h1, h⟩ := ba h
    obtain ⟨h2, h⟩ := ba h
    obtain ⟨h3, h⟩ := ba h
    obtain ⟨h4, h⟩ := ba h
    obtain ⟨h5, h⟩ := ba h
    obtain ⟨h6, h⟩ := ba h
    obtain ⟨h7, h⟩ := ba h
    obtain ⟨h8, h9⟩ := ba h
    have e0 := de h3
    have e1 := de h4
    subst e0 e1
    refine (ps_set (by rw [G.hN]; exact G.nd) (by rw [G.hN]; exact de h1) (by rw [G.hsc]; exact loc_of h2) (srt_pe G tk B h5 h6 h7 h8 h9) rfl (.inl (B.fn x))).imp fun D σ H ⟨Z0, H0, s, Z, as, R, q⟩ => ?_
    rw [exS_srt] at q
    refine ⟨mask s, Z, R.envM, R.x.zh, read_mask R q fun d v Z' H' _ x r q => ?_⟩
    exact q _ _ _ as ((R.stepM x).set (v := .sh d) (ok_pin G hk0) r) x.zz
  · exact absurd h Bool.false_ne_true
theorem ssrtR {e : E} {y : Nat} {neg : Bool} {st : Stmt} (G : Good T W Φ k N sc X) (tk : Takes X Wx) (B : Body T W X sc) (h : chkS T N sc (.srtR e y neg) st = true) : PS X st (tS W (exS Φ (.srtR e y neg)) Wx) := by
  rw [chkS_srtR] at h
  split at h
  · rename_i f fp src kw lam kp cp pos
    obtain ⟨h3, h⟩ := ba h
    obtain ⟨h4, h⟩ := ba h
    obtain ⟨h5, h⟩ := ba h
    obtain ⟨h6, h⟩ := ba h
    obtain ⟨h7, h⟩ := ba h
    obtain ⟨h8, h9⟩ := ba h
    have e0 := de h3
    have e1 := de h4
    subst e0 e1
    refine (ps_ret (srt_pe G tk B h5 h6 h7 h8 h9)).imp fun D σ H ⟨Z0, H0, s, Z, as, R, q⟩ => ?_
    rw [exS_srtR] at q
    refine ⟨mask s, Z, R.envM, R.x.zh, read_mask R q fun d v Z' H' _ x r q => ?_⟩
    exact q v Z' H' [] (R.x.trans x) ⟨r, rfl⟩ (fun b hb => by cases hb) List.nodup_nil
  · exact absurd h Bool.false_ne_true
theorem RepSs.erase {Z : Hp} {as : List Addr} : ∀ {xs : List SV} {vs : List V} (i : Nat), RepSs W Z as xs vs → RepSs W Z as (xs.eraseIdx i) (vs.eraseIdx i)
  | [], _, i, h => by rw [show _ = [] from h]; rfl
  | x :: xs, _, 0, ⟨v, us, e, h, t⟩ => by
    subst e
    exact t
  | x :: xs, _, i + 1, ⟨v, us, e, h, t⟩ => by
    subst e
    exact ⟨v, _, rfl, h, RepSs.erase i t⟩
theorem RepTs.sh {Z H : Hp} : ∀ {ts : List _root_.R.T} {ds : List _root_.R.D} {vs : List V} {bs : List Addr}, RepTs W Z H ts vs bs → optL _root_.R.T.shO ts = some ds → RepL W Z ds vs
  | [], ds, vs, bs, h, e => by
    simp only [optL, Option.some.injEq] at e
    subst e
    simp only [RepTs] at h
    rw [h.1]
    exact .nil
  | t :: ts, ds, vs, bs, h, e => by
    simp only [RepTs] at h
    obtain ⟨v, us, b1, b2, rfl, rfl, h1, h2⟩ := h
    unfold optL at e
    split at e
    · rename_i d e1
      split at e
      · rename_i ds' e2
        injection e with e
        subst e
        cases t with
        | sh d' =>
          simp only [_root_.R.T.shO, Option.some.injEq] at e1
          subst e1
          simp only [RepT] at h1
          exact .cons h1.1 (RepTs.sh h2 e2)
        | ow _ => cases e1
      · cases e
    · cases e
theorem RepTs.ofL {Z H : Hp} : ∀ {ds : List _root_.R.D} {vs : List V}, RepL W Z ds vs → RepTs W Z H (ds.map .sh) vs []
  | [], vs, h => by rw [h.unnil]; simp only [List.map_nil, RepTs]; trivial
  | d :: ds, vs, h => by
    obtain ⟨v, us, rfl, h1, h2⟩ := h.uncons
    simp only [List.map_cons, RepTs]
    exact ⟨v, us, [], [], rfl, rfl, by simp only [RepT]; exact ⟨h1, trivial⟩, RepTs.ofL h2⟩
theorem RepSs.dropLast {Z : Hp} {as : List Addr} : ∀ {xs : List SV} {vs : List V}, RepSs W Z as xs vs → RepSs W Z as xs.dropLast vs.dropLast
  | [], vs, h => by rw [show vs = [] from h]; rfl
  | [x], vs, ⟨v, us, e, h, t⟩ => by
    subst e
    rw [show us = [] from t]; rfl
  | x :: y :: xs, vs, ⟨v, us, e, h, t⟩ => by
    subst e
    obtain ⟨w, us', rfl, h', t'⟩ := t
    exact ⟨v, _, rfl, h, RepSs.dropLast (xs := y :: xs) ⟨w, us', rfl, h', t'⟩⟩
/-- a call, its result as it stands -/
theorem call_T {f : Nat} {es : List E} {ex : Expr} (iha : SndA T W Φ k N es) (G : Good T W Φ k N sc X) (tk : Takes X Wx) (h : chkE T N sc (.call f es) ex = true) : PE X ex fun σ H Q => ∃ Δ Z, EnvOk W Z σ Δ ∧ Zh W Z H ∧ PostT W Z H ((evs Φ es Δ).bind (Φ f)) Q fun c d H' => Wx c d σ H' := by
  rw [chkE_call] at h
  split at h
  · rename_i x p y ys pos
    rw [Bool.and_eq_true] at h; obtain ⟨h1, h⟩ := h
    rw [Bool.and_eq_true] at h; obtain ⟨h2, h⟩ := h
    rw [Bool.and_eq_true] at h; obtain ⟨h3, h⟩ := h
    obtain ⟨pa, hn⟩ := iha.es G tk h
    have hf : T.fns[f]? = some (.glob x (y :: ys).length) := by
      unfold fnIs at h1
      split at h1
      · rename_i z n e
        obtain ⟨e1, e2⟩ := ba h1
        rw [e, de e1, de e2]
      · exact absurd h1 Bool.false_ne_true
    obtain ⟨a, fd, ps, hl, g, kp, F, bd⟩ := G.fn f x _ hf
    rw [← G.hK] at kp F bd
    refine (pe_callS F G.room (gl_of G.hsc h2) g kp bd (E := WE Wx) (passAt tk) pa (plainNm_of h3).1 (starEach_nst (hn y List.mem_cons_self) _ _) (any_star (fun z hz => hn z (List.mem_cons_of_mem _ hz)) _ _)).imp fun σ H Q ⟨Δ, Z, hE, hz, q⟩ => ?_
    refine ⟨Δ, Z, hE, hz, ?_⟩
    cases e : evs Φ es Δ with
    | ex c fs => rw [e] at q; exact q
    | bad => rw [e] at q; exact q
    | ok ds =>
      rw [e] at q
      intro vs Z1 H1 x1 rv
      refine ⟨?_, ds, Z1, x1.zh, rv, ?_⟩
      · rw [rv.length, evs_len e, chk_len h, hl]
      · simp only [Res.bind_ok] at q
        cases r : Φ f ds with
        | ok t =>
          rw [r] at q
          intro v Z2 H2 as x2 rt fr nd
          exact q v Z2 H2 as (x1.trans x2) rt (fun b hb => ⟨x1.hh.free (fr b hb).1, (fr b hb).2⟩) nd
        | ex c fs =>
          rw [r] at q
          intro dx Z2 H2 x2 ee
          exact q dx Z2 H2 (x1.trans x2) ee
        | bad => rw [r] at q; exact q
  · exact absurd h Bool.false_ne_true
theorem sownT {i f : Nat} {es : List E} {st : Stmt} (G : Good T W Φ k N sc X) (tk : Takes X Wx) (B : Body T W X sc) (h : chkS T N sc (.ownT i f es) st = true) : PS X st (tS W (exS Φ (.ownT i f es)) Wx) := by
  rw [chkS_ownT] at h
  split at h
  · rename_i x p fx xs ks q pos
    obtain ⟨hk0, h⟩ := ba h
    obtain ⟨h1, h2⟩ := ba h
    obtain ⟨h2, h3⟩ := ba h2
    refine (ps_set (by rw [G.hN]; exact G.nd) (by rw [G.hN]; exact de h1) (by rw [G.hsc]; exact loc_of h2) (call_T (fun e h => (snds es e h).e) G tk h3) rfl (.inl (B.fn x))).imp fun D σ H ⟨Z0, H0, s, Z, as, R, q⟩ => ?_
    rw [exS_ownT] at q
    refine ⟨snap s, _, R.env, R.zsH, ?_⟩
    cases r : (evs Φ es (snap s)).bind (Φ f) with
    | ex c fs =>
      rw [r] at q
      exact fun dx Z' H' x e => q dx σ H' _ as Z' (R.step x) (R.extZ x) e
    | bad => rw [r] at q; exact q
    | ok t =>
      rw [r] at q
      intro v Z' H' bs x rt fr nd
      simp only [onR_ok] at q
      split at q
      · rename_i ds ed
        split at q
        · rename_i hn
          unfold owL at ed
          split at ed
          · rename_i ts
            simp only [RepT] at rt
            obtain ⟨a, vs, bs', rfl, hq, rfl, rts⟩ := rt
            obtain ⟨hp, zp⟩ := fr a List.mem_cons_self
            have rv := rts.sh ed
            have R2 := R.step x
            have np : a ∉ as := fun m => (R.ne a m).1 hp
            have R3 := R2.alloc (p := a) hq (by
              unfold cutZ
              split
              · rfl
              · exact zp) (R.x.hh.free hp) np (RepSs.ofL (R.keepL x rv hn))
            refine q _ _ _ _ (R3.set (i := i) (v := .loc s.m.length) (u := .ref a) (ok_pin G hk0) ⟨a, ?_, rfl⟩) (R.cutSame x)
            rw [← R.al, List.getElem?_append_right (Nat.le_refl _), Nat.sub_self]
            rfl
          · cases ed
        · rw [PostS_bad] at q; exact q.elim
      · rw [PostS_bad] at q; exact q.elim
  · exact absurd h Bool.false_ne_true
theorem sretO {e : E} {st : Stmt} (G : Good T W Φ k N sc X) (tk : Takes X Wx) (B : Body T W X sc) (h : chkS T N sc (.retO e) st = true) : PS X st (tS W (exS Φ (.retO e)) Wx) := by
  rw [chkS_retO] at h
  split at h
  · refine (ps_ret (own G tk h)).imp fun D σ H ⟨Z0, H0, s, Z, as, R, q⟩ => ?_
    rw [exS_retO] at q
    refine ⟨snap s, _, R.env, R.zsH, ?_⟩
    cases r : evO Φ e (snap s) with
    | ex c fs =>
      rw [r] at q
      exact fun dx Z' H' x e => q dx σ H' _ as Z' (R.step x) (R.extZ x) e
    | bad => rw [r] at q; exact q
    | ok ds =>
      rw [r] at q
      intro a vs Z' H' x zp hp hq rv
      refine q (.ref a) Z' H' [a] (R.extZ x) (by simp only [RepT]; exact ⟨a, vs, [], rfl, hq, rfl, RepTs.ofL rv⟩) (fun b hb => ?_) (by simp)
      rw [List.mem_singleton.mp hb]
      exact ⟨R.x.hh.free hp, zp⟩
  · exact absurd h Bool.false_ne_true
theorem spopE {j : Nat} {st : Stmt} (G : Good T W Φ k N sc X) (tk : Takes X Wx) (B : Body T W X sc) (h : chkS T N sc (.popE j) st = true) : PS X st (tS W (exS Φ (.popE j)) Wx) := by
  rw [chkS_popE] at h
  split at h
  · rename_i y p1 m p cp pos
    obtain ⟨h1, h2⟩ := ba h
    obtain ⟨h2, h3⟩ := ba h2
    have e0 := de h1
    subst e0
    have hm := pe_bm0 (apos := p) (cpos := cp) PySem.F.plainAttrs_list PySem.F.slot_list_pop PySem.F.type_list_pop mt_pop (nm_pe (p := p1) G h2) rfl h3
    refine (ps_expr hm rfl).imp fun D σ H ⟨Z0, H0, s, Z, as, R, q⟩ => ?_
    rw [exS_popE] at q
    split at q
    · rename_i kk xs ec
      obtain ⟨c1, c2⟩ := cellOf_get ec
      obtain ⟨u, e1, a, ha, rfl⟩ := R.slot j _ c1
      obtain ⟨z, vs, hv, rv⟩ := R.cell kk xs c2 a ha
      split at q
      · rename_i w hw
        obtain ⟨uu, hu, ru⟩ := rv.get hw
        refine ⟨_, e1, .inl ⟨rfl, vs, SqL.of hv⟩, a, vs, uu, rfl, rfl, hv, by rw [rv.length]; exact hu, ?_⟩
        exact q _ _ _ as (R.write c2 ha rv.dropLast) (Same.refl _)
      · rw [PostS_bad] at q; exact q.elim
    · rw [PostS_bad] at q; exact q.elim
  · exact absurd h Bool.false_ne_true
theorem spopA {i j : Nat} {e : E} {st : Stmt} (G : Good T W Φ k N sc X) (tk : Takes X Wx) (B : Body T W X sc) (h : chkS T N sc (.popA i j e) st = true) : PS X st (tS W (exS Φ (.popA i j e)) Wx) := by
  rw [chkS_popA] at h
  split at h
  · rename_i zn zp y p1 m p x cp pos
    obtain ⟨hk0, h⟩ := ba h
    obtain ⟨g1, h⟩ := ba h
    obtain ⟨g2, h⟩ := ba h
    obtain ⟨h1, h2⟩ := ba h
    obtain ⟨h2, h3⟩ := ba h2
    obtain ⟨h3, h4⟩ := ba h3
    obtain ⟨h4, h5⟩ := ba h4
    have e0 := de h1
    subst e0
    have hst := starEach_nst h4 [] X.env
    have hm := pe_bm (apos := p) (cpos := cp) PySem.F.plainAttrs_list PySem.F.slot_list_pop PySem.F.type_list_pop mt_popAt (nm_pe (p := p1) G h2) (pa_cons ((snd e).e G tk h5) pa_nil hst) rfl (by rw [hst]; rfl) h3 hst rfl
    refine (ps_set (by rw [G.hN]; exact G.nd) (by rw [G.hN]; exact de g1) (by rw [G.hsc]; exact loc_of g2) hm rfl (.inl (B.fn zn))).imp fun D σ H ⟨Z0, H0, s, Z, as, R, q⟩ => ?_
    rw [exS_popA] at q
    split at q
    · rename_i kk xs ec
      obtain ⟨c1, c2⟩ := cellOf_get ec
      obtain ⟨u, e1, a, ha, rfl⟩ := R.slot j _ c1
      obtain ⟨z, vs, hv, rv⟩ := R.cell kk xs c2 a ha
      refine ⟨_, e1, .inl ⟨rfl, vs, SqL.of hv⟩, snap s, _, R.env, R.zsH, read_snap R q fun d v Z' H' _ x r q => ?_⟩
      split at q
      · rename_i zz _
        simp only [Rep] at r
        subst r
        split at q
        · rename_i hz
          obtain ⟨z1, z2⟩ := ba hz
          unfold popR at q
          split at q
          · rename_i sv ys ep
            split at ep
            · rename_i pp hp
              split at ep
              · rename_i w hw
                injection ep with ep
                injection ep with ep1 ep2
                subst ep1; subst ep2
                have R2 := R.step x
                obtain ⟨z2', vs2, hv2, rv2⟩ := R2.cell kk xs c2 a ha
                obtain ⟨uu, hu, ru⟩ := rv2.get hw
                refine ⟨a, vs2, zz, pp, uu, rfl, rfl, hv2, de z1, de z2, by rw [rv2.length]; exact (ixN_seq hp).1, hu, ?_⟩
                exact q _ _ _ as ((R2.write c2 ha (RepSs.erase pp rv2)).set (v := w) (ok_pin G hk0) ru) (R.cutSame x)
              · cases ep
            · cases ep
          · rw [PostS_bad] at q; exact q.elim
        · rw [PostS_bad] at q; exact q.elim
      · rw [PostS_bad] at q; exact q.elim
    · rw [PostS_bad] at q; exact q.elim
  · exact absurd h Bool.false_ne_true
theorem sappP {j f : Nat} {e1 : E} {kz : Nat} {e2 : E} {st : Stmt} (G : Good T W Φ k N sc X) (tk : Takes X Wx) (B : Body T W X sc) (h : chkS T N sc (.appP j f e1 kz e2) st = true) : PS X st (tS W (exS Φ (.appP j f e1 kz e2)) Wx) := by
  rw [chkS_appP] at h
  split at h
  · rename_i y p1 m p g gp x1 y2 p3 m2 p2 x2 q2 cp2 q pos
    obtain ⟨h1, h⟩ := ba h
    obtain ⟨h2, h⟩ := ba h
    obtain ⟨h3, h⟩ := ba h
    obtain ⟨h4, h⟩ := ba h
    obtain ⟨h5, h⟩ := ba h
    obtain ⟨h6, h⟩ := ba h
    obtain ⟨h7, h⟩ := ba h
    obtain ⟨h8, h⟩ := ba h
    obtain ⟨h9, h⟩ := ba h
    obtain ⟨h10, h11⟩ := ba h
    have e0 := de h1
    have e01 := de h7
    subst e0 e01
    unfold fnB at h4
    obtain ⟨g1, h4⟩ := ba h4
    obtain ⟨g2, g3⟩ := ba h4
    split at g1
    · rename_i gx gm hf
      obtain ⟨g4, g5⟩ := ba g1
      have g4 := de g4
      have g5 : gm = 2 := by simpa using g5
      subst g4 g5
      obtain ⟨a, fd, ps, hl, hga, kp, F, bd⟩ := G.fn f _ _ hf
      rw [← G.hK] at kp F bd
      have hst2 := starEach_nst h10 [] X.env
      have hpop := pe_bm (apos := p2) (cpos := q2) PySem.F.plainAttrs_list PySem.F.slot_list_pop PySem.F.type_list_pop mt_popAt (nm_pe (p := p3) G h8) (pa_cons ((snd e2).e G tk h11) pa_nil hst2) rfl (by rw [hst2]; rfl) h9 hst2 rfl
      have hpa := pa_cons ((snd e1).e G tk h6) (pa_cons hpop pa_nil rfl) (starEach_nst h5 _ _)
      have hcall := pe_callS (p := gp) (pos := cp2) F G.room (gl_of G.hsc g2) hga kp bd (E := WE Wx) (passAt tk) hpa (plainNm_of g3).1 (starEach_nst h5 _ _) rfl
      have hm := pe_bm (apos := p) (cpos := q) PySem.F.plainAttrs_list PySem.F.slot_list_append PySem.F.type_list_append mt_append (nm_pe (p := p1) G h2) (pa_cons hcall pa_nil rfl) rfl rfl h3 rfl rfl
      refine (ps_expr hm rfl).imp fun D σ H ⟨Z0, H0, s, Z, as, R, q⟩ => ?_
      rw [exS_appP] at q
      split at q
      · rename_i cj ecj
        obtain ⟨jj0, xs0⟩ := cj
        obtain ⟨c1, c2⟩ := cellOf_get ecj
        obtain ⟨u, e1', aj, haj, rfl⟩ := R.slot j _ c1
        obtain ⟨z, vs, hv, rv⟩ := R.cell jj0 xs0 c2 aj haj
        refine ⟨_, e1', .inl ⟨rfl, vs, SqL.of hv⟩, ?_⟩
        refine ⟨snap s, _, R.env, R.zsH, read_snap R q fun d1 v1 Z1 H1 _ x r1 q => ?_⟩
        split at q
        · rename_i hn1
          split at q
          · rename_i kk xs ec
            obtain ⟨d1', d2'⟩ := cellOf_get ec
            have R2 := R.step x
            have r1 := R.keep x r1 hn1
            have q := PostS.weak q (R.cutSame x)
            obtain ⟨u2, e2', ak, hak, rfl⟩ := R2.slot kz _ d1'
            obtain ⟨z2, vs2, hv2, rv2⟩ := R2.cell kk xs d2' ak hak
            refine ⟨_, e2', .inl ⟨rfl, vs2, SqL.of hv2⟩, snap s, _, R2.env, R2.zsH, read_snap R2 q fun d2 v2 Z2 H2 _ x2 r2 q => ?_⟩
            split at q
            · rename_i zz _
              simp only [Rep] at r2
              subst r2
              split at q
              · rename_i hz
                obtain ⟨z1, z2⟩ := ba hz
                split at q
                · rename_i d3 ys ep
                  unfold popR at ep
                  split at ep
                  · rename_i pp hp
                    split at ep
                    · rename_i w hw
                      injection ep with ep
                      injection ep with ep1 ep2
                      subst ep1; subst ep2
                      have R3 := R2.step x2
                      have r1 := r1.mono (R2.cutSame x2)
                      have q := PostS.weak q (R2.cutSame x2)
                      obtain ⟨z3, vs3, hv3, rv3⟩ := R3.cell kk xs d2' ak hak
                      obtain ⟨uu, hu, ru⟩ := rv3.get hw
                      refine ⟨ak, vs3, zz, pp, uu, rfl, rfl, hv3, de z1, de z2, by rw [rv3.length]; exact (ixN_seq hp).1, hu, ?_⟩
                      have R4 := R3.write d2' hak (RepSs.erase pp rv3)
                      have pe := read_mask (Rp := Rep W) R4 q (Q := fun v H' => ∃ (a : Addr) (xs : List V) (y : V), V.ref aj = .ref a ∧ [v] = [y] ∧ H' a = some (.lst xs) ∧ xs.length < sizeLine ∧ D.nx σ (upd H' a (.lst (xs ++ [y])))) fun d v Z' H' _ x5 r5 q => ?_
                      · refine ⟨by rw [hl]; rfl, [d1, d3], _, R4.x.zh, .cons r1 (.cons ru .nil), ?_⟩
                        cases r : Φ f [d1, d3] with
                        | ok t =>
                          rw [r] at pe
                          intro v Z2 H2 as x2 rt fr nd
                          have x3 := x2.add (as := as) (fun b hb => (fr b hb).1) rt.lsts
                          exact pe v _ _ x3 (rt.close x2.zh)
                        | ex c fs => rw [r] at pe; exact pe
                        | bad => rw [r] at pe; exact pe
                      · split at q
                        · rename_i jj zs ecj2
                          split at q
                          · rename_i hn
                            obtain ⟨n1, n2⟩ := ba hn
                            have n2 := de n2
                            obtain ⟨c3, c4⟩ := cellOf_get ecj2
                            have R5 := R4.stepM x5
                            obtain ⟨uj, ej, aj2, haj2, rfl⟩ := R5.slot j _ c3
                            have : aj2 = aj := by
                              rw [e1'] at ej
                              injection ej with ej
                              injection ej with ej
                              injection ej with ej
                              exact ej.symm
                            subst this
                            obtain ⟨z6, vs6, hv6, rv6⟩ := R5.cell jj zs c4 aj2 haj2
                            refine ⟨aj2, vs6, v, rfl, rfl, hv6, ?_, ?_⟩
                            · rw [rv6.length, ← LINE_eq]
                              exact n2
                            · exact q _ _ _ as (R5.write c4 haj2 (rv6.append ⟨v, [], rfl, r5, rfl⟩)) x5.zz
                          · rw [PostS_bad] at q; exact q.elim
                        · rw [PostS_bad] at q; exact q.elim
                    · cases ep
                  · cases ep
                · rw [PostS_bad] at q; exact q.elim
              · rw [PostS_bad] at q; exact q.elim
            · rw [PostS_bad] at q; exact q.elim
          · rw [PostS_bad] at q; exact q.elim
        · rw [PostS_bad] at q; exact q.elim
      · rw [PostS_bad] at q; exact q.elim
    · cases g1
  · exact absurd h Bool.false_ne_true
theorem sunpL {i j : Nat} {e : E} {st : Stmt} (G : Good T W Φ k N sc X) (tk : Takes X Wx) (B : Body T W X sc) (h : chkS T N sc (.unpL i j e) st = true) : PS X st (tS W (exS Φ (.unpL i j e)) Wx) := by
  rw [chkS_unpL] at h
  split at h
  · rename_i x p1 y p2 kk p ex pos
    obtain ⟨hk0, h⟩ := ba h
    obtain ⟨hk1, h⟩ := ba h
    rw [Bool.and_eq_true] at h; obtain ⟨h1, h⟩ := h
    rw [Bool.and_eq_true] at h; obtain ⟨h2, h⟩ := h
    rw [Bool.and_eq_true] at h; obtain ⟨h3, h⟩ := h
    rw [Bool.and_eq_true] at h; obtain ⟨h4, h⟩ := h
    rw [Bool.and_eq_true] at h; obtain ⟨h5, h⟩ := h
    have nd : X.N.Nodup := by rw [G.hN]; exact G.nd
    have hsw : swapsWithSole [.Tuple [.Name x p1, .Name y p2] kk p] ex pos.line X.env = pure false := by
      show swapsWith ex (some (.Tuple [.Name x p1, .Name y p2] kk p)) pos.line X.env = pure false
      cases ex <;> rfl
    have hst : swappedStores [.Tuple [.Name x p1, .Name y p2] kk p] ex X.env = pure none := by cases ex <;> first | rfl | exact absurd h5 Bool.false_ne_true
    have pg := pg_lst (k := kk) (pos := p) G.calm (pgs_cons (pg_name (pos := p1) nd (by rw [G.hN]; exact de h1) (by rw [G.hsc]; exact loc_of h3) (.inl (B.fn x))) (pgs_cons (pg_name (pos := p2) nd (by rw [G.hN]; exact de h2) (by rw [G.hsc]; exact loc_of h4) (.inl (B.fn y))) pgs_nil)) (n := 2)
    refine (ps_asg ((snd e).e G tk h) pg hsw hst rfl).imp fun D σ H ⟨Z0, H0, s, Z, as, R, q⟩ => ?_
    rw [exS_unpL] at q
    refine ⟨mask s, Z, R.envM, R.x.zh, read_mask R q fun d v Z' H' _ x r q => ?_⟩
    split at q
    · rename_i a b _
      simp only [Rep] at r
      obtain ⟨t, us, rfl, r1, r2⟩ := r
      obtain ⟨u, w, rfl, q1, q2⟩ := r2.two
      refine ⟨t, [u, w], rfl, SqL.of (x.zh _ _ r1), rfl, u, [w], rfl, w, [], rfl, rfl, ?_⟩
      exact q _ _ _ as (((R.stepM x).set (v := .sh a) (ok_pin G hk0) q1).set (v := .sh b) (ok_pin G hk1) q2) x.zz
    · rw [PostS_bad] at q; exact q.elim
  · exact absurd h Bool.false_ne_true
theorem optL_shOf {Z : Hp} {as : List Addr} : ∀ {xs : List SV} {vs : List V} {ds : List _root_.R.D}, optL shOf xs = some ds → RepSs W Z as xs vs → RepL W Z ds vs
  | [], vs, ds, h, r => by
    simp only [optL, Option.some.injEq] at h
    subst h
    rw [show vs = [] from r]
    exact .nil
  | x :: xs, vs, ds, h, ⟨v, us, e, r, t⟩ => by
    subst e
    unfold optL at h
    split at h
    · rename_i y e1
      split at h
      · rename_i ys e2
        injection h with h
        subst h
        cases x with
        | sh d =>
          injection e1 with e1
          subst e1
          exact .cons r (optL_shOf e2 t)
        | loc k => cases e1
      · cases h
    · cases h
theorem Rel.frz {Z0 H0 Z : Hp} {s : PSt} {as : List Addr} (R : Rel W Z0 H0 s σ H Z as) (i : Nat) : ∃ s' Z' bs, (exS Φ (.frz i) s = .bad ∨ exS Φ (.frz i) s = .nx s') ∧ Rel W Z0 H0 s' σ H Z' bs ∧ Same Z Z' := by
  rw [exS_frz]
  unfold frzS
  split
  · rename_i kk e
    split
    · rename_i xs e2
      split
      · rename_i ds e3
        obtain ⟨u, e4, a, ha, rfl⟩ := R.slot i _ (slotV_get e)
        obtain ⟨z, vs, hv, rv⟩ := R.cell kk xs e2 a ha
        have n0 := (R.ne a (List.mem_of_getElem? ha)).2
        have zz : Same Z (addZ Z H [a]) := addZ_same R.x.zh _
        have za : addZ Z H [a] a = some (.lst vs) := by rw [addZ_in (List.mem_singleton.mpr rfl)]; exact hv
        refine ⟨_, addZ Z H [a], as, .inr rfl, ⟨⟨R.x.hh, R.x.zz.trans zz, addZ_H R.x.zh (fun b hb => by rw [List.mem_singleton.mp hb]; exact ⟨vs, hv⟩), fun b o q => ?_⟩, ?_, R.nd, ?_, R.ne, fun j w q => ?_, fun j ys q b hb => ?_, R.pin⟩, zz⟩
        · by_cases hb : b = a
          · subst hb; exact .inr n0
          · rw [addZ_out (by simpa using hb)] at q
            exact R.x.new b o q
        · show (s.g.set i _).length ≤ _
          rw [List.length_set]
          exact R.len
        · show as.length = (s.m.set kk .dead).length
          rw [List.length_set]
          exact R.al
        · have q9 : (s.g.set i (some (.sh (.lst ds))))[j]? = some (some w) := q
          clear q
          rw [List.getElem?_set] at q9
          split at q9
          · rename_i hj
            subst hj
            split at q9
            · injection q9 with q9
              injection q9 with q9
              subst q9
              refine ⟨_, e4, ?_⟩
              show Rep W _ (.lst ds) _
              simp only [Rep]
              exact ⟨a, vs, rfl, za, optL_shOf e3 (rv.mono zz)⟩
            · cases q9
          · obtain ⟨u, e1, r⟩ := R.slot j w q9
            exact ⟨u, e1, r.mono zz⟩
        · have q9 : (s.m.set kk .dead)[j]? = some (.ls ys) := q
          clear q
          rw [List.getElem?_set] at q9
          split at q9
          · split at q9 <;> cases q9
          · rename_i hj
            obtain ⟨z', us, q1, q2⟩ := R.cell j ys q9 b hb
            have hne : b ≠ a := fun e => by
              subst e
              have l1 := (List.getElem?_eq_some_iff.mp ha).1
              exact hj ((List.getElem?_inj l1 R.nd).mp (by rw [ha, hb]))
            exact ⟨by rw [addZ_out (by simpa using hne)]; exact z', us, q1, q2.mono zz⟩
      · exact ⟨s, Z, as, .inl rfl, R, Same.refl _⟩
    · exact ⟨s, Z, as, .inl rfl, R, Same.refl _⟩
  · exact ⟨s, Z, as, .inr rfl, R, Same.refl _⟩
theorem ixOf_some : ∀ {ks : List Nat} {k j : Nat}, ixOf ks k = some j → ks[j]? = some k
  | [], _, _, h => by cases h
  | x :: xs, k, j, h => by
    unfold ixOf at h
    split at h
    · rename_i e
      injection h with h
      subst h; subst e
      rfl
    · cases e : ixOf xs k with
      | none => rw [e] at h; cases h
      | some q =>
        rw [e] at h
        injection h with h
        subst h
        exact (ixOf_some e : xs[q]? = some k)
theorem ixOf_none : ∀ {ks : List Nat} {k : Nat}, ixOf ks k = none → k ∉ ks
  | [], _, _ => by simp
  | x :: xs, k, h => by
    unfold ixOf at h
    split at h
    · cases h
    · rename_i ne
      cases e : ixOf xs k with
      | none => exact fun m => (List.mem_cons.mp m).elim (fun q => ne q.symm) (ixOf_none e)
      | some q => rw [e] at h; cases h
def samV (ks : List Nat) : SV → SV → Prop
  | .sh d, .sh d' => d = d'
  | .loc k, .loc j => ks[j]? = some k
  | _, _ => False
theorem gcG_spec : ∀ (g : List (Option SV)) (ks : List Nat), ks.Nodup → (gcG g ks).2.Nodup ∧ (∃ ex, (gcG g ks).2 = ks ++ ex) ∧ (gcG g ks).1.length = g.length ∧ ∀ (i : Nat) (v : SV), (gcG g ks).1[i]? = some (some v) → ∃ v0, g[i]? = some (some v0) ∧ samV (gcG g ks).2 v0 v
  | [], ks, nd => ⟨nd, ⟨[], by simp [gcG]⟩, rfl, fun i v h => by simp [gcG] at h⟩
  | some (.loc kk) :: g, ks, nd => by
    rw [gcG]
    cases e : ixOf ks kk with
    | some j =>
      obtain ⟨h1, ⟨ex, h2⟩, h3, h4⟩ := gcG_spec g ks nd
      refine ⟨h1, ⟨ex, h2⟩, by simp [h3], fun i v h => ?_⟩
      cases i with
      | zero =>
        simp at h
        subst h
        exact ⟨_, rfl, by show (gcG g ks).2[j]? = some kk; rw [h2]; exact get_app (ixOf_some e)⟩
      | succ i => exact h4 i v h
    | none =>
      have nd' : (ks ++ [kk]).Nodup := by
        rw [List.nodup_append]
        refine ⟨nd, by simp, fun a ha b hb => ?_⟩
        rw [List.mem_singleton] at hb
        subst hb
        exact fun q => ixOf_none e (q ▸ ha)
      obtain ⟨h1, ⟨ex, h2⟩, h3, h4⟩ := gcG_spec g (ks ++ [kk]) nd'
      refine ⟨h1, ⟨[kk] ++ ex, by rw [h2, List.append_assoc]⟩, by simp [h3], fun i v h => ?_⟩
      cases i with
      | zero =>
        simp at h
        subst h
        refine ⟨_, rfl, ?_⟩
        show (gcG g (ks ++ [kk])).2[ks.length]? = some kk
        rw [h2]
        exact get_app (by simp)
      | succ i => exact h4 i v h
  | some (.sh d) :: g, ks, nd => by
    obtain ⟨h1, ⟨ex, h2⟩, h3, h4⟩ := gcG_spec g ks nd
    rw [gcG]
    · refine ⟨h1, ⟨ex, h2⟩, by simp [h3], fun i v h => ?_⟩
      cases i with
      | zero =>
        simp at h
        subst h
        exact ⟨_, rfl, rfl⟩
      | succ i => exact h4 i v h
    · intro q e; cases e
  | none :: g, ks, nd => by
    obtain ⟨h1, ⟨ex, h2⟩, h3, h4⟩ := gcG_spec g ks nd
    rw [gcG]
    · refine ⟨h1, ⟨ex, h2⟩, by simp [h3], fun i v h => ?_⟩
      cases i with
      | zero => simp at h
      | succ i => exact h4 i v h
    · intro q e; cases e
theorem flat_any {Z : Hp} {as bs : List Addr} : ∀ {xs : List SV} {vs : List V}, xs.all (SV.lt 0) = true → RepSs W Z as xs vs → RepSs W Z bs xs vs
  | [], _, _, h => h
  | .sh d :: xs, _, q, ⟨v, us, e, h, t⟩ => by
    rw [List.all_cons, Bool.and_eq_true] at q
    exact ⟨v, us, e, h, flat_any q.2 t⟩
  | .loc j :: xs, _, q, _ => by
    rw [List.all_cons, Bool.and_eq_true] at q
    have := of_decide_eq_true (show decide (j < 0) = true from q.1)
    omega
theorem Rel.gc {Z0 H0 Z : Hp} {s : PSt} {as : List Addr} (R : Rel W Z0 H0 s σ H Z as) : ∃ s' Z' bs, (exS Φ .gc s = .bad ∨ exS Φ .gc s = .nx s') ∧ Rel W Z0 H0 s' σ H Z' bs ∧ Same Z Z' := by
  rw [exS_gc]
  unfold gcS
  split
  · rename_i hq
    obtain ⟨h1, _, h3, h4⟩ := gcG_spec s.g [] List.nodup_nil
    have hk : ∀ kk ∈ (gcG s.g []).2, ∃ c a, s.m[kk]? = some c ∧ c.lt 0 = true ∧ as[kk]? = some a := fun kk hm => by
      have q := List.all_eq_true.mp hq kk hm
      cases e : s.m[kk]? with
      | none => rw [e] at q; cases q
      | some c =>
        rw [e] at q
        have l := (List.getElem?_eq_some_iff.mp e).1
        exact ⟨c, _, rfl, q, List.getElem?_eq_getElem (by rw [R.al]; exact l)⟩
    refine ⟨_, Z, (gcG s.g []).2.map fun kk => (as[kk]?).getD 0, .inr rfl, ⟨R.x, by show (gcG s.g []).1.length ≤ _; rw [h3]; exact R.len, ?_, by simp, fun a ha => ?_, fun i v e => ?_, fun j ys e b hb => ?_, R.pin⟩, Same.refl _⟩
    · rw [List.nodup_iff_pairwise_ne, List.pairwise_map]
      refine h1.imp_of_mem ?_
      intro x y hx hy ne
      obtain ⟨_, a, _, _, ea⟩ := hk x hx
      obtain ⟨_, b, _, _, eb⟩ := hk y hy
      rw [ea, eb]
      simp only [Option.getD_some]
      intro q
      subst q
      have l1 := (List.getElem?_eq_some_iff.mp ea).1
      exact ne ((List.getElem?_inj l1 R.nd).mp (by rw [ea, eb]))
    · obtain ⟨kk, hm, e⟩ := List.mem_map.mp ha
      obtain ⟨_, a', _, _, ea⟩ := hk kk hm
      rw [ea] at e
      simp only [Option.getD_some] at e
      subst e
      exact R.ne _ (List.mem_of_getElem? ea)
    · obtain ⟨v0, e0, sv⟩ := h4 i v e
      obtain ⟨u, e1, r⟩ := R.slot i v0 e0
      refine ⟨u, e1, ?_⟩
      cases v0 with
      | sh d =>
        cases v with
        | sh d' =>
          have sv : d = d' := sv
          subst sv
          exact r
        | loc j => exact sv.elim
      | loc kk =>
        cases v with
        | sh d' => exact sv.elim
        | loc j =>
          have sv : (gcG s.g []).2[j]? = some kk := sv
          obtain ⟨a, ea, eu⟩ := r
          exact ⟨a, by rw [List.getElem?_map, sv]; simp [ea], eu⟩
    · have e9 : ((gcG s.g []).2.map fun kk => (s.m[kk]?).getD .dead)[j]? = some (.ls ys) := e
      clear e
      rw [List.getElem?_map] at e9 hb
      cases ek : (gcG s.g []).2[j]? with
      | none => rw [ek] at e9; cases e9
      | some kk =>
        rw [ek] at e9 hb
        obtain ⟨c, a, e1, e2, e3⟩ := hk kk (List.mem_of_getElem? ek)
        simp only [Option.map_some, Option.some.injEq, e1, e3, Option.getD_some] at e9 hb
        subst e9; subst hb
        obtain ⟨z, vs, q1, q2⟩ := R.cell kk ys e1 a e3
        exact ⟨z, vs, q1, flat_any e2 q2⟩
  · exact ⟨s, Z, as, .inl rfl, R, Same.refl _⟩
mutual
theorem sS (G : Good T W Φ k N sc X) (tk : Takes X Wx) (B : Body T W X sc) : ∀ (x : S) {st : Stmt}, chkS T N sc x st = true → PS X st (tS W (exS Φ x) Wx)
  | .set i e, _, h => sset G tk B h
  | .setc i e, _, h => ssetc G tk B h
  | .own i e, _, h => sown G tk B h
  | .ownT i f es, _, h => sownT G tk B h
  | .popE j, _, h => spopE G tk B h
  | .retO e, _, h => sretO G tk B h
  | .mv i j, _, h => smv G tk B h
  | .al i j e, _, h => absurd h Bool.false_ne_true
  | .frz i, _, h => absurd h Bool.false_ne_true
  | .gc, _, h => absurd h Bool.false_ne_true
  | .frg vs, _, h => absurd h Bool.false_ne_true
  | .ownM i e, _, h => sownM G tk B h
  | .appM j e, _, h => sappM G tk B h
  | .popA i j e, _, h => spopA G tk B h
  | .unpL i j e, _, h => sunpL G tk B h
  | .ini b c es, _, h => absurd h Bool.false_ne_true
  | .app j e, _, h => sapp G tk B h
  | .appV j i, _, h => absurd h Bool.false_ne_true
  | .setI j ie e, _, h => ssetI G tk B h
  | .aug i o e, _, h => saug G tk B h
  | .srt i e y neg, _, h => ssrt G tk B h
  | .srtR e y neg, _, h => ssrtR G tk B h
  | .appP j f e1 kz e2, _, h => sappP G tk B h
  | .unp i j e, _, h => sunp G tk B h
  | .ret e, _, h => sret G tk B h
  | .retN, _, h => sretN G tk B h
  | .retV i, _, h => absurd h Bool.false_ne_true
  | .ifs c a b, _, h => sif G tk B h (fun q => sSs G tk B a q) (fun q => sSs G tk B b q)
  | .whl c b vs, _, h => swhl G tk B h (fun q => sSs G tk B b q)
  | .fr sk tg srcs b vs, _, h => sfr G tk B h (fun q => sSs G tk B b q)
  | .expr e, _, h => sexpr G tk B h
  | .pass, st, h => by
    rw [chkS_pass] at h
    split at h
    · refine ps_pass.imp fun D σ H ⟨Z0, H0, s, Z, as, R, q⟩ => ?_
      rw [exS_pass] at q
      exact q _ _ _ _ R (Same.refl _)
    · exact absurd h Bool.false_ne_true
  | .brk, st, h => by
    rw [chkS_brk] at h
    split at h
    · refine ps_break.imp fun D σ H ⟨Z0, H0, s, Z, as, R, q⟩ => ?_
      rw [exS_brk] at q
      exact q _ _ _ _ R (Same.refl _)
    · exact absurd h Bool.false_ne_true
  | .cnt, st, h => by
    rw [chkS_cnt] at h
    split at h
    · refine ps_continue.imp fun D σ H ⟨Z0, H0, s, Z, as, R, q⟩ => ?_
      rw [exS_cnt] at q
      exact q _ _ _ _ R (Same.refl _)
    · exact absurd h Bool.false_ne_true
  | .never, st, h => ps_never.imp fun D σ H ⟨Z0, H0, s, Z, as, R, q⟩ => q
theorem sSs (G : Good T W Φ k N sc X) (tk : Takes X Wx) (B : Body T W X sc) : ∀ (xs : List S) {sts : List Stmt}, chkSs T N sc xs sts = true → PSs X sts (tS W (exSs Φ xs) Wx)
  | [], sts, h => by
    rw [List.isEmpty_iff.mp h]
    exact pss_nil.imp fun D σ H ⟨Z0, H0, s, Z, as, R, q⟩ => q _ _ _ _ R (Same.refl _)
  | x :: xs, sts, h => by
    rw [chkSs_cons1] at h
    split at h
    · rename_i hg
      refine (sSs G tk B xs h).imp fun D σ H ⟨Z0, H0, s, Z, as, R, q⟩ => ?_
      obtain ⟨s', Z', bs, e, R', z⟩ : ∃ s' Z' bs, (exS Φ x s = .bad ∨ exS Φ x s = .nx s') ∧ Rel W Z0 H0 s' σ H Z' bs ∧ Same Z Z' := by
        cases x <;> first | exact R.frz (Φ := Φ) _ | exact R.gc (Φ := Φ) | exact ⟨_, _, _, .inr rfl, R.wipe _, Same.refl _⟩ | exact absurd hg Bool.false_ne_true
      rw [exSs_cons1] at q
      rcases e with e | e
      · rw [e] at q
        exact False.elim q
      · rw [e, Out.nxt_nx] at q
        exact ⟨Z0, H0, s', Z', bs, R', PostS.weak q z⟩
    · split at h
      · obtain ⟨h1, h2⟩ := ba h
        refine (pss_cons (sS G tk B x h1) (sSs G tk B xs h2)).imp fun D σ H ⟨Z0, H0, s, Z, as, R, q⟩ => ⟨Z0, H0, s, Z, as, R, PostS.nxt q⟩
      · exact absurd h Bool.false_ne_true
end
end
end R
end

section
set_option Elab.async false
set_option linter.all false
set_option maxRecDepth 100000
set_option maxHeartbeats 8000000
/-! R19: a text's defs, checked; each keeps its promise, however deep the calls. -/
namespace R
open PySem PySem.Spec PyProof.Rows L2
theorem lk_zip : ∀ {ps : List PySem.Str} {us : List Value} {p : PySem.Str × Value}, ps.Nodup → p ∈ ps.zip us → (ps.zip us).lookup p.1 = some p.2
  | [], _, _, _, h => by simp at h
  | x :: ps, [], _, _, h => by simp at h
  | x :: ps, u :: us, p, nd, h => by
    rw [List.zip_cons_cons] at h ⊢
    rw [List.lookup_cons]
    rcases List.mem_cons.mp h with h | h
    · subst h
      simp
    · have ne : p.1 ≠ x := fun e => (List.nodup_cons.mp nd).1 (e ▸ (List.of_mem_zip h).1)
      rw [show (p.1 == x) = false from beq_eq_false_iff_ne.mpr ne]
      exact lk_zip (List.nodup_cons.mp nd).2 h
theorem fm_zip : ∀ (ps : List PySem.Str) (us : List Value), ps.Nodup → us.length = ps.length → ∀ (g : PySem.Str → Option Value), (∀ p ∈ ps.zip us, g p.1 = some p.2) → (ps.filterMap fun n => (g n).map fun v => (n, v)) = ps.zip us
  | [], _, _, _, _, _ => by simp
  | x :: ps, [], _, hl, _, _ => by simp at hl
  | x :: ps, u :: us, nd, hl, g, h => by
    rw [List.zip_cons_cons] at h ⊢
    rw [List.filterMap_cons, h (x, u) List.mem_cons_self]
    simp only [Option.map_some]
    rw [fm_zip ps us (List.nodup_cons.mp nd).2 (by simpa using hl) g fun p hp => h p (List.mem_cons_of_mem _ hp)]
theorem fl_zip {ps : List PySem.Str} {us : List Value} (nd : ps.Nodup) (hl : us.length = ps.length) {l : List PySem.Str} (h : ∀ n ∈ l, n ∈ ps) : l.filter (fun n => ((ps.zip us).lookup n).isNone) = [] := by
  rw [List.filter_eq_nil_iff]
  intro n hn
  obtain ⟨i, hi, e⟩ := List.getElem_of_mem (h n hn)
  have m : (n, us[i]'(by omega)) ∈ ps.zip us := by
    rw [List.mem_iff_getElem]
    exact ⟨i, by rw [List.length_zip]; omega, by rw [List.getElem_zip, e]⟩
  rw [lk_zip nd m]
  simp
theorem bind_args (x qual : PySem.Str) (body : List Stmt) (scope : Scope) (kV doc pm : Value) (an : Option Addr) (cdv ct : Value) (as : List Arg) (us : List Value) (nd : (as.map (·.arg)).Nodup) (hl : us.length = as.length) : bindArgs (PySem.W.fnOf x qual ⟨[], as, none, [], [], none, []⟩ body scope .none kV doc pm an cdv ct) ⟨us, []⟩ = pure ((as.map (·.arg)).zip us) := by
  have hl' : us.length = (as.map (·.arg)).length := by rw [List.length_map]; exact hl
  have fm := fm_zip (as.map (·.arg)) us nd hl' ((((as.map (·.arg)).zip us)).lookup ·) fun p hp => lk_zip nd hp
  rw [List.filterMap_map] at fm
  unfold bindArgs
  simp [PySem.W.fnOf, seqItems?, hl]
  rw [show notAStandIn Value.none = pure () from rfl]
  simp only [pure_bind]
  rw [if_neg (by rw [fl_zip nd hl' fun n hn => by simpa using List.mem_of_mem_take hn]; simp)]
  exact congrArg pure fm

structure Fun where
  name : PySem.Str
  st : Stmt
  N : List PySem.Str
  d : Def
def argsB : Arguments → List PySem.Str → Bool
  | ⟨[], as, none, [], [], none, []⟩, ps => decide (as.map (·.arg) = ps)
  | _, _ => false
def scB (N ps : List PySem.Str) (sc : Scope) : Bool := (match sc.kind with | .function => true | _ => false) && (!sc.isCoroutine && (!sc.isGenerator && (decide (List.Nodup N) && (ps.all (locB sc) && sc.names.all fun y => match y.2 with | .free => false | _ => true))))
def Fun.ps (f : Fun) : List PySem.Str := f.N.take f.d.np
def chkF (T : Th) (f : Fun) : Bool := argsB (defArgs f.st) f.ps && (decide (f.d.np ≤ f.N.length) && (decide (f.d.ns = f.N.length) && (scB f.N f.ps (defScope f.st) && chkSs T f.N (defScope f.st) f.d.body (defBody f.st))))
theorem scope_of {N ps : List PySem.Str} {sc : Scope} (h : scB N ps sc = true) (hp : N.take ps.length = ps) : FnScope N ps sc := by
  unfold scB at h
  rw [Bool.and_eq_true] at h; obtain ⟨h1, h⟩ := h
  rw [Bool.and_eq_true] at h; obtain ⟨h2, h⟩ := h
  rw [Bool.and_eq_true] at h; obtain ⟨h3, h⟩ := h
  rw [Bool.and_eq_true] at h; obtain ⟨h4, h⟩ := h
  rw [Bool.and_eq_true] at h; obtain ⟨h5, h⟩ := h
  refine ⟨?_, by simpa using h2, by simpa using h3, de h4, hp, fun x hx => loc_of (List.all_eq_true.mp h5 x hx), fun y hy e => ?_⟩
  · split at h1
    · assumption
    · cases h1
  · have q := List.all_eq_true.mp h y hy
    rw [e] at q
    cases q
structure FunOk (K : PySem.W.Frag) (mg : PySem.Str → Option Value) (f : Fun) (a : Addr) (fd : FuncData) : Prop where
  g : mg f.name = some (.ref a)
  d : FunD K f.name f.name (defArgs f.st) (defBody f.st) (defScope f.st) [] [] a fd
theorem args_eq {st : Stmt} {ps : List PySem.Str} (h : argsB (defArgs st) ps = true) : ∃ as : List Arg, defArgs st = ⟨[], as, none, [], [], none, []⟩ ∧ as.map (·.arg) = ps := by
  unfold argsB at h
  split at h
  · rename_i as e
    exact ⟨as, e, de h⟩
  · cases h
theorem binds_of {K : PySem.W.Frag} {f : Fun} {a : Addr} {fd : FuncData} (F : FunD K f.name f.name (defArgs f.st) (defBody f.st) (defScope f.st) [] [] a fd) (h : argsB (defArgs f.st) f.ps = true) (nd : f.ps.Nodup) : Binds K fd f.ps [] := by
  obtain ⟨as, e, q⟩ := args_eq h
  refine FunD.bindsN F fun kV doc pm an cdv ct us hl => ?_
  rw [e, ← q]
  exact bind_args _ _ _ _ _ _ _ _ _ _ as us (by rw [q]; exact nd) (by rw [hl, ← q, List.length_map])
theorem binds_all {K : PySem.W.Frag} {f : Fun} {a : Addr} {fd : FuncData} (F : FunD K f.name f.name (defArgs f.st) (defBody f.st) (defScope f.st) [] [] a fd) (h : argsB (defArgs f.st) f.ps = true) (nd : f.ps.Nodup) (s : Shared) (us : List Value) (hl : us.length = f.ps.length) : BindsTo s fd ⟨us, []⟩ (f.ps.zip us) := by
  obtain ⟨as, e, q⟩ := args_eq h
  refine FunD.bindsA F (fun kV doc pm an cdv ct us hl => ?_) s us hl
  rw [e, ← q]
  exact bind_args _ _ _ _ _ _ _ _ _ _ as us (by rw [q]; exact nd) (by rw [hl, ← q, List.length_map])
theorem dc_ok (K : PySem.W.Frag) : PySem.W.specialIn K (.builtin "object.__class__") "__get__" = some (some (.builtin "getset_descriptor.__get__")) ∧ PySem.W.takesIn K (.builtin "object.__class__") = some true := ⟨by rfl, by rfl⟩
/-- the text's defs as the check names them -/
def thL (funs : List Fun) (b l : Bool) : Th := ⟨funs.map fun f => .glob f.name f.d.np, [], [], b, false, l⟩
abbrev thOf (funs : List Fun) (b : Bool) : Th := thL funs b false
section
variable {P : Program} {w : World} {K : PySem.W.Frag} {mg : PySem.Str → Option Value} {base : Heap}
theorem enter_rel {W : Wo} (h0 : W.s0 = none) {Z H : Hp} {ds : List D} {vs : List V} {N : List PySem.Str} {ns : Nat} (z : Zh W Z H) (r : RepL W Z ds vs) (hn : ns = N.length) (hl : vs.length ≤ N.length) : Rel W Z H (enter ns ds) (start N vs) H Z [] := by
  have l := r.length
  refine ⟨Ext.refl z, ?_, List.nodup_nil, rfl, fun a ha => by (cases ha), fun i v e => ?_, fun k xs e => by (simp [enter] at e), fun u hu => by rw [h0] at hu; cases hu⟩
  · unfold enter L2.start
    simp only [List.length_append, List.length_map, List.length_replicate]
    omega
  · unfold enter at e
    simp only at e
    by_cases hi : i < ds.length
    · rw [List.getElem?_append_left (by rw [List.length_map]; exact hi), List.getElem?_map, List.getElem?_eq_getElem hi] at e
      simp only [Option.map_some, Option.some.injEq] at e
      subst e
      obtain ⟨u, e1, r1⟩ := r.get (List.getElem?_eq_getElem hi)
      refine ⟨u, ?_, r1⟩
      unfold L2.start
      show (vs.map some ++ _)[i]? = _
      rw [List.getElem?_append_left (by rw [List.length_map]; omega), List.getElem?_map, e1]
      rfl
    · rw [List.getElem?_append_right (by rw [List.length_map]; omega), List.getElem?_replicate] at e
      split at e <;> cases e
/-- the name that a def's lambda bears -/
def lamQ (f : Fun) : PySem.Str := (envOfC f.name (defScope f.st) 0 0 .none).qual ++ "<lambda>"
theorem lamQ_eq {q : PySem.Str} {sc : Scope} {L a : Addr} {cd : Value} {f : Fun} (h1 : q = f.name) (h2 : sc = defScope f.st) : (envOfC q sc L a cd).qual ++ "<lambda>" = lamQ f := by
  subst h1 h2
  unfold lamQ
  exact congrArg (· ++ ("<lambda>" : PySem.Str)) rfl
theorem lamF_of {W : Wo} {mg : PySem.Str → Option Value} {base : Heap} {X : Cx} {q : PySem.Str} {sc : Scope} {L a : Addr} {cd : Value} {f : Fun} (e : X.env = envOfC q sc L a cd) (em : X.mg = mg) (eb : X.base = base) (h1 : q = f.name) (h2 : sc = defScope f.st)
    {c P : Addr} (q1 : cd = .ref c) (q2 : (P, lamQ f) ∈ W.tb) (q3 : ∀ p ∈ W.tb, p.1 = P → p.2 = lamQ f) (q4 : LamX.TabB base mg c P) : LamF W X c P := by
  have eq : X.env.qual ++ "<lambda>" = lamQ f := by rw [e]; exact lamQ_eq h1 h2
  refine ⟨by rw [e]; exact q1, by rw [eq]; exact q2, by rw [eq]; exact q3, by rw [em, eb]; exact q4⟩
/-- where a def's lambdas are told -/
def LamAt (W : Wo) (mg : PySem.Str → Option Value) (base : Heap) (f : Fun) (fd : FuncData) : Prop := ∃ c P, fd.code = .ref c ∧ (P, lamQ f) ∈ W.tb ∧ (∀ p ∈ W.tb, p.1 = P → p.2 = lamQ f) ∧ LamX.TabB base mg c P
theorem level (W : Wo) (hK : W.K = K) (hs0 : W.s0 = none) (h0 : W.nC = 0) (funs : List Fun) (b : Bool) (lm : Nat → Bool) (A : Nat → Addr) (FD : Nat → FuncData) (ff : ∀ i f, funs[i]? = some f → FunOk K mg f (A i) (FD i)) (blt : ∀ x ∈ bNames, mg x = none) (gcd : b = true → mg "gcd" = some (.builtin "math.gcd"))
    (chk : ∀ i f, funs[i]? = some f → chkF (thL funs b (lm i)) f = true) (lmf : ∀ i f, funs[i]? = some f → lm i = true → LamAt W mg base f (FD i)) : ∀ (n i : Nat) (f : Fun), funs[i]? = some f → FnOk P w K mg base (L2.CX P w) n (A i) (FD i) f.ps (spF W (run (funs.map (·.d)) n) i f.ps.length) := by
  intro n
  induction n with
  | zero =>
    intro i f hf
    refine ⟨fun vs H Q E h => h.1, fun A outer s H args us vs Q E _ _ _ _ h => ?_⟩
    obtain ⟨_, ds, Z, _, _, q⟩ := h
    exact q.elim
  | succ n ih =>
    intro i f hf
    have F := (ff i f hf).d
    have hc := chk i f hf
    unfold chkF at hc
    rw [Bool.and_eq_true] at hc; obtain ⟨h1, hc⟩ := hc
    rw [Bool.and_eq_true] at hc; obtain ⟨h2, hc⟩ := hc
    rw [Bool.and_eq_true] at hc; obtain ⟨h3, hc⟩ := hc
    rw [Bool.and_eq_true] at hc; obtain ⟨h4, hc⟩ := hc
    have h2 := de h2
    have h3 := de h3
    have hpl : f.ps.length = f.d.np := by unfold Fun.ps; rw [List.length_take]; omega
    have S := scope_of h4 (by rw [hpl]; rfl)
    obtain ⟨oc, od, dV, kV, doc, pm, an, cdv, ct, osl, efd, lk, hcd, _, _⟩ := F.ex
    have hlam := lmf i f hf
    rw [efd] at lk hlam
    rw [efd]
    refine fn_of lk hcd S (fun vs H Q E h => h.1) fun A' outer s H vs Q E hr h => ?_
    obtain ⟨hl, ds, Z, z, r, q⟩ := h
    have fnd : (funs.map (·.d))[i]? = some f.d := by rw [List.getElem?_map, hf]; rfl
    have hds : ds.length = f.d.np := by rw [← r.length, hl, hpl]
    rw [run, fnd] at q
    simp only at q
    rw [if_pos hds] at q
    refine ⟨tS W (exSs (run (funs.map (·.d)) n) f.d.body) fun cls d _ H => E cls d H, ?_, Z, H, enter f.d.ns ds, Z, [], enter_rel hs0 z r h3 (by rw [hl, hpl]; exact h2), ?_⟩
    · refine sSs (T := thL funs b (lm i)) (k := n) (N := f.N) ?_ (takes_of rfl rfl rfl rfl) ?_ f.d.body hc
      · refine ⟨rfl, S.nd, rfl, rfl, hr, hK.symm, blt, gcd, fun f' x m hf' => ?_, fun q => absurd hs0 q, h0, fun c ci e => by (simp [thL] at e), fun c ci e => by (simp [thL] at e), by rw [hK]; exact dc_ok K, fun f' c m ci e1 e2 => by (simp [thL] at e2)⟩
        unfold thL at hf'
        simp only at hf'
        rw [List.getElem?_map] at hf'
        cases e : funs[f']? with
        | none => rw [e] at hf'; cases hf'
        | some g =>
          rw [e] at hf'
          simp only [Option.map_some, Option.some.injEq, FnN.glob.injEq] at hf'
          obtain ⟨rfl, rfl⟩ := hf'
          have hg := chk f' g e
          unfold chkF at hg
          rw [Bool.and_eq_true] at hg; obtain ⟨g1, hg⟩ := hg
          rw [Bool.and_eq_true] at hg; obtain ⟨g2, hg⟩ := hg
          rw [Bool.and_eq_true] at hg; obtain ⟨g3, hg⟩ := hg
          rw [Bool.and_eq_true] at hg; obtain ⟨g4, hg⟩ := hg
          have g2 := de g2
          have gpl : g.ps.length = g.d.np := by unfold Fun.ps; rw [List.length_take]; omega
          have GS := scope_of g4 (by rw [gpl]; rfl)
          have GF := ff f' g e
          refine ⟨A f', FD f', g.ps, gpl, GF.g, ?_, ?_, ?_⟩
          · rw [hK]; exact GF.d.kp
          · rw [hK]; exact ih f' g e
          · rw [hK]; exact binds_of GF.d g1 (by rw [← GS.pre]; exact GS.nd.sublist (List.take_sublist _ _))
      · exact ⟨fun _ => rfl, passes_of (K := fun e s'' => L2.CX P w outer H s E e s'') rfl, S.kind, fun h => by
          obtain ⟨c, P', q1, q2, q3, q4⟩ := hlam h
          exact ⟨c, P', lamF_of (f := f) rfl rfl rfl rfl rfl q1 q2 q3 q4⟩⟩
    · cases e : exSs (run (funs.map (·.d)) n) f.d.body (enter f.d.ns ds) with
      | nx s' =>
        rw [e] at q
        exact fun σ H' Z' as R _ => q .non Z' H' [] R.x (by simp only [RepT, Rep]; trivial) (fun b hb => by cases hb) List.nodup_nil
      | bk s' => rw [e] at q; exact q.elim
      | ct s' => rw [e] at q; exact q.elim
      | rt t => rw [e] at q; exact q
      | ex c fs s' =>
        rw [e] at q
        exact fun dx σ H' Z' as Zx R x er => q dx Zx H' x er
      | bad => rw [e] at q; exact q.elim
end
end R
end

section
set_option Elab.async false
set_option linter.all false
set_option maxRecDepth 100000
set_option maxHeartbeats 8000000
/-! R20: what the head tells of a text; the law's def. -/
namespace R
open PySem PySem.Spec PyProof.Rows L2
/-- the head's facts with one Bool more -/
def hookG (n : Nat) (fa : List He.Fa) (fn : List He.DefD) (ex : PySem.W.Frag → Bool) : PySem.W.Hook where
  α := He.AlD × Bool
  obs := fun s => (He.obsDG n fa fn s.heap.get?, ex (He.frG s.heap.get? (He.asD s.heap.get? n)))
  val := fun _ => (He.valD fn, true)
  says := fun _ h => ∃ K : PySem.W.Frag, K.In h ∧ He.SaysD fa fn K ∧ ex K = true
  of := fun _ _ e => ⟨_, He.frG_in, congrArg (fun z : He.AlD × Bool => z.1) e, congrArg (fun z : He.AlD × Bool => z.2) e⟩
  keeps := fun _ _ _ ⟨K, hK, c⟩ k => ⟨K, PySem.W.Frag.In.keeps hK k, c⟩
def obsG (n : Nat) (fa : List He.Fa) (fn : List He.DefD) (ex : PySem.W.Frag → Bool) (g : Addr → Option Obj) : He.AlD × Bool := (He.obsDG n fa fn g, ex (He.frG g (He.asD g n)))
theorem obsG_eq {n : Nat} {fa : List He.Fa} {fn : List He.DefD} {ex : PySem.W.Frag → Bool} {g : Addr → Option Obj} {s : Shared} (h : ∀ a, g a = s.heap.get? a) : obsG n fa fn ex g = (hookG n fa fn ex).obs s := by
  have e : g = s.heap.get? := funext h
  rw [e] <;> rfl
def Fun.dd (f : Fun) : He.DefD := ⟨(f.name, none), f.name, f.name, defArgs f.st, defBody f.st, defScope f.st, [], []⟩
def faOf (funs : List Fun) : List He.Fa := (funs.map fun f => .glo f.name) ++ bNames.map .free
def exOf (b : Bool) (K : PySem.W.Frag) : Bool := !b || He.eqO (PySem.W.nsIn K mainGlobals "gcd") (some (some (.builtin "math.gcd")))
def woOf (K : PySem.W.Frag) : Wo := ⟨K, 0, fun _ => 0, fun _ => [], fun _ => 0, fun _ => [], none, []⟩
/-- what a def may let out, at some world -/
def CXa : CXT := fun outer H s E u s' => ∃ P w, L2.CX P w outer H s E u s'
theorem CXa_not {H : Hp} {s : Shared} {e : Value} {s' : Shared} (h : CXa [] H s (fun _ _ _ => False) e s') : False := by
  obtain ⟨P, w, _, _, _, _, _, _, _, _, _, _, _, _, z⟩ := h
  exact z
theorem fn_cxa {P : Program} {w : World} {K : PySem.W.Frag} {mg : PySem.Str → Option Value} {base : Heap} {k : Nat} {f : Addr} {fd : FuncData} {ps : List PySem.Str} {sp : Sp} (F : FnOk P w K mg base (L2.CX P w) k f fd ps sp) : FnOk P w K mg base CXa k f fd ps sp :=
  ⟨F.len, fun A outer s H args us vs Q E hr he hb hv hs => codeAny_mono (F.run A outer s H args us vs Q E hr he hb hv hs) fun r s' q => by
    cases r with
    | ok fl => cases fl <;> exact q
    | error e => exact ⟨P, w, q⟩⟩
theorem law_of {P : Program} {w : World} {K : PySem.W.Frag} {h : Heap} {mg : PySem.Str → Option Value} {fa : Addr} {funs : List Fun} {b : Bool} {i : Nat} {fl : Fun} {x : PySem.Str} {most n : Nat} (X : K.In h) (G : h.Ns mainGlobals mg) (c : He.SaysD (faOf funs) (funs.map Fun.dd) K) (ce : exOf b K = true)
    (chk : ∀ f ∈ funs, chkF (thOf funs b) f = true) (hi : funs[i]? = some fl) (hps : fl.ps = [x]) (hmg : mg fl.name = some (.ref fa)) (hrun : ∀ ns : List Int, ns.length ≤ most → run (funs.map (·.d)) n i [.fz (ns.map .int)] = .ok (.sh (.bl true))) :
    ∃ (K : PySem.W.Frag) (fd : FuncData) (sp : Sp), K.In h ∧ (∀ (s : Shared) (u : Value), BindsTo s fd ⟨[u], []⟩ [(x, u)]) ∧
        (∀ (H : Hp) (a : Addr) (ns : List Int), ns.length ≤ most → Only H → SqL K H a (ns.map V.int) → sp [.ref a] H (fun v _ => v = .bl true) fun _ _ _ => False) ∧
        ∀ base : Heap, K.In base → base.Ns mainGlobals mg → FnOk P w K mg base CXa n fa fd [x] sp := by
  have one : ∀ (j : Nat) (f : Fun), funs[j]? = some f → ∃ p : Addr × FuncData, FunOk K mg f p.1 p.2 := fun j f hf => by
    have hd : (funs.map Fun.dd)[j]? = some f.dd := by rw [List.getElem?_map, hf]; rfl
    obtain ⟨fd, F⟩ := c.def_ j hd
    have hl := (List.getElem?_eq_some_iff.mp hf).1
    have hg : (faOf funs)[j]? = some (.glo f.name) := by
      unfold faOf
      rw [List.getElem?_append_left (by rw [List.length_map]; exact hl), List.getElem?_map, hf]
      rfl
    exact ⟨(_, fd), He.glo_ok X G (c.fact j hg), F⟩
  obtain ⟨p0, h0⟩ := one i fl hi
  have all : ∀ j : Nat, ∃ p : Addr × FuncData, ∀ f : Fun, funs[j]? = some f → FunOk K mg f p.1 p.2 := fun j => by
    cases e : funs[j]? with
    | none => exact ⟨p0, fun f q => by cases q⟩
    | some f =>
      obtain ⟨p, hp⟩ := one j f e
      exact ⟨p, fun g q => by cases q; exact hp⟩
  obtain ⟨F, hF⟩ := Classical.axiomOfChoice all
  have blt : ∀ y ∈ bNames, mg y = none := fun y hy => by
    obtain ⟨j, hj, e⟩ := List.getElem_of_mem hy
    have hg : (faOf funs)[funs.length + j]? = some (.free y) := by
      unfold faOf
      rw [List.getElem?_append_right (by rw [List.length_map]; omega), List.length_map, Nat.add_sub_cancel_left, List.getElem?_map, List.getElem?_eq_getElem hj, e]
      rfl
    exact He.free_ok X G (c.fact _ hg)
  have gcd : b = true → mg "gcd" = some (.builtin "math.gcd") := fun hb => by
    unfold exOf at ce
    rw [hb] at ce
    exact PySem.W.mg_of X G (He.eqO_ok ce)
  have lv := fun base => level (P := P) (w := w) (base := base) (woOf K) rfl rfl rfl funs b (fun _ => false) (fun j => (F j).1) (fun j => (F j).2) (fun j f q => hF j f q) blt gcd (fun j f q => chk f (List.mem_of_getElem? q)) (fun _ _ _ h => nomatch h) n i fl hi
  have ok := hF i fl hi
  have ea : (F i).1 = fa := by
    have q := ok.g
    rw [hmg] at q
    injection q with q
    injection q with q
    exact q.symm
  have hc := chk fl (List.mem_of_getElem? hi)
  unfold chkF at hc
  rw [Bool.and_eq_true] at hc; obtain ⟨h1, hc⟩ := hc
  refine ⟨K, (F i).2, spF (woOf K) (run (funs.map (·.d)) n) i 1, X, fun s u => ?_, fun H a ns hl hO hS => ?_, fun base _ _ => ?_⟩
  · have q := binds_all ok.d h1 (by rw [hps]; simp) s [u] (by rw [hps]; rfl)
    rw [hps] at q
    exact q
  · refine ⟨rfl, [.fz (ns.map .int)], H, Zh.of0 rfl, ?_, ?_⟩
    · refine .cons ?_ .nil
      simp only [Rep]
      exact ⟨a, ns.map V.int, rfl, hS, RepL.ofInts ns⟩
    · rw [hrun ns hl]
      intro v Z' H' as x r _ _
      simp only [RepT, Rep] at r
      exact r.1
  · have q := lv base
    rw [hps, ea] at q
    exact fn_cxa q
end R
end

section
set_option Elab.async false
set_option linter.all false
set_option maxRecDepth 100000
set_option maxHeartbeats 8000000
/-! RL: the head of a text whose defs make lambdas: the code objects' tables. -/
namespace R
open PySem PySem.Spec PyProof.Rows L2
/-- a def's code object, its table -/
def lamC (K : PySem.W.Frag) (name : PySem.Str) : Option (Addr × Addr) := match K.lookup (He.fAd K (name, none)) with
  | some ⟨_, _, .func fd, _⟩ => (match fd.code with
    | .ref c => (match K.lookup c with
      | some ⟨_, _, .fields vs, _⟩ => (match (vs[11]? : Option Value) with
        | some (.ref P) => some (c, P)
        | _ => none)
      | _ => none)
    | _ => none)
  | _ => none
def hdB (K : PySem.W.Frag) (c P : Addr) : Bool := match K.lookup c with
  | some ⟨.type t, _, .fields vs, _⟩ => decide (t = "code") && (decide ((vs[11]? : Option Value) = some (.ref P)) && (decide (vs.getD 11 .none = .ref P) && ((match vs.getD 18 .none with | .str _ _ => true | _ => false) && ((match vs.getD 7 .none with | .int _ _ => true | _ => false) && ((match vs.getD 9 .none with | .bool _ => true | _ => false) && ((match vs.getD 10 .none with | .int _ _ => true | _ => false) && !(c == P)))))))
  | _ => false
def tabB (o : Option Obj) : Bool := match o with
  | some ⟨.none, none, .fields ps, sl⟩ => ps.isEmpty && sl.isEmpty
  | _ => false
def lamsB (g : Addr → Option Obj) (K : PySem.W.Frag) (lams : List PySem.Str) : Bool := (lams.all fun n => match lamC K n with
  | some (c, P) => hdB K c P && (tabB (g P) && (K.lookup P).isNone)
  | none => false) && decide ((lams.map fun n => (lamC K n).map (·.2)).Nodup)
structure LamsOk (K : PySem.W.Frag) (h : Heap) (lams : List PySem.Str) : Prop where
  each : ∀ n ∈ lams, ∃ c P, lamC K n = some (c, P) ∧ PySem.W.CodeHd h c P ∧ h.get? P = some { cls := .none, data := .fields #[] } ∧ K.lookup P = none
  nd : (lams.map fun n => (lamC K n).map (·.2)).Nodup
theorem hd_ok {K : PySem.W.Frag} {h : Heap} (X : K.In h) {c P : Addr} (e : hdB K c P = true) : PySem.W.CodeHd h c P := by
  unfold hdB at e
  split at e
  · rename_i t od vs sl hk
    obtain ⟨e1, e⟩ := ba e
    obtain ⟨e2, e⟩ := ba e
    obtain ⟨e3, e⟩ := ba e
    obtain ⟨e4, e⟩ := ba e
    obtain ⟨e5, e⟩ := ba e
    obtain ⟨e6, e⟩ := ba e
    obtain ⟨e7, e8⟩ := ba e
    have e1 := de e1
    subst e1
    split at e4
    · rename_i f ft h4
      split at e5
      · rename_i g gt h5
        split at e6
        · rename_i b h6
          split at e7
          · rename_i i it h7
            exact ⟨_, vs, f, ft, g, gt, b, i, it, X _ _ hk, rfl, rfl, de e2, de e3, h4, h5, h6, h7, by simpa using e8⟩
          · cases e7
        · cases e6
      · cases e5
    · cases e4
  · cases e
theorem tab_ok {o : Option Obj} (e : tabB o = true) : o = some { cls := .none, data := .fields #[] } := by
  unfold tabB at e
  split at e
  · rename_i ps sl
    obtain ⟨e1, e2⟩ := ba e
    rw [Array.isEmpty_iff] at e1 e2
    subst e1 e2
    rfl
  · cases e
theorem lams_ok {K : PySem.W.Frag} {h : Heap} {lams : List PySem.Str} (X : K.In h) (e : lamsB h.get? K lams = true) : LamsOk K h lams := by
  unfold lamsB at e
  obtain ⟨e1, e2⟩ := ba e
  refine ⟨fun n hn => ?_, de e2⟩
  have q := List.all_eq_true.mp e1 n hn
  split at q
  · rename_i c P hc
    obtain ⟨q1, q⟩ := ba q
    obtain ⟨q2, q3⟩ := ba q
    exact ⟨c, P, hc, hd_ok X q1, tab_ok q2, by simpa using q3⟩
  · cases q
theorem LamsOk.keeps {K : PySem.W.Frag} {h h' : Heap} {lams : List PySem.Str} (L : LamsOk K h lams) (k : ∀ b o, h.get? b = some o → h'.get? b = some o) : LamsOk K h' lams :=
  ⟨fun n hn => by
    obtain ⟨c, P, e1, e2, e3, e4⟩ := L.each n hn
    exact ⟨c, P, e1, e2.keeps k, k _ _ e3, e4⟩, L.nd⟩
def hookL (n : Nat) (fa : List He.Fa) (fn : List He.DefD) (ex : PySem.W.Frag → Bool) (lams : List PySem.Str) : PySem.W.Hook where
  α := He.AlD × Bool × Bool
  obs := fun s => (He.obsDG n fa fn s.heap.get?, ex (He.frG s.heap.get? (He.asD s.heap.get? n)), lamsB s.heap.get? (He.frG s.heap.get? (He.asD s.heap.get? n)) lams)
  val := fun _ => (He.valD fn, true, true)
  says := fun _ h => ∃ K : PySem.W.Frag, K.In h ∧ He.SaysD fa fn K ∧ ex K = true ∧ LamsOk K h lams
  of := fun _ _ e => ⟨_, He.frG_in, congrArg (fun z : He.AlD × Bool × Bool => z.1) e, congrArg (fun z : He.AlD × Bool × Bool => z.2.1) e, lams_ok He.frG_in (congrArg (fun z : He.AlD × Bool × Bool => z.2.2) e)⟩
  keeps := fun _ _ _ ⟨K, hK, c, d, l⟩ k => ⟨K, PySem.W.Frag.In.keeps hK k, c, d, l.keeps k⟩
def obsL (n : Nat) (fa : List He.Fa) (fn : List He.DefD) (ex : PySem.W.Frag → Bool) (lams : List PySem.Str) (g : Addr → Option Obj) : He.AlD × Bool × Bool := (He.obsDG n fa fn g, ex (He.frG g (He.asD g n)), lamsB g (He.frG g (He.asD g n)) lams)
theorem obsL_eq {n : Nat} {fa : List He.Fa} {fn : List He.DefD} {ex : PySem.W.Frag → Bool} {lams : List PySem.Str} {g : Addr → Option Obj} {s : Shared} (h : ∀ a, g a = s.heap.get? a) : obsL n fa fn ex lams g = (hookL n fa fn ex lams).obs s := by
  have e : g = s.heap.get? := funext h
  rw [e] <;> rfl
/-- a law: F gives the written part, the tables, the function object, the promise over every base -/
theorem walk_ofL {l : PySem.W.OpenLaw} {n k : Nat} {q : Program} {loose : List PySem.Str} {XP : (PySem.Str → Option Value) → Heap → Prop} {YP : World → Heap → Prop} {d : DefRec} {CX : CXT} {x : PySem.Str}
    (hn : l.most = some n) (hn2 : n ≤ sizeLine) (hdf : d.params.defaults = []) (hr : Room k callerA)
    (F : ∀ (w : World) (mg : PySem.Str → Option Value) (fa : Addr) (h : Heap), YP w h → h.Ns mainGlobals mg → mg d.name = some (.ref fa) →
      ∃ (K : PySem.W.Frag) (fd : FuncData) (cs : List (Addr × Addr)) (sp : Sp), K.In h ∧ (∀ p ∈ cs, h.get? p.2 = some { cls := .none, data := .fields #[] }) ∧ (∀ p ∈ cs, K.lookup p.2 = none) ∧ (∀ p ∈ cs, PySem.W.CodeHd h p.1 p.2) ∧ (∀ (s : Shared) (u : Value), BindsTo s fd ⟨[u], []⟩ [(x, u)]) ∧
        (∀ (H : Hp) (a : Addr) (ns : List Int), ns.length ≤ n → (∀ p ∈ cs, H p.2 = some (.tbl #[])) → SqL K H a (ns.map V.int) → sp [.ref a] H (fun v _ => v = .bl true) fun _ _ _ => False) ∧
        ∀ base : Heap, K.In base → base.Ns mainGlobals mg → (∀ p ∈ cs, LamX.TabB base mg p.1 p.2) → FnOk l.prog w K mg base CX k fa fd [x] sp)
    (hCX : ∀ (H : Hp) (s : Shared) (e : Value) (s' : Shared), CX [] H s (fun _ _ _ => False) e s' → False) :
    PySem.W.WalkO q loose XP YP l.row.toRowW d [] (fun f vs => PySem.call f vs) := by
  refine Att.attach_callB hn hdf fun w s₀ s₁ mg mb fa o pm cd doc a vs ns G Y ho hd hcd hmg hobj hints hlen hbits hg => ?_
  obtain ⟨K, fd, cs, sp, KX, hT, nT, C, hb, hsp, hF⟩ := F w mg fa _ Y G.T.g hmg
  exact LamX.law_callTs KX G.T.g G.T.b G.T.builtins G.T.nolimit hg hT nT C G.T.bmain hobj hints (Nat.le_trans hlen hn2) hr hF hb (fun H hH hS => hsp H a ns hlen hH hS) fun H e s' => hCX H s₁ e s'
def woL (K : PySem.W.Frag) (lams : List PySem.Str) (q : PySem.Str → PySem.Str) : Wo := ⟨K, 0, fun _ => 0, fun _ => [], fun _ => 0, fun _ => [], none, lams.filterMap fun n => (lamC K n).map fun p => (p.2, q n)⟩
def lmB (lams : List PySem.Str) (funs : List Fun) (i : Nat) : Bool := match funs[i]? with
  | some f => lams.any fun n => decide (n = f.name)
  | none => false
/-- the name that a def's lambda bears, by the def's name -/
def lamN (n : PySem.Str) : PySem.Str := (envOfC n default 0 0 .none).qual ++ "<lambda>"
theorem lamN_eq (f : Fun) : lamQ f = lamN f.name := congrArg (· ++ ("<lambda>" : PySem.Str)) rfl
theorem nodup_ix {α β : Type} {g : α → Option β} : ∀ {l : List α} {x y : α} {b : β}, (l.map g).Nodup → x ∈ l → y ∈ l → g x = some b → g y = some b → x = y
  | [], _, _, _, _, h, _, _, _ => by cases h
  | a :: l, x, y, b, nd, hx, hy, e1, e2 => by
    rw [List.map_cons, List.nodup_cons] at nd
    rcases List.mem_cons.mp hx with ex | mx
    · rcases List.mem_cons.mp hy with ey | my
      · rw [ex, ey]
      · exact absurd (List.mem_map.mpr ⟨y, my, by rw [← ex, e1, e2]⟩) nd.1
    · rcases List.mem_cons.mp hy with ey | my
      · exact absurd (List.mem_map.mpr ⟨x, mx, by rw [← ey, e1, e2]⟩) nd.1
      · exact nodup_ix nd.2 mx my e1 e2
theorem law_ofL {P : Program} {w : World} {K : PySem.W.Frag} {h : Heap} {mg : PySem.Str → Option Value} {fa : Addr} {funs : List Fun} {b : Bool} {lams : List PySem.Str} {i : Nat} {fl : Fun} {x : PySem.Str} {most n : Nat} (X : K.In h) (G : h.Ns mainGlobals mg) (c : He.SaysD (faOf funs) (funs.map Fun.dd) K) (ce : exOf b K = true) (L : LamsOk K h lams)
    (chk : ∀ i f, funs[i]? = some f → chkF (thL funs b (lmB lams funs i)) f = true) (hi : funs[i]? = some fl) (hps : fl.ps = [x]) (hmg : mg fl.name = some (.ref fa)) (hrun : ∀ ns : List Int, ns.length ≤ most → run (funs.map (·.d)) n i [.fz (ns.map .int)] = .ok (.sh (.bl true))) :
    ∃ (K : PySem.W.Frag) (fd : FuncData) (cs : List (Addr × Addr)) (sp : Sp), K.In h ∧ (∀ p ∈ cs, h.get? p.2 = some { cls := .none, data := .fields #[] }) ∧ (∀ p ∈ cs, K.lookup p.2 = none) ∧ (∀ p ∈ cs, PySem.W.CodeHd h p.1 p.2) ∧ (∀ (s : Shared) (u : Value), BindsTo s fd ⟨[u], []⟩ [(x, u)]) ∧
        (∀ (H : Hp) (a : Addr) (ns : List Int), ns.length ≤ most → (∀ p ∈ cs, H p.2 = some (.tbl #[])) → SqL K H a (ns.map V.int) → sp [.ref a] H (fun v _ => v = .bl true) fun _ _ _ => False) ∧
        ∀ base : Heap, K.In base → base.Ns mainGlobals mg → (∀ p ∈ cs, LamX.TabB base mg p.1 p.2) → FnOk P w K mg base CXa n fa fd [x] sp := by
  have one : ∀ (j : Nat) (f : Fun), funs[j]? = some f → ∃ p : Addr × FuncData, FunOk K mg f p.1 p.2 ∧ p.1 = He.fAd K (f.name, none) := fun j f hf => by
    have hd : (funs.map Fun.dd)[j]? = some f.dd := by rw [List.getElem?_map, hf]; rfl
    obtain ⟨fd, F⟩ := c.def_ j hd
    have hl := (List.getElem?_eq_some_iff.mp hf).1
    have hg : (faOf funs)[j]? = some (.glo f.name) := by
      unfold faOf
      rw [List.getElem?_append_left (by rw [List.length_map]; exact hl), List.getElem?_map, hf]
      rfl
    exact ⟨(_, fd), ⟨He.glo_ok X G (c.fact j hg), F⟩, rfl⟩
  obtain ⟨p0, h0⟩ := one i fl hi
  have all : ∀ j : Nat, ∃ p : Addr × FuncData, ∀ f : Fun, funs[j]? = some f → FunOk K mg f p.1 p.2 ∧ p.1 = He.fAd K (f.name, none) := fun j => by
    cases e : funs[j]? with
    | none => exact ⟨p0, fun f q => by cases q⟩
    | some f =>
      obtain ⟨p, hp⟩ := one j f e
      exact ⟨p, fun g q => by cases q; exact hp⟩
  obtain ⟨F, hF⟩ := Classical.axiomOfChoice all
  have blt : ∀ y ∈ bNames, mg y = none := fun y hy => by
    obtain ⟨j, hj, e⟩ := List.getElem_of_mem hy
    have hg : (faOf funs)[funs.length + j]? = some (.free y) := by
      unfold faOf
      rw [List.getElem?_append_right (by rw [List.length_map]; omega), List.length_map, Nat.add_sub_cancel_left, List.getElem?_map, List.getElem?_eq_getElem hj, e]
      rfl
    exact He.free_ok X G (c.fact _ hg)
  have gcd : b = true → mg "gcd" = some (.builtin "math.gcd") := fun hb => by
    unfold exOf at ce
    rw [hb] at ce
    exact PySem.W.mg_of X G (He.eqO_ok ce)
  have lm1 : ∀ j f, funs[j]? = some f → lmB lams funs j = true → ∃ c P, (F j).2.code = .ref c ∧ lamC K f.name = some (c, P) ∧ f.name ∈ lams := fun j f hf hl => by
    unfold lmB at hl
    rw [hf] at hl
    simp only [List.any_eq_true, decide_eq_true_eq] at hl
    obtain ⟨n, hn, e⟩ := hl
    rw [e] at hn
    obtain ⟨c, P, e1, _⟩ := L.each _ hn
    refine ⟨c, P, ?_, e1, hn⟩
    obtain ⟨ok, ea⟩ := hF j f hf
    obtain ⟨oc, od, dV, kV, doc, pm, an, cdv, ct, osl, efd, lk, _⟩ := ok.d.ex
    unfold lamC at e1
    rw [← ea, lk] at e1
    simp only at e1
    split at e1
    · rename_i c' hc'
      split at e1
      · split at e1
        · injection e1 with e1
          injection e1 with e1 e2
          rw [← e1]; exact hc'
        · cases e1
      · cases e1
    · cases e1
  let W := woL K lams lamN
  have lv : ∀ base : Heap, (∀ p ∈ lams.filterMap (lamC K), LamX.TabB base mg p.1 p.2) → _ := fun base tb => level (P := P) (w := w) (base := base) W rfl rfl rfl funs b (lmB lams funs) (fun j => (F j).1) (fun j => (F j).2) (fun j f q => (hF j f q).1) blt gcd chk (fun j f hf hl => by
    obtain ⟨c, P, e1, e2, e3⟩ := lm1 j f hf hl
    refine ⟨c, P, e1, ?_, fun p hp ep => ?_, tb _ (List.mem_filterMap.mpr ⟨f.name, e3, e2⟩)⟩
    · rw [lamN_eq]
      exact List.mem_filterMap.mpr ⟨f.name, e3, by rw [e2]; rfl⟩
    · obtain ⟨m, hm, em⟩ := List.mem_filterMap.mp hp
      cases ec : lamC K m with
      | none => rw [ec] at em; cases em
      | some r =>
        rw [ec] at em
        simp only [Option.map_some, Option.some.injEq] at em
        have : m = f.name := nodup_ix (b := P) L.nd hm e3 (by rw [ec]; show some r.2 = some P; rw [← ep, ← em]) (by rw [e2]; rfl)
        rw [← em, this, lamN_eq]) n i fl hi
  obtain ⟨ok, _⟩ := hF i fl hi
  have ea : (F i).1 = fa := by
    have q := ok.g
    rw [hmg] at q
    injection q with q
    injection q with q
    exact q.symm
  have hc := chk i fl hi
  unfold chkF at hc
  rw [Bool.and_eq_true] at hc; obtain ⟨h1, hc⟩ := hc
  have mem : ∀ p ∈ lams.filterMap (lamC K), ∃ m ∈ lams, lamC K m = some p := fun p hp => List.mem_filterMap.mp hp
  refine ⟨K, (F i).2, lams.filterMap (lamC K), spF W (run (funs.map (·.d)) n) i 1, X, fun p hp => ?_, fun p hp => ?_, fun p hp => ?_, fun s u => ?_, fun H a ns hl hT hS => ?_, fun base _ _ tb => ?_⟩
  · obtain ⟨m, hm, e⟩ := mem p hp
    obtain ⟨c, P, e1, e2, e3, e4⟩ := L.each m hm
    rw [e] at e1; injection e1 with e1; subst e1; exact e3
  · obtain ⟨m, hm, e⟩ := mem p hp
    obtain ⟨c, P, e1, e2, e3, e4⟩ := L.each m hm
    rw [e] at e1; injection e1 with e1; subst e1; exact e4
  · obtain ⟨m, hm, e⟩ := mem p hp
    obtain ⟨c, P, e1, e2, e3, e4⟩ := L.each m hm
    rw [e] at e1; injection e1 with e1; subst e1; exact e2
  · have q := binds_all ok.d h1 (by rw [hps]; simp) s [u] (by rw [hps]; rfl)
    rw [hps] at q
    exact q
  · have tabs : ∀ p ∈ W.tb, H p.1 = some (.tbl #[]) := fun p hp => by
      obtain ⟨m, hm, em⟩ := List.mem_filterMap.mp hp
      cases ec : lamC K m with
      | none => rw [ec] at em; cases em
      | some r =>
        rw [ec] at em
        simp only [Option.map_some, Option.some.injEq] at em
        rw [← em]
        exact hT r (List.mem_filterMap.mpr ⟨m, hm, ec⟩)
    let Z : Hp := fun b => match H b with
      | some (.tbl _) => none
      | o => o
    have hZ : ∀ b, (∀ ps, H b ≠ some (.tbl ps)) → Z b = H b := fun b n => by
      show (match H b with | some (.tbl _) => none | o => o) = H b
      split
      · rename_i e; exact absurd e (n _)
      · rfl
    have hz : Zh W Z H := ⟨fun b o e => by
        have e : (match H b with | some (.tbl _) => none | o => o) = some o := e
        split at e
        · cases e
        · exact e, fun p hp => LamX.TabS.nil (tabs p hp), fun p hp => by
        show (match H p.1 with | some (.tbl _) => none | o => o) = none
        rw [tabs p hp]⟩
    have hS' : SqL K Z a (ns.map V.int) := by
      rcases hS with (e | ⟨o, e⟩) | e
      · exact .inl (.inl (by rw [hZ a (fun ps q => by rw [q] at e; cases e)]; exact e))
      · exact .inl (.inr ⟨o, by rw [hZ a (fun ps q => by rw [q] at e; cases e)]; exact e⟩)
      · exact .inr e
    refine ⟨rfl, [.fz (ns.map .int)], Z, hz, ?_, ?_⟩
    · refine .cons ?_ .nil
      simp only [Rep]
      exact ⟨a, ns.map V.int, rfl, hS', RepL.ofInts ns⟩
    · rw [hrun ns hl]
      intro v Z' H' as x r _ _
      simp only [RepT, Rep] at r
      exact r.1
  · have q := lv base tb
    rw [hps, ea] at q
    exact fn_cxa q
end R
end

section
set_option autoImplicit true
set_option linter.all false
/-! R21: the cases of ev, exS once more, for simp (printed by eqs.py) -/
namespace R
open PySem L2
@[simp] theorem p_ev_var : ev Φ (.var i) Δ = match Δ[i]? with
      | some (some d) => .ok d
      | _ => .bad := rfl
@[simp] theorem p_ev_non : ev Φ .non u1 = .ok .non := rfl
@[simp] theorem p_ev_bl : ev Φ (.bl b) u1 = .ok (.bl b) := rfl
@[simp] theorem p_ev_int : ev Φ (.int z) u1 = .ok (.int z) := rfl
@[simp] theorem p_ev_str : ev Φ (.str s) u1 = .ok (.str s) := rfl
@[simp] theorem p_ev_tup : ev Φ (.tup es) Δ = (evs Φ es Δ).bind fun ds => if ds.length ≤ LINE then .ok (.tup ds) else .bad := rfl
@[simp] theorem p_ev_lst : ev Φ (.lst es) Δ = (evs Φ es Δ).bind fun ds => if ds.length ≤ LINE then .ok (.lst ds) else .bad := rfl
@[simp] theorem p_ev_op : ev Φ (.op o a b) Δ = (ev Φ a Δ).bind fun x => (ev Φ b Δ).bind fun y => op2 o x y := rfl
@[simp] theorem p_ev_un : ev Φ (.un o a) Δ = (ev Φ a Δ).bind fun x => op1 o x := rfl
@[simp] theorem p_ev_not : ev Φ (.not a) Δ = (tob (ev Φ a Δ)).bind fun b => .ok (.bl !b) := rfl
@[simp] theorem p_ev_and : ev Φ (.and a b) Δ = (tob (ev Φ a Δ)).bind fun x => if x then (tob (ev Φ b Δ)).bind fun y => .ok (.bl y) else .ok (.bl false) := rfl
@[simp] theorem p_ev_or : ev Φ (.or a b) Δ = (tob (ev Φ a Δ)).bind fun x => if x then .ok (.bl true) else (tob (ev Φ b Δ)).bind fun y => .ok (.bl y) := rfl
@[simp] theorem p_ev_ite : ev Φ (.ite c a b) Δ = (tob (ev Φ c Δ)).bind fun x => if x then ev Φ a Δ else ev Φ b Δ := rfl
@[simp] theorem p_ev_idx : ev Φ (.idx a i) Δ = (ev Φ a Δ).bind fun x => (ev Φ i Δ).bind fun y => ixR x y := rfl
@[simp] theorem p_ev_slc : ev Φ (.slc a l h) Δ = (ev Φ a Δ).bind fun x => (ev Φ l Δ).bind fun y => match y with
      | .int i => (ev Φ h Δ).bind fun z => (match z with
        | .int j => slR x (some i) (some j)
        | _ => .bad)
      | _ => .bad := rfl
@[simp] theorem p_ev_slo : ev Φ (.slo a l) Δ = (ev Φ a Δ).bind fun x => (ev Φ l Δ).bind fun y => match y with
      | .int i => slR x (some i) none
      | _ => .bad := rfl
@[simp] theorem p_ev_shi : ev Φ (.shi a h) Δ = (ev Φ a Δ).bind fun x => (ev Φ h Δ).bind fun y => match y with
      | .int i => slR x none (some i)
      | _ => .bad := rfl
@[simp] theorem p_ev_bi : ev Φ (.bi b es) Δ = (evs Φ es Δ).bind fun ds => bi b ds := rfl
@[simp] theorem p_ev_call : ev Φ (.call f es) Δ = (evs Φ es Δ).bind fun ds => (Φ f ds).bind fun t => .ok t.d := rfl
@[simp] theorem p_ev_mk : ev Φ (.mk u1 f es df) Δ = (evs Φ es Δ).bind fun ds => (Φ f (.non :: (ds ++ df))).bind fun t => match t with
      | .sh d => .ok d
      | .ow _ => .bad := rfl
@[simp] theorem p_ev_fld : ev Φ (.fld a c p) Δ = (ev Φ a Δ).bind fun x => match x with
      | .obj c' xs => if c' = c then (match xs[p]? with | some d => .ok d | none => .bad) else .bad
      | _ => .bad := rfl
@[simp] theorem p_ev_meth : ev Φ (.meth a c f es) Δ = (ev Φ a Δ).bind fun x => match x with
      | .obj c' xs => if c' = c then (evs Φ es Δ).bind fun ds => (Φ f (.obj c' xs :: ds)).bind fun t => .ok t.d else .bad
      | _ => .bad := rfl
@[simp] theorem p_ev_prop : ev Φ (.prop a c f) Δ = (ev Φ a Δ).bind fun x => match x with
      | .obj c' xs => if c' = c then (Φ f [.obj c' xs]).bind fun t => .ok t.d else .bad
      | _ => .bad := rfl
@[simp] theorem p_ev_bits : ev Φ (.bits a) Δ = (ev Φ a Δ).bind fun x => match x with
      | .int i => .ok (.int (bitsI i))
      | _ => .bad := rfl
@[simp] theorem p_ev_comp : ev Φ (.comp sk tg srcs conds elt) Δ = (evs Φ srcs Δ).bind fun ds => (srcR sk ds).bind fun items =>
      (noEx (mapR (fun x => match bindT tg x (wipe Δ tg) with
        | none => .bad
        | some Δ' => (evc Φ conds Δ').bind fun b => if b then (ev Φ elt Δ').bind fun d => .ok (some d) else .ok none) items)).bind fun ys => if ys.length ≤ LINE then .ok (.lst ys) else .bad := rfl
@[simp] theorem p_ev_comp2 : ev Φ (.comp2 sk tg srcs conds sk2 tg2 srcs2 conds2 elt) Δ = (evs Φ srcs Δ).bind fun ds => (srcR sk ds).bind fun items =>
      (noEx (mapR (fun x => match bindT tg x (wipe Δ (tg ++ tg2)) with
        | none => .bad
        | some Δ' => (evc Φ conds Δ').bind fun b => if b then ((evs Φ srcs2 Δ').bind fun ds2 => (srcR sk2 ds2).bind fun items2 =>
            (mapR (fun x2 => match bindT tg2 x2 (wipe Δ' tg2) with
              | none => .bad
              | some Δ2 => (evc Φ conds2 Δ2).bind fun b => if b then (ev Φ elt Δ2).bind fun d => .ok (some d) else .ok none) items2).bind fun ys => .ok (some ys)) else .ok none) items)).bind fun yss => if yss.flatten.length ≤ LINE then .ok (.lst yss.flatten) else .bad := rfl
@[simp] theorem p_evs_l0 : evs Φ [] u1 = .ok [] := rfl
@[simp] theorem p_evs_cons1 : evs Φ (e :: es) Δ = (ev Φ e Δ).bind fun d => (evs Φ es Δ).bind fun ds => .ok (d :: ds) := rfl
@[simp] theorem p_evc_l0 : evc Φ [] u1 = .ok true := rfl
@[simp] theorem p_evc_cons1 : evc Φ (e :: es) Δ = (tob (ev Φ e Δ)).bind fun b => if b then evc Φ es Δ else .ok false := rfl
@[simp] theorem p_exS_set : exS Φ (.set i e) s = onR (ev Φ e (mask s)) s fun d => .nx (setS s i (.sh d)) := rfl
@[simp] theorem p_exS_setc : exS Φ (.setc i e) s = onR (ev Φ e (snap s)) s fun d => if d.noL then .nx (setS s i (.sh d)) else .bad := rfl
@[simp] theorem p_exS_own : exS Φ (.own i e) s = onR (evO Φ e (snap s)) s fun ds => if D.noL.noLs ds then .nx ⟨s.g.set i (some (.loc s.m.length)), s.m ++ [.ls (ds.map .sh)]⟩ else .bad := rfl
@[simp] theorem p_exS_ownT : exS Φ (.ownT i f es) s = onR ((evs Φ es (snap s)).bind (Φ f)) s fun t => (match owL t with
    | some ds => if D.noL.noLs ds then .nx ⟨s.g.set i (some (.loc s.m.length)), s.m ++ [.ls (ds.map .sh)]⟩ else .bad
    | none => .bad) := rfl
@[simp] theorem p_exS_popE : exS Φ (.popE j) s = match cellOf s j with
    | some (k, xs) => (match xs[xs.length - 1]? with
      | some _ => .nx (setM s k xs.dropLast)
      | none => .bad)
    | none => .bad := rfl
@[simp] theorem p_exS_retO : exS Φ (.retO e) s = onR (evO Φ e (snap s)) s fun ds => .rt (.ow (ds.map .sh)) := rfl
theorem optL_shO_map : ∀ ds : List D, optL T.shO (ds.map .sh) = some ds
  | [] => rfl
  | d :: ds => by
    rw [List.map_cons, optL, optL_shO_map ds]
    rfl
@[simp] theorem owL_map (ds : List D) : owL (.ow (ds.map .sh)) = some ds := optL_shO_map ds
@[simp] theorem p_exS_mv : exS Φ (.mv i j) s = match slotV s j with
      | some v => .nx (setS s i v)
      | none => .bad := rfl
@[simp] theorem p_exS_al : exS Φ (.al i j e) s = match cellOf s j with
      | some (_, xs) => onR (ev Φ e (snap s)) s fun d => (match d with
        | .int z => match atI xs z with
          | some v => .nx (setS s i v)
          | none => .bad
        | _ => .bad)
      | none => .bad := rfl
@[simp] theorem p_exS_frz : exS Φ (.frz i) s = frzS i s := rfl
@[simp] theorem p_exS_gc : exS Φ .gc s = gcS s := rfl
@[simp] theorem p_exS_frg : exS Φ (.frg vs) s = .nx ⟨wipeS s.g vs, s.m⟩ := rfl
@[simp] theorem p_exS_ownM : exS Φ (.ownM i e) s = onR (evO Φ e (mask s)) s fun ds => .nx ⟨s.g.set i (some (.loc s.m.length)), s.m ++ [.ls (ds.map .sh)]⟩ := rfl
@[simp] theorem p_exS_appM : exS Φ (.appM j e) s = match cellOf s j with
      | some (k, xs) => onR (ev Φ e (mask s)) s fun d => if xs.length < LINE then .nx (setM s k (xs ++ [.sh d])) else .bad
      | none => .bad := rfl
@[simp] theorem p_exS_popA : exS Φ (.popA i j e) s = match cellOf s j with
      | some (k, xs) => onR (ev Φ e (snap s)) s fun d => (match d with
        | .int z => if decide (-(2 ^ 63) ≤ z) && decide (z < 2 ^ 63) then (match popR xs z with
          | some (v, ys) => .nx (setS (setM s k ys) i v)
          | none => .bad) else .bad
        | _ => .bad)
      | none => .bad := rfl
@[simp] theorem p_exS_unpL : exS Φ (.unpL i j e) s = onR (ev Φ e (mask s)) s fun d => match d with
      | .lst [a, b] => .nx (setS (setS s i (.sh a)) j (.sh b))
      | _ => .bad := rfl
@[simp] theorem p_exS_ini : exS Φ (.ini b c es) s = iniR (exSs Φ b s) fun s' => onR (evs Φ es (snap s')) s' fun ds => .rt (.sh (.obj c ds)) := rfl
@[simp] theorem iniR_nx : iniR (.nx s) f = f s := rfl
@[simp] theorem p_exS_app : exS Φ (.app j e) s = match cellOf s j with
      | some (k, xs) => onR (ev Φ e (snap s)) s fun d => if d.noL && decide (xs.length < LINE) then .nx (setM s k (xs ++ [.sh d])) else .bad
      | none => .bad := rfl
@[simp] theorem p_exS_appV : exS Φ (.appV j i) s = match cellOf s j with
      | some (k, xs) => match slotV s i with
        | some v => if xs.length < LINE then .nx (setM s k (xs ++ [v])) else .bad
        | none => .bad
      | none => .bad := rfl
@[simp] theorem p_exS_setI : exS Φ (.setI j ie e) s = onR (ev Φ e (snap s)) s fun d => match cellOf s j with
      | some (k, xs) => onR (ev Φ ie (snap s)) s fun z => (match z with
        | .int z => if d.noL then (match ixN xs.length z with
          | some p => .nx (setM s k (xs.set p (.sh d)))
          | none => .bad) else .bad
        | _ => .bad)
      | none => .bad := rfl
@[simp] theorem p_exS_aug : exS Φ (.aug i o e) s = match slotV s i with
      | some (.sh (.int x)) => onR (ev Φ e (snap s)) s fun d => (match d with
        | .int y => onR (op2 o (.int x) (.int y)) s fun r => if isInt r then .nx (setS s i (.sh r)) else .bad
        | _ => .bad)
      | _ => .bad := rfl
@[simp] theorem p_exS_unp : exS Φ (.unp i j e) s = onR (ev Φ e (mask s)) s fun d => match d with
      | .tup [a, b] => .nx (setS (setS s i (.sh a)) j (.sh b))
      | _ => .bad := rfl
@[simp] theorem p_exS_ret : exS Φ (.ret e) s = onR (ev Φ e (snap s)) s fun d => .rt (.sh d) := rfl
@[simp] theorem p_exS_retN : exS Φ .retN u1 = .rt (.sh .non) := rfl
@[simp] theorem p_exS_retV : exS Φ (.retV i) s = match slotV s i with
      | some v => match toT 4 s.m v with
        | some (t, _) => .rt t
        | none => .bad
      | none => .bad := rfl
@[simp] theorem p_exS_ifs : exS Φ (.ifs c a b) s = onR (tob (ev Φ c (snap s))) s fun t => if t then exSs Φ a s else exSs Φ b s := rfl
theorem p_exS_whl : exS Φ (.whl c b vs) s = whlO vs s.m.length (fun s => tob (ev Φ c (snap s))) (exSs Φ b) ⟨wipeS s.g vs, s.m⟩ := rfl
theorem p_exS_fr : exS Φ (.fr sk tg srcs b vs) s = onR ((evs Φ srcs (match sk with | .r1 => snap s | .r2 => snap s | _ => mask s)).bind (srcR sk)) s fun items =>
      forR vs s.m.length (fun x s => match bindS tg x s with | some s' => exSs Φ b s' | none => .bad) items ⟨wipeS s.g vs, s.m⟩ := rfl
@[simp] theorem p_exS_expr : exS Φ (.expr e) s = onR (ev Φ e (snap s)) s fun _ => .nx s := rfl
@[simp] theorem p_exS_pass : exS Φ .pass s = .nx s := rfl
@[simp] theorem p_exS_brk : exS Φ .brk s = .bk s := rfl
@[simp] theorem p_exS_cnt : exS Φ .cnt s = .ct s := rfl
@[simp] theorem p_exS_never : exS Φ .never u1 = .bad := rfl
@[simp] theorem p_exSs_l0 : exSs Φ [] s = .nx s := rfl
@[simp] theorem p_exSs_cons1 : exSs Φ (x :: xs) s = (exS Φ x s).nxt (exSs Φ xs) := rfl
end R
end

section
set_option Elab.async false
set_option linter.all false
set_option maxRecDepth 100000
/-! R22: plain evaluation. -/
namespace R
open PySem
@[simp] theorem snap_mk (g : List (Option SV)) (m : List Cell) : snap ⟨g, m⟩ = g.map (snapO m) := rfl
@[simp] theorem mask_mk (g : List (Option SV)) (m : List Cell) : mask ⟨g, m⟩ = g.map maskO := rfl
@[simp] theorem snapO_none (m : List Cell) : snapO m none = none := rfl
@[simp] theorem snapO_sh (m : List Cell) (d : D) : snapO m (some (.sh d)) = some d := rfl
@[simp] theorem maskO_none : maskO none = none := rfl
@[simp] theorem maskO_sh (d : D) : maskO (some (.sh d)) = some d := rfl
@[simp] theorem maskO_loc (k : Nat) : maskO (some (.loc k)) = none := rfl
theorem optL_sh {f : SV → Option D} (h : ∀ d, f (.sh d) = some d) : ∀ ds : List D, optL f (ds.map .sh) = some ds
  | [] => rfl
  | d :: ds => by
    rw [List.map_cons, optL, h, optL_sh h ds]
@[simp] theorem den_sh (m : List Cell) (n : Nat) (d : D) : den m n (.sh d) = some d := by cases n <;> rfl
@[simp] theorem optL_den (m : List Cell) (n : Nat) (ds : List D) : optL (den m n) (ds.map .sh) = some ds := optL_sh (fun d => den_sh m n d) ds
/-- an own list of plain values -/
theorem snapO_ls {m : List Cell} {k : Nat} {ds : List D} (h : m[k]? = some (.ls (ds.map .sh))) : snapO m (some (.loc k)) = some (.lst ds) := by
  show den m 4 (.loc k) = _
  rw [den, h]
  simp only [optL_den]
@[simp] theorem snapO_ls0 (ds : List D) (m : List Cell) : snapO (.ls (ds.map .sh) :: m) (some (.loc 0)) = some (.lst ds) := snapO_ls rfl
@[simp] theorem setS_mk (g : List (Option SV)) (m : List Cell) (i : Nat) (v : SV) : setS ⟨g, m⟩ i v = ⟨g.set i (some v), m⟩ := rfl
@[simp] theorem setM_mk (g : List (Option SV)) (m : List Cell) (k : Nat) (xs : List SV) : setM ⟨g, m⟩ k xs = ⟨g, m.set k (.ls xs)⟩ := rfl
@[simp] theorem wipeS_nil (g : List (Option SV)) : wipeS g [] = g := rfl
@[simp] theorem wipeS_cons (g : List (Option SV)) (v : Nat) (vs : List Nat) : wipeS g (v :: vs) = (wipeS g vs).set v none := rfl
theorem tidy_same {vs : List Nat} {n : Nat} {g : List (Option SV)} {m : List Cell} (h : m.length = n) : tidy vs n ⟨g, m⟩ = some ⟨wipeS g vs, m⟩ := by
  unfold tidy
  rw [if_pos h]
@[simp] theorem tidy_0 (vs : List Nat) (g : List (Option SV)) : tidy vs 0 ⟨g, []⟩ = some ⟨wipeS g vs, []⟩ := tidy_same rfl
@[simp] theorem tidy_1 (vs : List Nat) (g : List (Option SV)) (c : Cell) : tidy vs 1 ⟨g, [c]⟩ = some ⟨wipeS g vs, [c]⟩ := tidy_same rfl
@[simp] theorem bindS_1 (i : Nat) (d : D) (s : PSt) : bindS [i] d s = some (setS s i (.sh d)) := rfl
@[simp] theorem bindS_2 (i j : Nat) (a b : D) (s : PSt) : bindS [i, j] (.tup [a, b]) s = some (setS (setS s i (.sh a)) j (.sh b)) := rfl
@[simp] theorem bindT_1 (i : Nat) (d : D) (Δ : List (Option D)) : bindT [i] d Δ = some (Δ.set i (some d)) := rfl
@[simp] theorem bindT_2 (i j : Nat) (a b : D) (Δ : List (Option D)) : bindT [i, j] (.tup [a, b]) Δ = some ((Δ.set i (some a)).set j (some b)) := rfl
@[simp] theorem wipe_nil (Δ : List (Option D)) : wipe Δ [] = Δ := rfl
@[simp] theorem wipe_cons (Δ : List (Option D)) (v : Nat) (vs : List Nat) : wipe Δ (v :: vs) = (wipe Δ vs).set v none := rfl
@[simp] theorem enter_eq (ns : Nat) (ds : List D) : enter ns ds = ⟨ds.map (fun d => some (.sh d)) ++ List.replicate (ns - ds.length) none, []⟩ := rfl
@[simp] theorem nextTurn_nx (vs : List Nat) (n : Nat) (s : PSt) (f : PSt → Out) : nextTurn vs n (.nx s) f = match tidy vs n s with | some s' => f s' | none => .bad := rfl
@[simp] theorem nextTurn_ct (vs : List Nat) (n : Nat) (s : PSt) (f : PSt → Out) : nextTurn vs n (.ct s) f = match tidy vs n s with | some s' => f s' | none => .bad := rfl
@[simp] theorem nextTurn_bk (vs : List Nat) (n : Nat) (s : PSt) (f : PSt → Out) : nextTurn vs n (.bk s) f = .nx s := rfl
@[simp] theorem nextTurn_rt (vs : List Nat) (n : Nat) (t : T) (f : PSt → Out) : nextTurn vs n (.rt t) f = .rt t := rfl
@[simp] theorem forR_nil (vs : List Nat) (n : Nat) (b : D → PSt → Out) (s : PSt) : forR vs n b [] s = .nx s := rfl
theorem forR_cons (vs : List Nat) (n : Nat) (b : D → PSt → Out) (x : D) (xs : List D) (s : PSt) : forR vs n b (x :: xs) s = nextTurn vs n (b x s) (forR vs n b xs) := rfl
@[simp] theorem endR_nx (s : PSt) : endR (.nx s) = .ok (.sh .non) := rfl
@[simp] theorem endR_rt (t : T) : endR (.rt t) = .ok t := rfl
@[simp] theorem tob_bl (b : Bool) : tob (.ok (.bl b)) = .ok b := rfl
@[simp] theorem T_d_sh (d : D) : (T.sh d).d = d := rfl
@[simp] theorem slotV_mk (g : List (Option SV)) (m : List Cell) (i : Nat) : slotV ⟨g, m⟩ i = match g[i]? with | some (some v) => some v | _ => none := rfl
theorem cellOf_eq {g : List (Option SV)} {m : List Cell} {j k : Nat} {xs : List SV} (h : g[j]? = some (some (.loc k))) (h2 : m[k]? = some (.ls xs)) : cellOf ⟨g, m⟩ j = some (k, xs) := by
  unfold cellOf
  rw [slotV_mk, h]
  simp only [h2]
/-! ### loops -/
/-- a test; a turn of a for (they are not looked into) -/
def cnd (Φ : Or) (c : E) (s : PSt) : Res Bool := tob (ev Φ c (snap s))
noncomputable def frB (Φ : Or) (tg : List Nat) (b : List S) (x : D) (s : PSt) : Out := match bindS tg x s with
  | some s' => exSs Φ b s'
  | none => .bad
@[simp] theorem p_whl (Φ : Or) (c : E) (b : List S) (vs : List Nat) (g : List (Option SV)) (m : List Cell) : exS Φ (.whl c b vs) ⟨g, m⟩ = whlO vs m.length (cnd Φ c) (exSs Φ b) ⟨wipeS g vs, m⟩ := rfl
@[simp] theorem p_frR1 (Φ : Or) (tg : List Nat) (srcs : List E) (b : List S) (vs : List Nat) (g : List (Option SV)) (m : List Cell) : exS Φ (.fr .r1 tg srcs b vs) ⟨g, m⟩ = onR ((evs Φ srcs (g.map (snapO m))).bind (srcR .r1)) ⟨g, m⟩ fun items => forR vs m.length (frB Φ tg b) items ⟨wipeS g vs, m⟩ := rfl
@[simp] theorem p_frR2 (Φ : Or) (tg : List Nat) (srcs : List E) (b : List S) (vs : List Nat) (g : List (Option SV)) (m : List Cell) : exS Φ (.fr .r2 tg srcs b vs) ⟨g, m⟩ = onR ((evs Φ srcs (g.map (snapO m))).bind (srcR .r2)) ⟨g, m⟩ fun items => forR vs m.length (frB Φ tg b) items ⟨wipeS g vs, m⟩ := rfl
@[simp] theorem p_frS (Φ : Or) (tg : List Nat) (srcs : List E) (b : List S) (vs : List Nat) (g : List (Option SV)) (m : List Cell) : exS Φ (.fr .seq tg srcs b vs) ⟨g, m⟩ = onR ((evs Φ srcs (g.map maskO)).bind (srcR .seq)) ⟨g, m⟩ fun items => forR vs m.length (frB Φ tg b) items ⟨wipeS g vs, m⟩ := rfl
@[simp] theorem p_frZ (Φ : Or) (tg : List Nat) (srcs : List E) (b : List S) (vs : List Nat) (g : List (Option SV)) (m : List Cell) : exS Φ (.fr .zip tg srcs b vs) ⟨g, m⟩ = onR ((evs Φ srcs (g.map maskO)).bind (srcR .zip)) ⟨g, m⟩ fun items => forR vs m.length (frB Φ tg b) items ⟨wipeS g vs, m⟩ := rfl
@[simp] theorem srcR_seqL (xs : List D) : srcR .seq [.lst xs] = .ok xs := rfl
@[simp] theorem srcR_seqT (xs : List D) : srcR .seq [.tup xs] = .ok xs := rfl
@[simp] theorem srcR_seqF (xs : List D) : srcR .seq [.fz xs] = .ok xs := rfl
@[simp] theorem srcR_zipL (xs ys : List D) : srcR .zip [.lst xs, .lst ys] = .ok (List.zipWith (fun x y => D.tup [x, y]) xs ys) := rfl
theorem rngOk_of {a b : Int} (h1 : -1000000 ≤ a) (h2 : a ≤ 1000000) (h3 : -1000000 ≤ b) (h4 : b ≤ 1000000 - 1) (h5 : b - a ≤ 1000000) : rngOk a b = true := by
  have l := LINE_eq
  have l2 := sizeLine_eq
  unfold rngOk
  simp only [Bool.and_eq_true, decide_eq_true_eq]
  refine ⟨by omega, by omega, by omega, by omega, ?_⟩
  rw [l, l2]
  omega
theorem srcR_r1 {n : Int} (h : rngOk 0 n = true) : srcR .r1 [.int n] = .ok (rng 0 n) := by simp [srcR, h]
theorem srcR_r2 {a b : Int} (h : rngOk a b = true) : srcR .r2 [.int a, .int b] = .ok (rng a b) := by simp [srcR, h]
theorem rng_nil {a b : Int} (h : b ≤ a) : rng a b = [] := by
  unfold rng
  rw [show (b - a).toNat = 0 by omega]
  rfl
theorem rng_cons {a b : Int} (h : a < b) : rng a b = .int a :: rng (a + 1) b := by
  unfold rng
  rw [show (b - a).toNat = (b - (a + 1)).toNat + 1 by omega, List.range_succ_eq_map, List.map_cons, List.map_map]
  congr 1
  · simp
  · apply List.map_congr_left
    intro x _
    simp only [Function.comp]
    congr 1
    omega
/-! ### while -/
theorem nextTurn_mono {vs : List Nat} {n : Nat} {o : Out} {f g : PSt → Out} (h : nextTurn vs n o f ≠ .bad) (hf : ∀ s, f s ≠ .bad → g s = f s) : nextTurn vs n o g = nextTurn vs n o f := by
  cases o with
  | nx s =>
    simp only [nextTurn_nx] at h ⊢
    cases e : tidy vs n s with
    | none => rfl
    | some s' => rw [e] at h; exact hf s' h
  | ct s =>
    simp only [nextTurn_ct] at h ⊢
    cases e : tidy vs n s with
    | none => rfl
    | some s' => rw [e] at h; exact hf s' h
  | _ => rfl
section
variable {vs : List Nat} {n : Nat} {c : PSt → Res Bool} {b : PSt → Out}
theorem onR_ne {α : Type} {r : Res α} {s : PSt} {f g : α → Out} (h : onR r s f ≠ .bad) (hf : ∀ a, r = .ok a → f a ≠ .bad → g a = f a) : onR r s g = onR r s f := by
  cases r with
  | ok a => exact hf a rfl h
  | ex c fs => rfl
  | bad => rfl
theorem whlR_succ : ∀ (k : Nat) (s : PSt), whlR vs n c b k s ≠ .bad → whlR vs n c b (k + 1) s = whlR vs n c b k s
  | 0, s, h => absurd rfl h
  | k + 1, s, h => by
    rw [whlR] at h ⊢
    rw [whlR]
    refine onR_ne h fun t _ ht => ?_
    cases t with
    | false => rfl
    | true =>
      simp only [if_true] at ht ⊢
      exact nextTurn_mono ht fun s hs => whlR_succ k s hs
theorem whlR_le {k : Nat} {s : PSt} (h : whlR vs n c b k s ≠ .bad) : ∀ j, whlR vs n c b (k + j) s = whlR vs n c b k s
  | 0 => rfl
  | j + 1 => by
    have e := whlR_le h j
    rw [← e]
    exact whlR_succ (k + j) s (by rw [e]; exact h)
theorem whlR_det {k j : Nat} {s : PSt} (h : whlR vs n c b k s ≠ .bad) (h2 : whlR vs n c b j s ≠ .bad) : whlR vs n c b k s = whlR vs n c b j s := by
  rw [← whlR_le h j, ← whlR_le h2 k, Nat.add_comm]
theorem whlO_of {k : Nat} {s : PSt} (h : whlR vs n c b k s ≠ .bad) : whlO vs n c b s = whlR vs n c b k s := by
  have ex : ∃ k, whlR vs n c b k s ≠ .bad := ⟨k, h⟩
  unfold whlO
  rw [dif_pos ex]
  exact whlR_det (Classical.choose_spec ex) h
theorem whlO_none {s : PSt} (h : ∀ k, whlR vs n c b k s = .bad) : whlO vs n c b s = .bad := by
  unfold whlO
  rw [dif_neg fun ⟨k, hk⟩ => hk (h k)]
theorem whlO_some {s : PSt} (h : whlO vs n c b s ≠ .bad) : ∃ k, whlR vs n c b k s ≠ .bad ∧ whlO vs n c b s = whlR vs n c b k s := by
  by_cases ex : ∃ k, whlR vs n c b k s ≠ .bad
  · obtain ⟨k, hk⟩ := ex
    exact ⟨k, hk, whlO_of hk⟩
  · exact absurd (whlO_none fun k => Classical.byContradiction fun q => ex ⟨k, q⟩) h
/-- one turn -/
theorem whlO_eq (s : PSt) : whlO vs n c b s = onR (c s) s fun t => if t then nextTurn vs n (b s) (whlO vs n c b) else .nx s := by
  by_cases h : (onR (c s) s fun t => if t then nextTurn vs n (b s) (whlO vs n c b) else .nx s) = .bad
  · rw [h]
    refine whlO_none fun k => Classical.byContradiction fun q => ?_
    cases k with
    | zero => exact q rfl
    | succ k =>
      rw [whlR] at q
      refine q ((onR_ne q (g := fun t => if t then nextTurn vs n (b s) (whlO vs n c b) else .nx s) fun t _ ht => ?_).symm.trans h)
      cases t with
      | false => rfl
      | true =>
        simp only [if_true] at ht ⊢
        exact nextTurn_mono ht fun s hs => whlO_of hs
  · have key : ∃ k, nextTurn vs n (b s) (whlR vs n c b k) = nextTurn vs n (b s) (whlO vs n c b) ∨ c s ≠ .ok true := by
      cases e : c s with
      | ok t =>
        cases t with
        | false => exact ⟨0, .inr (by simp)⟩
        | true =>
          rw [e] at h
          simp only [onR_ok, if_true] at h
          cases e2 : b s with
          | nx s1 =>
            rw [e2] at h
            simp only [nextTurn_nx] at h ⊢
            cases e3 : tidy vs n s1 with
            | none => exact ⟨0, .inl rfl⟩
            | some s2 =>
              rw [e3] at h
              obtain ⟨k, _, q⟩ := whlO_some h
              exact ⟨k, .inl q.symm⟩
          | ct s1 =>
            rw [e2] at h
            simp only [nextTurn_ct] at h ⊢
            cases e3 : tidy vs n s1 with
            | none => exact ⟨0, .inl rfl⟩
            | some s2 =>
              rw [e3] at h
              obtain ⟨k, _, q⟩ := whlO_some h
              exact ⟨k, .inl q.symm⟩
          | _ => exact ⟨0, .inl rfl⟩
      | _ => exact ⟨0, .inr (by simp)⟩
    obtain ⟨k, hk⟩ := key
    have e : whlR vs n c b (k + 1) s = onR (c s) s fun t => if t then nextTurn vs n (b s) (whlO vs n c b) else .nx s := by
      rw [whlR]
      cases e : c s with
      | ok t =>
        cases t with
        | false => rfl
        | true =>
          rcases hk with hk | hk
          · simp only [onR_ok, if_true]
            exact hk
          · exact absurd e hk
      | _ => rfl
    rw [← e]
    exact whlO_of (by rw [e]; exact h)
end
/-! ### operators -/
@[simp] theorem op2_add (i j : Int) : op2 .add (.int i) (.int j) = .ok (.int (i + j)) := rfl
@[simp] theorem op2_sub (i j : Int) : op2 .sub (.int i) (.int j) = .ok (.int (i - j)) := rfl
@[simp] theorem op2_lt (i j : Int) : op2 .lt (.int i) (.int j) = .ok (.bl (decide (i < j))) := rfl
@[simp] theorem op2_le (i j : Int) : op2 .le (.int i) (.int j) = .ok (.bl (decide (i ≤ j))) := rfl
@[simp] theorem op2_gt (i j : Int) : op2 .gt (.int i) (.int j) = .ok (.bl (decide (j < i))) := rfl
@[simp] theorem op2_ge (i j : Int) : op2 .ge (.int i) (.int j) = .ok (.bl (decide (j ≤ i))) := rfl
@[simp] theorem op2_eq (i j : Int) : op2 .eq (.int i) (.int j) = .ok (.bl (i == j)) := by simp [op2, eqR, D.plain, D.eqv]
@[simp] theorem op2_ne (i j : Int) : op2 .ne (.int i) (.int j) = .ok (.bl (!(i == j))) := by simp [op2, eqR, D.plain, D.eqv]
theorem op2_mul {i j : Int} (h : mulOk i j = true) : op2 .mul (.int i) (.int j) = .ok (.int (i * j)) := by simp [op2, h]
theorem op2_fdiv {i j : Int} (h : divOk j = true) : op2 .fdiv (.int i) (.int j) = .ok (.int (i / j)) := by simp [op2, h]
theorem op2_mod {i j : Int} (h : 0 < j) : op2 .mod (.int i) (.int j) = .ok (.int (i % j)) := by simp [op2, h]
@[simp] theorem op1_neg (i : Int) : op1 .neg (.int i) = .ok (.int (-i)) := rfl
@[simp] theorem op1_isN (d : D) : op1 .isN d = .ok (.bl d.isNon) := rfl
@[simp] theorem op1_notN (d : D) : op1 .notN d = .ok (.bl (!d.isNon)) := rfl
@[simp] theorem op1_isB (b : Bool) (d : D) : op1 (.isB b) d = .ok (.bl (d.isBl b)) := rfl
@[simp] theorem op1_notB (b : Bool) (d : D) : op1 (.notB b) d = .ok (.bl (!d.isBl b)) := rfl
@[simp] theorem bi_int (i : Int) : bi .int [.int i] = .ok (.int i) := rfl
@[simp] theorem bi_abs (i : Int) : bi .abs [.int i] = .ok (.int (if i < 0 then -i else i)) := rfl
@[simp] theorem bi_lenL (xs : List D) : bi .len [.lst xs] = .ok (.int xs.length) := rfl
@[simp] theorem bi_lenT (xs : List D) : bi .len [.tup xs] = .ok (.int xs.length) := rfl
@[simp] theorem bi_lenF (xs : List D) : bi .len [.fz xs] = .ok (.int xs.length) := rfl
@[simp] theorem bi_gcd (i j : Int) : bi .gcd [.int i, .int j] = .ok (.int ((Nat.gcd i.natAbs j.natAbs : Nat) : Int)) := rfl
@[simp] theorem bi_isinst (t : Ty) (d : D) : bi (.isinst t) [d] = .ok (.bl (hasTy t d)) := rfl
/-! ### sizes -/
theorem LINE_big : 1000000 < LINE := by rw [LINE_eq, sizeLine_eq]; decide
theorem log2_lt {x n : Nat} (h : x < 2 ^ n) : x.log2 ≤ n := by
  rcases Nat.eq_zero_or_pos x with e | e
  · subst e; simp
  · exact Nat.le_of_lt ((Nat.log2_lt (by omega)).mpr h)
theorem mulOk_of {i j : Int} {a b : Nat} (hi : i.natAbs < 2 ^ a) (hj : j.natAbs < 2 ^ b) (h : a + b < 1000000) : mulOk i j = true := by
  have h1 := log2_lt hi
  have h2 := log2_lt hj
  exact decide_eq_true (by omega)
theorem divOk_of {j : Int} {a : Nat} (h0 : 0 < j) (hj : j.natAbs < 2 ^ a) (h : a < 9000) : divOk j = true := by
  have h1 := log2_lt hj
  unfold divOk
  rw [decide_eq_true h0, decide_eq_true (show j.natAbs.log2 < 9000 by omega)]
  rfl
/-! ### lists that are frozen, popped, told anew -/
theorem optL_shOf_map : ∀ ds : List D, optL shOf (ds.map .sh) = some ds
  | [] => rfl
  | d :: ds => by
    rw [List.map_cons, optL, optL_shOf_map ds]
    rfl
theorem frzS_loc {g : List (Option SV)} {m : List Cell} {i k : Nat} {ds : List D} (h : g[i]? = some (some (.loc k))) (h2 : m[k]? = some (.ls (ds.map .sh))) : frzS i ⟨g, m⟩ = .nx ⟨g.set i (some (.sh (.lst ds))), m.set k .dead⟩ := by
  unfold frzS
  rw [slotV_mk, h]
  simp only [h2, optL_shOf_map]
theorem frzS_sh {g : List (Option SV)} {m : List Cell} {i : Nat} {d : D} (h : g[i]? = some (some (.sh d))) : frzS i ⟨g, m⟩ = .nx ⟨g, m⟩ := by
  unfold frzS
  rw [slotV_mk, h]
@[simp] theorem cell_lt_map (ds : List D) (n : Nat) : (Cell.ls (ds.map .sh)).lt n = true := by
  show ((ds.map SV.sh).all (SV.lt n)) = true
  rw [List.all_map, List.all_eq_true]
  exact fun _ _ => rfl
theorem map_erase : ∀ (ds : List D) (p : Nat), (ds.map SV.sh).eraseIdx p = (ds.eraseIdx p).map SV.sh
  | [], _ => rfl
  | _ :: _, 0 => rfl
  | d :: ds, p + 1 => by
    show SV.sh d :: (ds.map SV.sh).eraseIdx p = SV.sh d :: (ds.eraseIdx p).map SV.sh
    rw [map_erase ds p]
theorem popR_map {ds : List D} {p : Nat} {d : D} (h : ds[p]? = some d) : popR (ds.map .sh) (p : Int) = some (.sh d, (ds.eraseIdx p).map .sh) := by
  have hl := (List.getElem?_eq_some_iff.mp h).1
  unfold popR
  rw [List.length_map]
  have e : L2.ixN ds.length (p : Int) = some p := by
    unfold L2.ixN
    rw [if_pos (by omega), if_pos (by omega)]
    simp
  rw [e]
  simp only
  rw [List.getElem?_map, h]
  simp only [Option.map_some]
  congr 2
  exact map_erase ds p
end R
end

section
set_option Elab.async false
set_option linter.all false
set_option maxRecDepth 100000
/-! R23: the laws' common defs. -/
namespace R
open PySem
variable {Φ : Or}
/-! ### _law_gcd -/
def bGcd : List S := [.set 2 (.bi .abs [(.bi .int [(.var 0)])]), .set 3 (.bi .abs [(.bi .int [(.var 1)])]), .whl (.op .ne (.var 3) (.int 0)) [.set 4 (.op .mod (.bi .int [(.var 2)]) (.var 3)), .set 2 (.var 3), .set 3 (.var 4)] [4], .ret (.var 2)]
theorem gcd_loop (X Y : Option SV) : ∀ (b a : Nat), whlO [4] 0 (cnd Φ (.op .ne (.var 3) (.int 0))) (exSs Φ [.set 4 (.op .mod (.bi .int [(.var 2)]) (.var 3)), .set 2 (.var 3), .set 3 (.var 4)]) ⟨[X, Y, some (.sh (.int a)), some (.sh (.int b)), none], []⟩
    = .nx ⟨[X, Y, some (.sh (.int (Nat.gcd a b : Nat))), some (.sh (.int 0)), none], []⟩ := by
  intro b
  induction b using Nat.strongRecOn with
  | _ b ih =>
    intro a
    rw [whlO_eq]
    by_cases hb : b = 0
    · subst hb
      simp [cnd]
    · have h0 : (0 : Int) < (b : Int) := by omega
      have h1 : ((b : Int) == 0) = false := by simp; omega
      have e : ((a : Int) % (b : Int)) = ((a % b : Nat) : Int) := by simp
      simp [cnd, h1, op2_mod h0]
      rw [e, ih (a % b) (Nat.mod_lt _ (by omega)) b]
      rw [Nat.gcd_comm b (a % b), ← Nat.gcd_rec, Nat.gcd_comm]
theorem gcd_run (i j : Int) : endR (exSs Φ bGcd (enter 5 [.int i, .int j])) = .ok (.sh (.int (Nat.gcd i.natAbs j.natAbs : Nat))) := by
  have ha : ∀ i : Int, (if i < 0 then -i else i) = ((i.natAbs : Nat) : Int) := fun i => by split <;> omega
  simp [bGcd, ha, gcd_loop]
/-! ### _law_power and its like -/
def bPow (t : E) : List S := [.set 2 (.int 1), .set 3 (.var 0), .set 4 (.var 1), .whl (.op .gt (.var 4) (.int 0)) [.ifs (.op .eq (.op .mod t (.int 2)) (.int 1)) [.set 2 (.op .mul (.var 2) (.var 3))] [], .set 4 (.op .fdiv (.var 4) (.int 2)), .ifs (.op .gt (.var 4) (.int 0)) [.set 3 (.op .mul (.var 3) (.var 3))] []] [], .ret (.var 2)]
theorem natAbs_lt {x B : Nat} (h : x < 2 ^ B) : ((x : Nat) : Int).natAbs < 2 ^ B := by simpa using h
theorem div2Ok : divOk 2 = true := by decide +kernel
def bPowT (t : E) : List S := [.ifs (.op .eq (.op .mod t (.int 2)) (.int 1)) [.set 2 (.op .mul (.var 2) (.var 3))] [], .set 4 (.op .fdiv (.var 4) (.int 2)), .ifs (.op .gt (.var 4) (.int 0)) [.set 3 (.op .mul (.var 3) (.var 3))] []]
theorem pow_turn {t : E} (ht : ∀ (x y a b : Option D) (l : Int), ev Φ t [x, y, a, b, some (.int l)] = .ok (.int l)) (X Y : Option SV) (a q l : Int) (m1 : mulOk a q = true) (m2 : mulOk q q = true) :
    exSs Φ (bPowT t) ⟨[X, Y, some (.sh (.int a)), some (.sh (.int q)), some (.sh (.int l))], []⟩ = .nx ⟨[X, Y, some (.sh (.int (if l % 2 = 1 then a * q else a))), some (.sh (.int (if 0 < l / 2 then q * q else q))), some (.sh (.int (l / 2)))], []⟩ := by
  have md := op2_mod (i := l) (j := 2) (by decide)
  have dv := op2_fdiv (i := l) div2Ok
  by_cases h1 : l % 2 = 1
  · by_cases h2 : 0 < l / 2
    · simp [bPowT, ht, md, dv, h1, h2, op2_mul m1, op2_mul m2]
    · simp [bPowT, ht, md, dv, h1, h2, op2_mul m1]
  · by_cases h2 : 0 < l / 2
    · simp [bPowT, ht, md, dv, h1, h2, op2_mul m2]
    · simp [bPowT, ht, md, dv, h1, h2]
theorem pow_loop {t : E} (ht : ∀ (x y a b : Option D) (l : Int), ev Φ t [x, y, a, b, some (.int l)] = .ok (.int l)) (X Y : Option SV) {B : Nat} (hB : B ≤ 400000) : ∀ (l a q : Nat), 1 ≤ a → 1 ≤ q → a * q ^ l < 2 ^ B →
    ∃ z : Int, whlO [] 0 (cnd Φ (.op .gt (.var 4) (.int 0))) (exSs Φ (bPowT t)) ⟨[X, Y, some (.sh (.int a)), some (.sh (.int q)), some (.sh (.int l))], []⟩
      = .nx ⟨[X, Y, some (.sh (.int (a * q ^ l : Nat))), some (.sh (.int z)), some (.sh (.int 0))], []⟩ := by
  intro l
  induction l using Nat.strongRecOn with
  | _ l ih =>
    intro a q ha hq hb
    rw [whlO_eq]
    by_cases hl : l = 0
    · subst hl
      exact ⟨q, by simp [cnd]⟩
    · have h0 : (0 : Int) < (l : Int) := by omega
      have hql : q ≤ q ^ l := Nat.le_pow (by omega)
      have ha2 : a < 2 ^ B := Nat.lt_of_le_of_lt (Nat.le_mul_of_pos_right a (Nat.pow_pos (by omega))) hb
      have hq2 : q < 2 ^ B := Nat.lt_of_le_of_lt (Nat.le_trans hql (Nat.le_mul_of_pos_left _ (by omega))) hb
      have m1 : mulOk (a : Int) (q : Int) = true := mulOk_of (natAbs_lt ha2) (natAbs_lt hq2) (by omega)
      have m2 : mulOk (q : Int) (q : Int) = true := mulOk_of (natAbs_lt hq2) (natAbs_lt hq2) (by omega)
      have c : cnd Φ (.op .gt (.var 4) (.int 0)) ⟨[X, Y, some (.sh (.int a)), some (.sh (.int q)), some (.sh (.int l))], []⟩ = .ok true := by
        simp [cnd]; omega
      have pw : ∀ k, q ^ (2 * k) = (q * q) ^ k := fun k => by rw [Nat.pow_mul, Nat.pow_two]
      rw [c]
      simp only [onR_ok, if_true]
      rw [pow_turn ht X Y a q l m1 m2]
      simp only [nextTurn_nx, tidy_0, wipeS_nil]
      have e2 : ((l : Int) / 2) = ((l / 2 : Nat) : Int) := by simp
      have pos : 1 ≤ a * q := Nat.mul_pos (by omega) (by omega)
      have posq : 1 ≤ q * q := Nat.mul_pos (by omega) (by omega)
      rw [e2]
      by_cases hp : l % 2 = 1
      · rw [if_pos (by omega)]
        rw [show (a : Int) * (q : Int) = ((a * q : Nat) : Int) by simp]
        by_cases hz : l / 2 = 0
        · rw [if_neg (by omega)]
          have l1 : l = 1 := by omega
          have r : a * q * q ^ (l / 2) = a * q ^ l := by rw [l1]; simp
          obtain ⟨z, e⟩ := ih (l / 2) (by omega) (a * q) q pos hq (by rw [r]; exact hb)
          rw [r] at e
          exact ⟨z, e⟩
        · rw [if_pos (by omega), show (q : Int) * (q : Int) = ((q * q : Nat) : Int) by simp]
          have r : a * q * (q * q) ^ (l / 2) = a * q ^ l := by
            rw [← pw, Nat.mul_assoc]
            congr 1
            rw [Nat.mul_comm, ← Nat.pow_succ]
            congr 1
            omega
          obtain ⟨z, e⟩ := ih (l / 2) (by omega) (a * q) (q * q) pos posq (by rw [r]; exact hb)
          rw [r] at e
          exact ⟨z, e⟩
      · rw [if_neg (by omega), if_pos (by omega), show (q : Int) * (q : Int) = ((q * q : Nat) : Int) by simp]
        have r : a * (q * q) ^ (l / 2) = a * q ^ l := by
          rw [← pw]
          congr 2
          omega
        obtain ⟨z, e⟩ := ih (l / 2) (by omega) a (q * q) ha posq (by rw [r]; exact hb)
        rw [r] at e
        exact ⟨z, e⟩
theorem pow_run {t : E} (ht : ∀ (x y a b : Option D) (l : Int), ev Φ t [x, y, a, b, some (.int l)] = .ok (.int l)) {B q l : Nat} (hB : B ≤ 400000) (hq : 1 ≤ q) (hb : q ^ l < 2 ^ B) :
    endR (exSs Φ (bPow t) (enter 5 [.int q, .int l])) = .ok (.sh (.int (q ^ l : Nat))) := by
  obtain ⟨z, e⟩ := pow_loop (Φ := Φ) ht (some (.sh (.int q))) (some (.sh (.int l))) hB l 1 q (by omega) hq (by rw [Nat.one_mul]; exact hb)
  rw [Nat.one_mul] at e
  have e : whlO [] 0 (cnd Φ (.op .gt (.var 4) (.int 0))) (exSs Φ (bPowT t)) ⟨[some (.sh (.int q)), some (.sh (.int l)), some (.sh (.int 1)), some (.sh (.int q)), some (.sh (.int l))], []⟩ = _ := e
  unfold bPow
  show endR (exSs Φ [.set 2 (.int 1), .set 3 (.var 0), .set 4 (.var 1), .whl (.op .gt (.var 4) (.int 0)) (bPowT t) [], .ret (.var 2)] _) = _
  simp [e]
def tPow1 : E := .bi .int [.var 4]
def tPow2 : E := .var 4
theorem tPow1_ok (x y a b : Option D) (l : Int) : ev Φ tPow1 [x, y, a, b, some (.int l)] = .ok (.int l) := by simp [tPow1]
theorem tPow2_ok (x y a b : Option D) (l : Int) : ev Φ tPow2 [x, y, a, b, some (.int l)] = .ok (.int l) := by simp [tPow2]
end R
end

section
set_option Elab.async false
set_option linter.all false
set_option maxRecDepth 100000
/-! R24: the laws' common defs, on. -/
namespace R
open PySem
variable {Φ : Or}
theorem atI_get {α : Type} {xs : List α} {k : Nat} {a : α} (h : xs[k]? = some a) : L2.atI xs (k : Int) = some a := by
  have hl := (List.getElem?_eq_some_iff.mp h).1
  unfold L2.atI L2.ixN
  rw [if_pos (by omega), if_pos (by omega)]
  simpa using h
/-! ### fractions -/
def bFrac (f g : Nat) : List S := [.ifs (.op .lt (.var 1) (.int 0)) [.ret (.call f [(.un .neg (.var 0)), (.un .neg (.var 1))])] [], .set 2 (.call g [(.var 0), (.var 1)]), .ret (.tup [(.op .fdiv (.var 0) (.var 2)), (.op .fdiv (.var 1) (.var 2))])]
def bRatio : List S := [.ifs (.op .eq (.var 1) (.int 0)) [.never] [], .set 2 (.int 1), .ifs (.op .lt (.var 1) (.int 0)) [.set 2 (.un .neg (.int 1))] [], .set 3 (.bi .gcd [(.var 0), (.var 1)]), .ret (.tup [(.op .fdiv (.op .mul (.var 2) (.var 0)) (.var 3)), (.op .fdiv (.op .mul (.var 2) (.var 1)) (.var 3))])]
def gcdI (a b : Int) : Int := (Nat.gcd a.natAbs b.natAbs : Nat)
/-- the fraction in lowest terms, the bottom positive -/
def fracD (t b : Int) : D := .tup [.int (t / gcdI t b), .int (b / gcdI t b)]
theorem two_le_LINE : (2 : Nat) ≤ LINE := Nat.le_of_lt (Nat.lt_trans (by decide) LINE_big)
theorem gcdI_ok {t b : Int} {B : Nat} (h0 : 0 < b) (hb : b.natAbs < 2 ^ B) (hB : B < 9000) : divOk (gcdI t b) = true := by
  have hp : 0 < Nat.gcd t.natAbs b.natAbs := Nat.gcd_pos_of_pos_right _ (by omega)
  have hle : Nat.gcd t.natAbs b.natAbs ≤ b.natAbs := Nat.le_of_dvd (by omega) (Nat.gcd_dvd_right _ _)
  exact divOk_of (a := B) (by unfold gcdI; omega) (by unfold gcdI; simpa using Nat.lt_of_le_of_lt hle hb) hB
theorem frac_run {f g : Nat} (hg : ∀ i j : Int, Φ g [.int i, .int j] = .ok (.sh (.int (gcdI i j)))) {t b : Int} {B : Nat} (h0 : 0 < b) (hb : b.natAbs < 2 ^ B) (hB : B < 9000) : endR (exSs Φ (bFrac f g) (enter 3 [.int t, .int b])) = .ok (.sh (fracD t b)) := by
  have d := gcdI_ok (t := t) h0 hb hB
  have n : ¬ b < 0 := by omega
  simp [bFrac, n, hg, op2_fdiv d, two_le_LINE, fracD]
theorem ratio_run {t b : Int} {B C : Nat} (h0 : 0 < b) (hb : b.natAbs < 2 ^ B) (hB : B < 9000) (ht : t.natAbs < 2 ^ C) (hC : C < 500000) : endR (exSs Φ bRatio (enter 4 [.int t, .int b])) = .ok (.sh (fracD t b)) := by
  have d := gcdI_ok (t := t) h0 hb hB
  have n : ¬ b < 0 := by omega
  have z : (b == 0) = false := by simp; omega
  have m1 : mulOk 1 t = true := mulOk_of (a := 1) (by decide) ht (by omega)
  have m2 : mulOk 1 b = true := mulOk_of (a := 1) (by decide) hb (by omega)
  have e : ((Nat.gcd t.natAbs b.natAbs : Nat) : Int) = gcdI t b := rfl
  simp [bRatio, n, z, e, op2_mul m1, op2_mul m2, op2_fdiv d, two_le_LINE, fracD]
/-! ### _law_whole, _law_same -/
def bWhole : List S := [.ret (.and (.bi (.isinst .int) [(.var 0)]) (.not (.bi (.isinst .bool) [(.var 0)])))]
theorem whole_int (i : Int) : endR (exSs Φ bWhole (enter 1 [.int i])) = .ok (.sh (.bl true)) := by simp [bWhole, hasTy]
def bSame (f w : Nat) : List S := [.ifs (.or (.bi (.isinst .tuple) [(.var 1)]) (.bi (.isinst .list) [(.var 1)])) [.ifs (.or (.not (.bi (.isinst .tuple) [(.var 0)])) (.op .ne (.bi .len [(.var 0)]) (.bi .len [(.var 1)]))) [.ret (.bl false)] [], .fr .r1 [2] [(.bi .len [(.var 1)])] [.ifs (.not (.call f [(.idx (.var 0) (.var 2)), (.idx (.var 1) (.var 2))])) [.ret (.bl false)] []] [2], .ret (.bl true)] [], .ifs (.un .isN (.var 1)) [.ret (.un .isN (.var 0))] [], .ifs (.un (.isB true) (.var 1)) [.ret (.un (.isB true) (.var 0))] [], .ifs (.un (.isB false) (.var 1)) [.ret (.un (.isB false) (.var 0))] [], .ifs (.bi (.isinst .str) [(.var 1)]) [.ret (.and (.bi (.isinst .str) [(.var 0)]) (.op .eq (.var 0) (.var 1)))] [], .ret (.and (.call w [(.var 0)]) (.op .eq (.var 0) (.var 1)))]
/-- a loop that leaves the state as it was -/
theorem forR_const {vs : List Nat} {n : Nat} {b : D → PSt → Out} {s : PSt} : ∀ {items : List D}, (∀ x ∈ items, ∃ s', b x s = .nx s' ∧ tidy vs n s' = some s) → forR vs n b items s = .nx s
  | [], _ => rfl
  | x :: xs, h => by
    obtain ⟨s', h1, h2⟩ := h x List.mem_cons_self
    rw [forR_cons, h1, nextTurn_nx, h2]
    exact forR_const fun y hy => h y (List.mem_cons_of_mem _ hy)
theorem mem_rng {a b : Int} {x : D} (h : x ∈ rng a b) : ∃ i : Int, x = .int i ∧ a ≤ i ∧ i < b := by
  unfold rng at h
  obtain ⟨k, hk, rfl⟩ := List.mem_map.mp h
  rw [List.mem_range] at hk
  exact ⟨_, rfl, by omega, by omega⟩
theorem same_int {f w : Nat} (hw : ∀ i : Int, Φ w [.int i] = .ok (.sh (.bl true))) (i : Int) : endR (exSs Φ (bSame f w) (enter 3 [.int i, .int i])) = .ok (.sh (.bl true)) := by
  simp -implicitDefEqProofs [bSame, hasTy, D.isNon, D.isBl, hw]
theorem same_non {f w : Nat} : endR (exSs Φ (bSame f w) (enter 3 [.non, .non])) = .ok (.sh (.bl true)) := by
  simp -implicitDefEqProofs [bSame, hasTy, D.isNon]
theorem same_bl {f w : Nat} (b : Bool) : endR (exSs Φ (bSame f w) (enter 3 [.bl b, .bl b])) = .ok (.sh (.bl true)) := by
  cases b <;> simp -implicitDefEqProofs [bSame, hasTy, D.isNon, D.isBl]
theorem same_tup {f w : Nat} {xs : List D} (hl : xs.length < 1000000) (h : ∀ x ∈ xs, Φ f [x, x] = .ok (.sh (.bl true))) : endR (exSs Φ (bSame f w) (enter 3 [.tup xs, .tup xs])) = .ok (.sh (.bl true)) := by
  have r : rngOk 0 (xs.length : Int) = true := rngOk_of (by omega) (by omega) (by omega) (by omega) (by omega)
  have loop := forR_const (vs := [2]) (n := 0) (b := frB Φ [2] [.ifs (.not (.call f [(.idx (.var 0) (.var 2)), (.idx (.var 1) (.var 2))])) [.ret (.bl false)] []]) (s := ⟨[some (.sh (.tup xs)), some (.sh (.tup xs)), none], []⟩) (items := rng 0 xs.length) fun x hx => by
    obtain ⟨i, rfl, h1, h2⟩ := mem_rng hx
    obtain ⟨k, rfl⟩ : ∃ k : Nat, i = (k : Int) := ⟨i.toNat, by omega⟩
    have hk : k < xs.length := by omega
    have e : xs[k]? = some xs[k] := List.getElem?_eq_getElem hk
    have e2 : ixR (.tup xs) (.int (k : Int)) = .ok xs[k] := by simp -implicitDefEqProofs [ixR, D.seq, atI_get e]
    refine ⟨⟨[some (.sh (.tup xs)), some (.sh (.tup xs)), some (.sh (.int k))], []⟩, ?_, by simp⟩
    simp -implicitDefEqProofs [frB, e2, h xs[k] (List.getElem_mem hk)]
  simp -implicitDefEqProofs [bSame, hasTy, srcR_r1 r, loop]
/-! ### _law_cell -/
def bCellT : List S := [.set 2 (.op .mod (.bi .int [(.op .add (.op .mul (.var 2) (.int 31)) (.op .mod (.bi .int [(.var 3)]) (.int 1000003)))]) (.int 1000003))]
def bCell : List S := [.ifs (.op .lt (.var 1) (.bi .len [(.var 0)])) [.ret (.idx (.var 0) (.var 1))] [], .set 2 (.int 17), .fr .seq [3] [(.var 0)] bCellT [3], .ret (.op .mod (.bi .int [(.op .mul (.op .mul (.op .add (.var 2) (.int 7)) (.op .add (.var 1) (.int 3))) (.int 69621))]) (.int 2147483647))]
theorem mul_small {i j : Int} (hi : -(2 ^ 62) < i ∧ i < 2 ^ 62) (hj : -(2 ^ 62) < j ∧ j < 2 ^ 62) : mulOk i j = true := mulOk_of (a := 62) (b := 62) (by omega) (by omega) (by decide)
theorem cell_loop (X Y : Option SV) : ∀ (ns : List Int) (s : Int), 0 ≤ s → s < 1000003 → ∃ s' : Int, (0 ≤ s' ∧ s' < 1000003) ∧ forR [3] 0 (frB Φ [3] bCellT) (ns.map D.int) ⟨[X, Y, some (.sh (.int s)), none], []⟩ = .nx ⟨[X, Y, some (.sh (.int s')), none], []⟩
  | [], s, h1, h2 => ⟨s, ⟨h1, h2⟩, rfl⟩
  | n :: ns, s, h1, h2 => by
    have m := mul_small (i := s) (j := 31) (by omega) (by decide)
    have d1 := op2_mod (i := n) (j := 1000003) (by decide)
    have d2 := op2_mod (i := s * 31 + n % 1000003) (j := 1000003) (by decide)
    obtain ⟨s', hs, e⟩ := cell_loop X Y ns ((s * 31 + n % 1000003) % 1000003) (by omega) (by omega)
    refine ⟨s', hs, ?_⟩
    rw [List.map_cons, forR_cons, ← e]
    simp -implicitDefEqProofs [frB, bCellT, op2_mul m, d1, d2]
theorem cell_run {ns : List Int} {k : Nat} (hl : ns.length < 1000000) (hk : k < 1000000) : ∃ c : Int, endR (exSs Φ bCell (enter 4 [.fz (ns.map .int), .int k])) = .ok (.sh (.int c)) := by
  by_cases h : k < ns.length
  · refine ⟨ns[k], ?_⟩
    have e2 : ixR (.fz (ns.map D.int)) (.int (k : Int)) = .ok (.int ns[k]) := by
      simp [ixR, D.seq, atI_get (show (ns.map D.int)[k]? = some (.int ns[k]) by simp [h])]
    have h' : (k : Int) < (ns.length : Int) := by omega
    simp -implicitDefEqProofs [bCell, h, e2]
  · obtain ⟨s', hs, e⟩ := cell_loop (Φ := Φ) (some (.sh (.fz (ns.map .int)))) (some (.sh (.int k))) ns 17 (by decide) (by decide)
    have m1 : mulOk (s' + 7) ((k : Int) + 3) = true := mul_small (by omega) (by omega)
    have b1 : (s' + 7) * ((k : Int) + 3) < 2 ^ 50 := by
      have : (s' + 7) * ((k : Int) + 3) ≤ 1000010 * 1000003 := Int.mul_le_mul (by omega) (by omega) (by omega) (by omega)
      omega
    have b2 : 0 ≤ (s' + 7) * ((k : Int) + 3) := Int.mul_nonneg (by omega) (by omega)
    have m2 : mulOk ((s' + 7) * ((k : Int) + 3)) 69621 = true := mul_small (by omega) (by decide)
    have d := op2_mod (i := (s' + 7) * ((k : Int) + 3) * 69621) (j := 2147483647) (by decide)
    refine ⟨(s' + 7) * ((k : Int) + 3) * 69621 % 2147483647, ?_⟩
    simp -implicitDefEqProofs [bCell, h, e, op2_mul m1, op2_mul m2, d]
/-! ### _law_digits -/
def bDigA : List S := [.app 2 (.op .mod (.bi .int [(.var 3)]) (.var 4)), .set 3 (.op .fdiv (.bi .int [(.var 3)]) (.var 4))]
def bDigB : List S := [.set 5 (.op .mod (.bi .int [(.op .add (.op .add (.op .mul (.var 5) (.int 48271)) (.op .mul (.int 974711) (.var 6))) (.int 12345))]) (.int 2147483647)), .set 7 (.op .mod (.bi .int [(.op .mul (.var 5) (.op .add (.op .fdiv (.var 5) (.int 65537)) (.int 3)))]) (.int 2147483629)), .app 2 (.op .mod (.op .fdiv (.var 7) (.int 19)) (.idx (.var 1) (.var 6)))]
def bDig : List S := [.own 2 (.lst []), .set 3 (.bi .int [(.var 0)]), .ifs (.op .ge (.var 3) (.op .pow (.int 10) (.int 18))) [.set 3 (.op .sub (.var 3) (.op .pow (.int 10) (.int 18))), .fr .seq [4] [(.var 1)] bDigA [4], .ret (.var 2)] [], .set 5 (.op .mod (.bi .int [(.var 3)]) (.int 2147483629)), .fr .r1 [6] [(.bi .len [(.var 1)])] bDigB [6, 7], .ret (.var 2)]
/-- each digit below its size -/
def InB (row sizes : List Int) : Prop := row.length = sizes.length ∧ ∀ (i : Nat) (r s : Int), row[i]? = some r → sizes[i]? = some s → 0 ≤ r ∧ r < s
theorem InB.snoc {row done : List Int} (h : InB row done) {r s : Int} (h1 : 0 ≤ r) (h2 : r < s) : InB (row ++ [r]) (done ++ [s]) := by
  refine ⟨by simp [h.1], fun i x y e1 e2 => ?_⟩
  by_cases hi : i < row.length
  · rw [List.getElem?_append_left hi] at e1
    rw [List.getElem?_append_left (by rw [← h.1]; exact hi)] at e2
    exact h.2 i x y e1 e2
  · rw [List.getElem?_append_right (by omega)] at e1
    rw [List.getElem?_append_right (by have := h.1; omega), ← h.1] at e2
    cases hq : i - row.length with
    | zero =>
      rw [hq] at e1 e2
      simp at e1 e2
      subst e1; subst e2
      exact ⟨h1, h2⟩
    | succ n => rw [hq] at e1; simp at e1
def SizesOk (sizes : List Int) : Prop := sizes.length < 100000 ∧ ∀ s ∈ sizes, 0 < s ∧ s < 2 ^ 62
abbrev rowC (row : List Int) : List SV := (row.map D.int).map SV.sh
theorem len_lt {n : Nat} (h : n < 100000) : n < LINE := Nat.lt_trans h (Nat.lt_trans (by decide) LINE_big)
theorem digA (C Sz : Option SV) : ∀ (sizes : List Int) (done row : List Int) (rest : Int), InB row done → (∀ s ∈ sizes, 0 < s ∧ s < 2 ^ 62) → (done ++ sizes).length < 100000 →
    ∃ (row' : List Int) (rest' : Int), InB row' (done ++ sizes) ∧ forR [4] 1 (frB Φ [4] bDigA) (sizes.map D.int) ⟨[C, Sz, some (.loc 0), some (.sh (.int rest)), none, none, none, none], [.ls (rowC row)]⟩ = .nx ⟨[C, Sz, some (.loc 0), some (.sh (.int rest')), none, none, none, none], [.ls (rowC row')]⟩
  | [], done, row, rest, h, _, _ => ⟨row, rest, by rw [List.append_nil]; exact h, rfl⟩
  | s :: sizes, done, row, rest, h, hs, hl => by
    have s0 := hs s List.mem_cons_self
    have hl2 : row.length < 100000 := by
      rw [List.length_append] at hl
      rw [h.1]; omega
    have l1 := len_lt hl2
    have d1 := op2_mod (i := rest) s0.1
    have d2 := op2_fdiv (i := rest) (divOk_of (j := s) (a := 62) s0.1 (by omega) (by decide))
    obtain ⟨row', rest', q1, q2⟩ := digA C Sz sizes (done ++ [s]) (row ++ [rest % s]) (rest / s) (h.snoc (Int.emod_nonneg _ (by omega)) (Int.emod_lt_of_pos _ s0.1)) (fun x hx => hs x (List.mem_cons_of_mem _ hx)) (by simpa using hl)
    refine ⟨row', rest', by simpa using q1, ?_⟩
    rw [List.map_cons, forR_cons, ← q2]
    simp -implicitDefEqProofs [frB, bDigA, d1, d2, cellOf, l1, D.noL, rowC]
theorem digB (C R3 : Option SV) {sizes : List Int} (hs : SizesOk sizes) : ∀ (m k : Nat) (row : List Int) (seed : Int), k + m = sizes.length → InB row (sizes.take k) → 0 ≤ seed → seed < 2147483647 →
    ∃ (row' : List Int) (seed' : Int), InB row' sizes ∧ forR [6, 7] 1 (frB Φ [6] bDigB) (rng k sizes.length) ⟨[C, some (.sh (.lst (sizes.map .int))), some (.loc 0), R3, none, some (.sh (.int seed)), none, none], [.ls (rowC row)]⟩
      = .nx ⟨[C, some (.sh (.lst (sizes.map .int))), some (.loc 0), R3, none, some (.sh (.int seed')), none, none], [.ls (rowC row')]⟩
  | 0, k, row, seed, e, h, _, _ => by
    rw [rng_nil (by omega)]
    rw [List.take_of_length_le (by omega)] at h
    exact ⟨row, seed, h, rfl⟩
  | m + 1, k, row, seed, e, h, s1, s2 => by
    have hk : k < sizes.length := by omega
    have sz := hs.2 sizes[k] (List.getElem_mem hk)
    have hl2 : row.length < 100000 := by
      have := h.1
      rw [List.length_take] at this
      have := hs.1
      omega
    have l1 := len_lt hl2
    have hk5 : (k : Int) < 100000 := by have := hs.1; omega
    have m1 := mul_small (i := seed) (j := 48271) (by omega) (by decide)
    have m2 := mul_small (i := 974711) (j := (k : Int)) (by decide) (by omega)
    have d1 := op2_mod (i := seed * 48271 + 974711 * (k : Int) + 12345) (j := 2147483647) (by decide)
    generalize hs1 : (seed * 48271 + 974711 * (k : Int) + 12345) % 2147483647 = sd at d1
    have b1 : 0 ≤ sd ∧ sd < 2147483647 := by omega
    have dv := op2_fdiv (i := sd) (j := 65537) (divOk_of (a := 17) (by decide) (by decide) (by decide))
    have b2 : 0 ≤ sd / 65537 + 3 ∧ sd / 65537 + 3 < 100000 := by omega
    have m3 := mul_small (i := sd) (j := sd / 65537 + 3) (by omega) (by omega)
    have d2 := op2_mod (i := sd * (sd / 65537 + 3)) (j := 2147483629) (by decide)
    have dv2 := op2_fdiv (i := sd * (sd / 65537 + 3) % 2147483629) (j := 19) (divOk_of (a := 5) (by decide) (by decide) (by decide))
    have d3 := op2_mod (i := sd * (sd / 65537 + 3) % 2147483629 / 19) sz.1
    have ix : ixR (.lst (sizes.map D.int)) (.int (k : Int)) = .ok (.int sizes[k]) := by
      simp [ixR, D.seq, atI_get (show (sizes.map D.int)[k]? = some (.int sizes[k]) by simp [hk])]
    have ht : sizes.take (k + 1) = sizes.take k ++ [sizes[k]] := by rw [List.take_succ, List.getElem?_eq_getElem hk]; rfl
    obtain ⟨row', seed', q1, q2⟩ := digB C R3 hs m (k + 1) (row ++ [sd * (sd / 65537 + 3) % 2147483629 / 19 % sizes[k]]) sd (by omega) (by rw [ht]; exact h.snoc (Int.emod_nonneg _ (by omega)) (Int.emod_lt_of_pos _ sz.1)) b1.1 b1.2
    refine ⟨row', seed', q1, ?_⟩
    rw [rng_cons (by omega), forR_cons, show ((k : Int) + 1) = ((k + 1 : Nat) : Int) by simp, ← q2]
    simp -implicitDefEqProofs [frB, bDigB, op2_mul m1, op2_mul m2, d1, dv, op2_mul m3, d2, dv2, d3, ix, cellOf, l1, D.noL, rowC]
theorem dig_run (c : Int) {sizes : List Int} (hs : SizesOk sizes) : ∃ row : List Int, InB row sizes ∧ endR (exSs Φ bDig (enter 8 [.int c, .lst (sizes.map .int)])) = .ok (.sh (.lst (row.map .int))) := by
  have n0 : InB [] [] := ⟨rfl, fun i r s e => by simp at e⟩
  have pw : op2 .pow (.int 10) (.int 18) = .ok (.int (10 ^ 18)) := by
    have : powOk 10 18 = true := by decide +kernel
    simp [op2, this]
  have z0 : (0 : Nat) ≤ LINE := Nat.zero_le _
  by_cases h : (10 ^ 18 : Int) ≤ c
  · obtain ⟨row', rest', q1, q2⟩ := digA (Φ := Φ) (some (.sh (.int c))) (some (.sh (.lst (sizes.map .int)))) sizes [] [] (c - 10 ^ 18) n0 hs.2 (by simpa using hs.1)
    refine ⟨row', by simpa using q1, ?_⟩
    have h' : (1000000000000000000 : Int) ≤ c := by omega
    simp only [rowC, List.map_nil] at q2
    have e18 : (10 : Int) ^ 18 = 1000000000000000000 := by decide
    rw [e18] at pw q2
    simp -implicitDefEqProofs [bDig, pw, h', evO, z0, D.noL.noLs, q2, rowC, -List.map_map]
  · have h' : ¬ (1000000000000000000 : Int) ≤ c := by omega
    have e18 : (10 : Int) ^ 18 = 1000000000000000000 := by decide
    rw [e18] at pw
    have d0 := op2_mod (i := c) (j := 2147483629) (by decide)
    obtain ⟨row', seed', q1, q2⟩ := digB (Φ := Φ) (some (.sh (.int c))) (some (.sh (.int c))) hs sizes.length 0 [] (c % 2147483629) (by omega) (by simpa using n0) (by omega) (by omega)
    refine ⟨row', q1, ?_⟩
    have r : rngOk 0 (sizes.length : Int) = true := by
      have := hs.1
      exact rngOk_of (by omega) (by omega) (by omega) (by omega) (by omega)
    simp only [rowC, List.map_nil, Int.ofNat_zero, Int.natCast_zero] at q2
    simp -implicitDefEqProofs [bDig, pw, h', evO, z0, D.noL.noLs, d0, srcR_r1 r, q2, rowC, -List.map_map]
end R
end

section
set_option Elab.async false
set_option linter.all false
set_option maxRecDepth 100000
/-! R25: comprehensions over a range, == of int lists. -/
namespace R
open PySem
theorem mapR_all {α β : Type} {f : D → Res (Option β)} {i : α → D} {g : α → β} : ∀ {xs : List α}, (∀ x ∈ xs, f (i x) = .ok (some (g x))) → mapR f (xs.map i) = .ok (xs.map g)
  | [], _ => rfl
  | x :: xs, h => by
    rw [List.map_cons, mapR, h x List.mem_cons_self, mapR_all fun y hy => h y (List.mem_cons_of_mem _ hy)]
    rfl
theorem rng0 (c : Nat) : rng 0 c = (List.range c).map fun k => D.int (k : Nat) := by
  unfold rng
  rw [show ((c : Int) - 0).toNat = c by omega]
  apply List.map_congr_left
  intro k _
  simp
@[simp] theorem noEx_ok' {α : Type} (a : α) : noEx (.ok a : Res α) = .ok a := rfl
theorem eqvs_int : ∀ xs : List Int, D.eqv.eqvs (xs.map .int) (xs.map .int) = true
  | [] => rfl
  | x :: xs => by
    rw [List.map_cons, D.eqv.eqvs, eqvs_int xs]
    simp [D.eqv]
theorem eqv_ints (xs : List Int) : D.eqv (.lst (xs.map .int)) (.lst (xs.map .int)) = true := by
  rw [D.eqv]
  exact eqvs_int xs
theorem plain_ints (n : Nat) (xs : List Int) : D.plain (n + 1) (.lst (xs.map .int)) = true := by
  rw [D.plain, List.all_map, List.all_eq_true]
  intro x _
  simp [D.plain]
/-- two lists of ints side by side -/
theorem eq_two (xs ys : List Int) : op2 .eq (.lst [.lst (xs.map .int), .lst (ys.map .int)]) (.lst [.lst (xs.map .int), .lst (ys.map .int)]) = .ok (.bl true) := by
  have p : D.plain 20 (.lst [.lst (xs.map .int), .lst (ys.map .int)]) = true := by
    rw [D.plain]
    simp [plain_ints]
  have e : D.eqv (.lst [.lst (xs.map .int), .lst (ys.map .int)]) (.lst [.lst (xs.map .int), .lst (ys.map .int)]) = true := by
    rw [D.eqv]
    simp [D.eqv.eqvs, eqv_ints]
  simp [op2, eqR, p, e]
@[simp] theorem bi_listL (xs : List D) : bi .list [.lst xs] = .ok (.lst xs) := rfl
end R
end

section
set_option Elab.async false
set_option linter.all false
set_option maxRecDepth 100000
/-! R26: fractions as rational numbers. -/
namespace R
open PySem
def fq (q : Rat) : D := .tup [.int q.num, .int (q.den : Int)]
theorem natAbs_lt' {n a : Nat} (h : n < 2 ^ a) : ((n : Nat) : Int).natAbs < 2 ^ a := by simpa using h
theorem natAbs_mul_lt' {x y : Int} {a b : Nat} (h1 : x.natAbs < 2 ^ a) (h2 : y.natAbs < 2 ^ b) : (x * y).natAbs < 2 ^ (a + b) := by
  rw [Int.natAbs_mul, Nat.pow_add]
  exact Nat.mul_lt_mul'' h1 h2
theorem natAbs_add_lt {x y : Int} {a : Nat} (h1 : x.natAbs < 2 ^ a) (h2 : y.natAbs < 2 ^ a) : (x + y).natAbs < 2 ^ (a + 1) := by
  have := Int.natAbs_add_le x y
  rw [Nat.pow_succ]
  omega
theorem natAbs_sub_lt {x y : Int} {a : Nat} (h1 : x.natAbs < 2 ^ a) (h2 : y.natAbs < 2 ^ a) : (x - y).natAbs < 2 ^ (a + 1) := by
  have := Int.natAbs_sub_le x y
  rw [Nat.pow_succ]
  omega
theorem lt_pow {x a b : Nat} (h : x < 2 ^ a) (hab : a ≤ b) : x < 2 ^ b := Nat.lt_of_lt_of_le h (Nat.pow_le_pow_right (by decide) hab)
theorem fq_div {t b : Int} (h : 0 < b) : fracD t b = fq ((t : Rat) / (b : Rat)) := by
  rw [← Rat.divInt_eq_div]
  unfold fracD fq gcdI
  have e1 : (Rat.divInt t b).num = t / ((Nat.gcd t.natAbs b.natAbs : Nat) : Int) := by
    rw [Rat.num_divInt, Int.sign_eq_one_of_pos h, Int.one_mul, Int.gcd_comm]
    rfl
  have e2 : ((Rat.divInt t b).den : Int) = b / ((Nat.gcd t.natAbs b.natAbs : Nat) : Int) := by
    rw [Rat.den_divInt, if_neg (by omega), Int.gcd_comm]
    have eb : b = ((b.natAbs : Nat) : Int) := by omega
    rw [show (t.gcd b) = Nat.gcd t.natAbs b.natAbs from rfl]
    conv => rhs; rw [eb]
    simp
  rw [e1, e2]
theorem q_eq (q : Rat) : q = (q.num : Rat) / ((q.den : Int) : Rat) := by
  rw [← Rat.divInt_eq_div, Rat.num_divInt_den]
theorem den_pos (q : Rat) : 0 < (q.den : Int) := by have := q.den_pos; omega
theorem den_ne (q : Rat) : ((q.den : Int) : Rat) ≠ 0 := fun h => by
  have h : ((q.den : Int) : Rat) = ((0 : Int) : Rat) := h
  have := Rat.intCast_inj.mp h
  have := q.den_pos
  omega
theorem add_eq (a b : Rat) : fracD (a.num * b.den + b.num * a.den) ((a.den : Int) * b.den) = fq (a + b) := by
  rw [fq_div (Int.mul_pos (den_pos a) (den_pos b))]
  congr 1
  have h1 := q_eq a
  have h2 := q_eq b
  have h3 := den_ne a
  have h4 := den_ne b
  rw [Rat.intCast_add, Rat.intCast_mul, Rat.intCast_mul, Rat.intCast_mul]
  grind
theorem sub_eq (a b : Rat) : fracD (a.num * b.den - b.num * a.den) ((a.den : Int) * b.den) = fq (a - b) := by
  rw [fq_div (Int.mul_pos (den_pos a) (den_pos b))]
  congr 1
  have h1 := q_eq a
  have h2 := q_eq b
  have h3 := den_ne a
  have h4 := den_ne b
  rw [Rat.intCast_sub, Rat.intCast_mul, Rat.intCast_mul, Rat.intCast_mul]
  grind
theorem mul_eq (a b : Rat) : fracD (a.num * b.num) ((a.den : Int) * b.den) = fq (a * b) := by
  rw [fq_div (Int.mul_pos (den_pos a) (den_pos b))]
  congr 1
  have h1 := q_eq a
  have h2 := q_eq b
  have h3 := den_ne a
  have h4 := den_ne b
  rw [Rat.intCast_mul, Rat.intCast_mul]
  grind
theorem num_ne {q : Rat} (h : q ≠ 0) : (q.num : Rat) ≠ 0 := fun e => by
  have e : (q.num : Rat) = ((0 : Int) : Rat) := e
  exact h (Rat.num_eq_zero.mp (Rat.intCast_inj.mp e))
theorem div_q (a b : Rat) (h : b ≠ 0) : ((a.num * (b.den : Int) : Int) : Rat) / (((a.den : Int) * b.num : Int) : Rat) = a / b := by
  have h1 := q_eq a
  have h2 := q_eq b
  have h3 := den_ne a
  have h4 := den_ne b
  have h5 := num_ne h
  rw [Rat.intCast_mul, Rat.intCast_mul]
  grind
/-! ### bounds -/
def Bd (a : Nat) (q : Rat) : Prop := q.num.natAbs < 2 ^ a ∧ q.den < 2 ^ a
/-- z over M -/
def Ov (M : Nat) (a : Nat) (q : Rat) : Prop := ∃ z : Int, q = (z : Rat) / ((M : Int) : Rat) ∧ z.natAbs < 2 ^ a
theorem Ov.bd {M a : Nat} {q : Rat} (h : Ov M a q) (h0 : 0 < M) (hM : M < 2 ^ a) : Bd a q := by
  obtain ⟨z, e, hz⟩ := h
  rw [← Rat.divInt_eq_div] at e
  subst e
  constructor
  · rw [Rat.num_divInt, Int.sign_eq_one_of_pos (by omega), Int.one_mul]
    exact Nat.lt_of_le_of_lt (by first | exact Int.natAbs_ediv_le_natAbs _ _ | exact Int.natAbs_div_le_natAbs _ _) hz
  · rw [Rat.den_divInt, if_neg (by omega)]
    exact Nat.lt_of_le_of_lt (Nat.div_le_self _ _) (by simpa using hM)
/-! ### the defs -/
/-- c makes fractions of tops and bottoms above zero -/
def FrOk (Φ : Or) (c : Nat) : Prop := ∀ (t b : Int) (B C : Nat), 0 < b → b.natAbs < 2 ^ B → B < 9000 → t.natAbs < 2 ^ C → C < 400000 → Φ c [.int t, .int b] = .ok (.sh (fracD t b))
def bAdd (c : Nat) : List S := [.ret (.call c [(.op .add (.op .mul (.idx (.var 0) (.int 0)) (.idx (.var 1) (.int 1))) (.op .mul (.idx (.var 1) (.int 0)) (.idx (.var 0) (.int 1)))), (.op .mul (.idx (.var 0) (.int 1)) (.idx (.var 1) (.int 1)))])]
def bSub (c : Nat) : List S := [.ret (.call c [(.op .sub (.op .mul (.idx (.var 0) (.int 0)) (.idx (.var 1) (.int 1))) (.op .mul (.idx (.var 1) (.int 0)) (.idx (.var 0) (.int 1)))), (.op .mul (.idx (.var 0) (.int 1)) (.idx (.var 1) (.int 1)))])]
def bTim (c : Nat) : List S := [.ret (.call c [(.op .mul (.idx (.var 0) (.int 0)) (.idx (.var 1) (.int 0))), (.op .mul (.idx (.var 0) (.int 1)) (.idx (.var 1) (.int 1)))])]
@[simp] theorem ix_fq0 (q : Rat) : ixR (fq q) (.int 0) = .ok (.int q.num) := rfl
@[simp] theorem ix_fq1 (q : Rat) : ixR (fq q) (.int 1) = .ok (.int (q.den : Int)) := rfl
section
variable {Φ : Or} {c : Nat} {A : Nat} {a b : Rat}
theorem opm {i j : Int} {A B : Nat} (h1 : i.natAbs < 2 ^ A) (h2 : j.natAbs < 2 ^ B) (h : A + B < 1000000) : op2 .mul (.int i) (.int j) = .ok (.int (i * j)) := op2_mul (mulOk_of h1 h2 h)
theorem add_run (hc : FrOk Φ c) (ha : Bd A a) (hb : Bd A b) (hA : A + A < 9000) : endR (exSs Φ (bAdd c) (enter 2 [fq a, fq b])) = .ok (.sh (fq (a + b))) := by
  have m1 := opm ha.1 (natAbs_lt' hb.2) (by omega)
  have m2 := opm hb.1 (natAbs_lt' ha.2) (by omega)
  have m3 := opm (natAbs_lt' ha.2) (natAbs_lt' hb.2) (by omega)
  have e := hc _ _ (A + A) (A + A + 1) (Int.mul_pos (den_pos a) (den_pos b)) (natAbs_mul_lt' (natAbs_lt' ha.2) (natAbs_lt' hb.2)) hA (natAbs_add_lt (natAbs_mul_lt' ha.1 (natAbs_lt' hb.2)) (natAbs_mul_lt' hb.1 (natAbs_lt' ha.2))) (by omega)
  rw [add_eq] at e
  generalize fq (a + b) = R at *
  simp -implicitDefEqProofs [bAdd, m1, m2, m3, e]
theorem sub_run (hc : FrOk Φ c) (ha : Bd A a) (hb : Bd A b) (hA : A + A < 9000) : endR (exSs Φ (bSub c) (enter 2 [fq a, fq b])) = .ok (.sh (fq (a - b))) := by
  have m1 := opm ha.1 (natAbs_lt' hb.2) (by omega)
  have m2 := opm hb.1 (natAbs_lt' ha.2) (by omega)
  have m3 := opm (natAbs_lt' ha.2) (natAbs_lt' hb.2) (by omega)
  have e := hc _ _ (A + A) (A + A + 1) (Int.mul_pos (den_pos a) (den_pos b)) (natAbs_mul_lt' (natAbs_lt' ha.2) (natAbs_lt' hb.2)) hA (natAbs_sub_lt (natAbs_mul_lt' ha.1 (natAbs_lt' hb.2)) (natAbs_mul_lt' hb.1 (natAbs_lt' ha.2))) (by omega)
  rw [sub_eq] at e
  generalize fq (a - b) = R at *
  simp -implicitDefEqProofs [bSub, m1, m2, m3, e]
theorem tim_run (hc : FrOk Φ c) (ha : Bd A a) (hb : Bd A b) (hA : A + A < 9000) : endR (exSs Φ (bTim c) (enter 2 [fq a, fq b])) = .ok (.sh (fq (a * b))) := by
  have m1 := opm ha.1 hb.1 (by omega)
  have m3 := opm (natAbs_lt' ha.2) (natAbs_lt' hb.2) (by omega)
  have e := hc _ _ (A + A) (A + A + 1) (Int.mul_pos (den_pos a) (den_pos b)) (natAbs_mul_lt' (natAbs_lt' ha.2) (natAbs_lt' hb.2)) hA (lt_pow (natAbs_mul_lt' ha.1 hb.1) (by omega)) (by omega)
  rw [mul_eq] at e
  generalize fq (a * b) = R at *
  simp -implicitDefEqProofs [bTim, m1, m3, e]
end
/-- ratio, whatever the bottom's sign -/
theorem ratio_neg {Φ : Or} {t b : Int} {B C : Nat} (h0 : b < 0) (hb : b.natAbs < 2 ^ B) (hB : B < 9000) (ht : t.natAbs < 2 ^ C) (hC : C < 500000) : endR (exSs Φ bRatio (enter 4 [.int t, .int b])) = .ok (.sh (fracD (-t) (-b))) := by
  have d := gcdI_ok (t := -t) (b := -b) (by omega) (by simpa using hb) hB
  have z : (b == 0) = false := by simp; omega
  have m1 : mulOk (-1) t = true := mulOk_of (a := 1) (by decide) ht (by omega)
  have m2 : mulOk (-1) b = true := mulOk_of (a := 1) (by decide) hb (by omega)
  have e : ((Nat.gcd t.natAbs b.natAbs : Nat) : Int) = gcdI (-t) (-b) := by unfold gcdI; simp
  have e1 : -1 * t = -t := by omega
  have e2 : -1 * b = -b := by omega
  have o1 := op2_mul m1
  have o2 := op2_mul m2
  rw [e1] at o1
  rw [e2] at o2
  simp -implicitDefEqProofs [bRatio, h0, z, e, o1, o2, op2_fdiv d, two_le_LINE, fracD, op1]
theorem ratio_q {Φ : Or} {t b : Int} {B C : Nat} (h0 : b ≠ 0) (hb : b.natAbs < 2 ^ B) (hB : B < 9000) (ht : t.natAbs < 2 ^ C) (hC : C < 500000) : endR (exSs Φ bRatio (enter 4 [.int t, .int b])) = .ok (.sh (fq ((t : Rat) / (b : Rat)))) := by
  by_cases h : 0 < b
  · rw [ratio_run h hb hB ht hC, fq_div h]
  · rw [ratio_neg (by omega) hb hB ht hC, fq_div (by omega)]
    congr 3
    rw [Rat.intCast_neg, Rat.intCast_neg]
    grind
end R
end

section
set_option Elab.async false
set_option linter.all false
set_option maxRecDepth 100000
/-! R27: the common defs, wherever they stand in a text. -/
namespace R
open PySem
theorem one_more {n : Nat} (h : 1 ≤ n) : ∃ m, n = m + 1 := ⟨n - 1, by omega⟩
section
variable {P : List Def}
theorem run_at {n f : Nat} (d : Def) {ds : List D} {r : Res T} (h : P[f]? = some d) (hl : ds.length = d.np) (e : endR (exSs (run P n) d.body (enter d.ns ds)) = r) : run P (n + 1) f ds = r := by
  rw [run, h]
  simp only
  rw [if_pos hl]
  exact e
theorem gcd_at {g : Nat} (hg : P[g]? = some ⟨2, 5, bGcd⟩) {n : Nat} (h : 1 ≤ n) (i j : Int) : run P n g [.int i, .int j] = .ok (.sh (.int (gcdI i j))) := by
  obtain ⟨m, rfl⟩ := one_more h
  exact run_at _ hg rfl (gcd_run i j)
theorem frac_at {f g : Nat} (hg : P[g]? = some ⟨2, 5, bGcd⟩) (hf : P[f]? = some ⟨2, 3, bFrac f g⟩) {n : Nat} (h : 2 ≤ n) : FrOk (run P n) f := by
  obtain ⟨m, rfl⟩ := one_more (show 1 ≤ n by omega)
  intro t b B C h0 hb hB ht hC
  exact run_at _ hf rfl (frac_run (fun i j => gcd_at hg (by omega) i j) h0 hb hB)
theorem ratio_at {r : Nat} (hr : P[r]? = some ⟨2, 4, bRatio⟩) {n : Nat} (h : 1 ≤ n) : FrOk (run P n) r := by
  obtain ⟨m, rfl⟩ := one_more h
  intro t b B C h0 hb hB ht hC
  exact run_at _ hr rfl (ratio_run h0 hb hB ht (by omega))
theorem ratioq_at {r : Nat} (hr : P[r]? = some ⟨2, 4, bRatio⟩) {n : Nat} (h : 1 ≤ n) {t b : Int} {B C : Nat} (h0 : b ≠ 0) (hb : b.natAbs < 2 ^ B) (hB : B < 9000) (ht : t.natAbs < 2 ^ C) (hC : C < 500000) : run P n r [.int t, .int b] = .ok (.sh (fq ((t : Rat) / (b : Rat)))) := by
  obtain ⟨m, rfl⟩ := one_more h
  exact run_at _ hr rfl (ratio_q h0 hb hB ht hC)
/-- a def of two fractions -/
def Op2 (P : List Def) (i c : Nat) (b : Nat → List S) : Prop := P[i]? = some ⟨2, 2, b c⟩
theorem add_at {i c : Nat} (hi : P[i]? = some ⟨2, 2, bAdd c⟩) {n : Nat} (hc : FrOk (run P n) c) {A : Nat} {a b : Rat} (ha : Bd A a) (hb : Bd A b) (hA : A + A < 9000) : run P (n + 1) i [fq a, fq b] = .ok (.sh (fq (a + b))) := run_at _ hi rfl (add_run hc ha hb hA)
theorem sub_at {i c : Nat} (hi : P[i]? = some ⟨2, 2, bSub c⟩) {n : Nat} (hc : FrOk (run P n) c) {A : Nat} {a b : Rat} (ha : Bd A a) (hb : Bd A b) (hA : A + A < 9000) : run P (n + 1) i [fq a, fq b] = .ok (.sh (fq (a - b))) := run_at _ hi rfl (sub_run hc ha hb hA)
theorem tim_at {i c : Nat} (hi : P[i]? = some ⟨2, 2, bTim c⟩) {n : Nat} (hc : FrOk (run P n) c) {A : Nat} {a b : Rat} (ha : Bd A a) (hb : Bd A b) (hA : A + A < 9000) : run P (n + 1) i [fq a, fq b] = .ok (.sh (fq (a * b))) := run_at _ hi rfl (tim_run hc ha hb hA)
theorem cell_at {f : Nat} (hf : P[f]? = some ⟨2, 4, bCell⟩) {n : Nat} (h : 1 ≤ n) {ns : List Int} {k : Nat} (hl : ns.length < 1000000) (hk : k < 1000000) : ∃ c : Int, run P n f [.fz (ns.map .int), .int k] = .ok (.sh (.int c)) := by
  obtain ⟨m, rfl⟩ := one_more h
  obtain ⟨c, e⟩ := cell_run (Φ := run P m) hl hk
  exact ⟨c, run_at _ hf rfl e⟩
theorem dig_at {f : Nat} (hf : P[f]? = some ⟨2, 8, bDig⟩) {n : Nat} (h : 1 ≤ n) (c : Int) {sizes : List Int} (hs : SizesOk sizes) : ∃ row : List Int, InB row sizes ∧ run P n f [.int c, .lst (sizes.map .int)] = .ok (.sh (.lst (row.map .int))) := by
  obtain ⟨m, rfl⟩ := one_more h
  obtain ⟨row, h1, e⟩ := dig_run (Φ := run P m) c hs
  exact ⟨row, h1, run_at _ hf rfl e⟩
/-- the k-th row of digits -/
theorem row_at {f g : Nat} (hf : P[f]? = some ⟨2, 4, bCell⟩) (hg : P[g]? = some ⟨2, 8, bDig⟩) {n : Nat} (h : 1 ≤ n) {ns : List Int} {k : Nat} (hl : ns.length < 1000000) (hk : k < 1000000) {sizes : List Int} (hs : SizesOk sizes) :
    ∃ (c : Int) (row : List Int), run P n f [.fz (ns.map .int), .int k] = .ok (.sh (.int c)) ∧ InB row sizes ∧ run P n g [.int c, .lst (sizes.map .int)] = .ok (.sh (.lst (row.map .int))) := by
  obtain ⟨c, hc⟩ := cell_at hf h hl hk
  obtain ⟨row, r1, r2⟩ := dig_at hg h c hs
  exact ⟨c, row, hc, r1, r2⟩
theorem sizesOk_of {l : List Int} (h : (l.all fun s => decide (0 < s) && decide (s < 2 ^ 62)) = true) (hl : l.length < 100000) : SizesOk l :=
  ⟨hl, fun s hs => by
    have := (List.all_eq_true.mp h) s hs
    simpa using this⟩
theorem ixRow {row : List Int} {k : Nat} {r : Int} (h : row[k]? = some r) : ixR (.lst (row.map .int)) (.int (k : Int)) = .ok (.int r) := by
  have e : (row.map D.int)[k]? = some (.int r) := by rw [List.getElem?_map, h]; rfl
  simp -implicitDefEqProofs [ixR, D.seq, atI_get e]
theorem ix_at {xs : List D} {k : Nat} {x : D} (h : xs[k]? = some x) : ixR (.lst xs) (.int (k : Int)) = .ok x := by
  simp -implicitDefEqProofs [ixR, D.seq, atI_get h]
theorem ix_atT {xs : List D} {k : Nat} {x : D} (h : xs[k]? = some x) : ixR (.tup xs) (.int (k : Int)) = .ok x := by
  simp -implicitDefEqProofs [ixR, D.seq, atI_get h]
theorem InB.get {row sizes : List Int} (h : InB row sizes) {k : Nat} {s : Int} (hs : sizes[k]? = some s) : ∃ r, row[k]? = some r ∧ 0 ≤ r ∧ r < s := by
  have hl := (List.getElem?_eq_some_iff.mp hs).1
  have hr : row[k]? = some (row[k]'(by rw [h.1]; exact hl)) := List.getElem?_eq_getElem (by rw [h.1]; exact hl)
  exact ⟨_, hr, h.2 k _ _ hr hs⟩
theorem exSs_app {Φ : Or} : ∀ (a b : List S) (s : PSt), exSs Φ (a ++ b) s = (exSs Φ a s).nxt (exSs Φ b)
  | [], b, s => by rw [List.nil_append, p_exSs_l0, Out.nxt_nx]
  | x :: a, b, s => by
    rw [List.cons_append, p_exSs_cons1, p_exSs_cons1]
    cases exS Φ x s with
    | nx s' => rw [Out.nxt_nx, Out.nxt_nx]; exact exSs_app a b s'
    | _ => rfl
theorem len_le {n : Nat} (h : n ≤ 1000000) : n ≤ LINE := Nat.le_of_lt (Nat.lt_of_le_of_lt h LINE_big)
theorem len_lt' {n : Nat} (h : n ≤ 1000000) : n < LINE := Nat.lt_of_le_of_lt h LINE_big
/-! ### comprehensions -/
theorem evC_ok {Φ : Or} {sk : Sk} {tg : List Nat} {srcs : List E} {elt : E} {Δ : List (Option D)} {α : Type} {xs : List α} (i g : α → D) (hs : (evs Φ srcs Δ).bind (srcR sk) = .ok (xs.map i)) (hl : xs.length ≤ LINE)
    (hb : ∀ x ∈ xs, ∃ Δ', bindT tg (i x) (wipe Δ tg) = some Δ' ∧ ev Φ elt Δ' = .ok (g x)) : evC Φ sk tg srcs [] elt Δ = .ok (xs.map g) := by
  unfold evC
  rw [hs, Res.bind_ok, mapR_all (g := g)]
  · simp [hl]
  · intro x hx
    obtain ⟨Δ', h1, h2⟩ := hb x hx
    simp -implicitDefEqProofs [h1, h2]
theorem comp_ok {Φ : Or} {sk : Sk} {tg : List Nat} {srcs : List E} {elt : E} {Δ : List (Option D)} {α : Type} {xs : List α} (i g : α → D) (hs : (evs Φ srcs Δ).bind (srcR sk) = .ok (xs.map i)) (hl : xs.length ≤ LINE)
    (hb : ∀ x ∈ xs, ∃ Δ', bindT tg (i x) (wipe Δ tg) = some Δ' ∧ ev Φ elt Δ' = .ok (g x)) : ev Φ (.comp sk tg srcs [] elt) Δ = .ok (.lst (xs.map g)) := by
  rw [ev_compC, evC_ok i g hs hl hb]
  rfl
theorem mapR_fil {α : Type} {f : D → Res (Option D)} {i g : α → D} {p : α → Bool} : ∀ {xs : List α}, (∀ x ∈ xs, f (i x) = .ok (if p x then some (g x) else none)) → mapR f (xs.map i) = .ok ((xs.filter p).map g)
  | [], _ => rfl
  | x :: xs, h => by
    rw [List.map_cons, mapR, h x List.mem_cons_self, mapR_fil fun y hy => h y (List.mem_cons_of_mem _ hy)]
    cases hp : p x <;> simp [hp]
theorem comp_fil {Φ : Or} {sk : Sk} {tg : List Nat} {srcs : List E} {c elt : E} {Δ : List (Option D)} {α : Type} {xs : List α} (i g : α → D) (p : α → Bool) (hs : (evs Φ srcs Δ).bind (srcR sk) = .ok (xs.map i)) (hl : xs.length ≤ LINE)
    (hb : ∀ x ∈ xs, ∃ Δ', bindT tg (i x) (wipe Δ tg) = some Δ' ∧ ev Φ c Δ' = .ok (.bl (p x)) ∧ (p x = true → ev Φ elt Δ' = .ok (g x))) : ev Φ (.comp sk tg srcs [c] elt) Δ = .ok (.lst ((xs.filter p).map g)) := by
  rw [ev_compC]
  unfold evC
  rw [hs, Res.bind_ok, mapR_fil (g := g) (p := p)]
  · have : (xs.filter p).length ≤ xs.length := List.length_filter_le _ _
    simp only [noEx_ok', Res.bind_ok, List.length_map]
    rw [if_pos (by omega)]
    rfl
  · intro x hx
    obtain ⟨Δ', h1, h2, h3⟩ := hb x hx
    cases hp : p x with
    | false => simp -implicitDefEqProofs [h1, h2, hp]
    | true => simp -implicitDefEqProofs [h1, h2, hp, h3 hp]
theorem rr0 {n : Nat} (h : n ≤ 100000) : srcR .r1 [.int (n : Int)] = .ok ((List.range n).map fun k => D.int (k : Nat)) := by
  rw [srcR_r1 (rngOk_of (by omega) (by omega) (by omega) (by omega) (by omega)), rng0]
/-! ### one value is the due one -/
/-- the due value with tuples for lists -/
def D.tupd : D → D
  | .tup xs => .tup (tupds xs)
  | .lst xs => .tup (tupds xs)
  | d => d
where tupds : List D → List D
  | [] => []
  | x :: xs => x.tupd :: tupds xs
theorem tupds_map : ∀ xs : List D, D.tupd.tupds xs = xs.map D.tupd
  | [] => rfl
  | x :: xs => by rw [D.tupd.tupds, tupds_map xs]; rfl
def D.sdue : Nat → D → Bool
  | _, .non => true | _, .bl _ => true | _, .int _ => true
  | n + 1, .tup xs => decide (xs.length < 1000000) && xs.all (D.sdue n)
  | n + 1, .lst xs => decide (xs.length < 1000000) && xs.all (D.sdue n)
  | _, _ => false
theorem same_seq {Φ : Or} {f w : Nat} {ys xs : List D} {dd : D} (hd : dd = .tup xs ∨ dd = .lst xs) (hl : xs.length < 1000000) (hl2 : ys.length = xs.length) (h : ∀ (k : Nat) (y x : D), ys[k]? = some y → xs[k]? = some x → Φ f [y, x] = .ok (.sh (.bl true))) : endR (exSs Φ (bSame f w) (enter 3 [.tup ys, dd])) = .ok (.sh (.bl true)) := by
  have r : rngOk 0 (xs.length : Int) = true := rngOk_of (by omega) (by omega) (by omega) (by omega) (by omega)
  have loop := forR_const (vs := [2]) (n := 0) (b := frB Φ [2] [.ifs (.not (.call f [(.idx (.var 0) (.var 2)), (.idx (.var 1) (.var 2))])) [.ret (.bl false)] []]) (s := ⟨[some (.sh (.tup ys)), some (.sh dd), none], []⟩) (items := rng 0 xs.length) fun x hx => by
    obtain ⟨i, rfl, h1, h2⟩ := mem_rng hx
    obtain ⟨k, rfl⟩ : ∃ k : Nat, i = (k : Int) := ⟨i.toNat, by omega⟩
    have hk : k < xs.length := by omega
    have e : xs[k]? = some xs[k] := List.getElem?_eq_getElem hk
    have e' : ys[k]? = some (ys[k]'(by omega)) := List.getElem?_eq_getElem (by omega)
    have e2 : ixR dd (.int (k : Int)) = .ok xs[k] := by rcases hd with rfl | rfl <;> simp -implicitDefEqProofs [ixR, D.seq, atI_get e]
    have e3 := ix_atT e'
    refine ⟨⟨[some (.sh (.tup ys)), some (.sh dd), some (.sh (.int k))], []⟩, ?_, by simp⟩
    simp -implicitDefEqProofs [frB, e2, e3, h k _ _ e' e]
  rcases hd with rfl | rfl <;> simp -implicitDefEqProofs [bSame, hasTy, srcR_r1 r, loop, hl2]
theorem same_at {f w : Nat} (hf : P[f]? = some ⟨2, 3, bSame f w⟩) (hw : P[w]? = some ⟨1, 1, bWhole⟩) : ∀ (k : Nat) (d : D) (n : Nat), D.sdue k d = true → k + 2 ≤ n → run P n f [d.tupd, d] = .ok (.sh (.bl true)) := by
  have whole : ∀ (n : Nat) (i : Int), 1 ≤ n → run P n w [.int i] = .ok (.sh (.bl true)) := fun n i h => by
    obtain ⟨m, rfl⟩ := one_more h
    exact run_at _ hw rfl (whole_int i)
  have seq : ∀ (k : Nat), (∀ (d : D) (n : Nat), D.sdue k d = true → k + 2 ≤ n → run P n f [d.tupd, d] = .ok (.sh (.bl true))) → ∀ (xs : List D) (dd : D) (n : Nat), (dd = .tup xs ∨ dd = .lst xs) → (decide (xs.length < 1000000) && xs.all (D.sdue k)) = true → k + 2 ≤ n → run P (n + 1) f [.tup (D.tupd.tupds xs), dd] = .ok (.sh (.bl true)) := by
    intro k ih xs dd n hd hx hn
    rw [Bool.and_eq_true] at hx
    refine run_at _ hf rfl (same_seq hd (of_decide_eq_true hx.1) (by rw [tupds_map, List.length_map]) fun j y x h1 h2 => ?_)
    rw [tupds_map, List.getElem?_map, h2] at h1
    simp only [Option.map_some, Option.some.injEq] at h1
    subst h1
    exact ih x n (List.all_eq_true.mp hx.2 x (List.mem_of_getElem? h2)) hn
  intro k
  induction k with
  | zero =>
    intro d n h hn
    obtain ⟨m, rfl⟩ := one_more (show 1 ≤ n by omega)
    cases d with
    | non => exact run_at _ hf rfl same_non
    | bl b => exact run_at _ hf rfl (same_bl b)
    | int i => exact run_at _ hf rfl (same_int (fun i => whole m i (by omega)) i)
    | _ => cases h
  | succ k ih =>
    intro d n h hn
    obtain ⟨m, rfl⟩ := one_more (show 1 ≤ n by omega)
    cases d with
    | non => exact run_at _ hf rfl same_non
    | bl b => exact run_at _ hf rfl (same_bl b)
    | int i => exact run_at _ hf rfl (same_int (fun i => whole m i (by omega)) i)
    | tup xs => exact seq k ih xs _ m (.inl rfl) h (by omega)
    | lst xs => exact seq k ih xs _ m (.inr rfl) h (by omega)
    | _ => cases h
/-! ### _law_lists -/
def bLists (f : Nat) : List S := [.ifs (.or (.bi (.isinst .list) [(.var 0)]) (.bi (.isinst .tuple) [(.var 0)])) [.ret (.comp .seq [1] [(.var 0)] [] (.call f [(.var 1)]))] [], .ret (.var 0)]
def D.lstd : D → D
  | .tup xs => .lst (lstds xs)
  | .lst xs => .lst (lstds xs)
  | d => d
where lstds : List D → List D
  | [] => []
  | x :: xs => x.lstd :: lstds xs
theorem lstds_map : ∀ xs : List D, D.lstd.lstds xs = xs.map D.lstd
  | [] => rfl
  | x :: xs => by rw [D.lstd.lstds, lstds_map xs]; rfl
theorem lists_seq {Φ : Or} {f : Nat} {xs : List D} {dd : D} (hd : dd = .tup xs ∨ dd = .lst xs) (hl : xs.length < 1000000) (h : ∀ x ∈ xs, Φ f [x] = .ok (.sh x.lstd)) : endR (exSs Φ (bLists f) (enter 2 [dd])) = .ok (.sh (.lst (xs.map D.lstd))) := by
  have hl2 : xs.length ≤ LINE := len_le (by omega)
  have e : ev Φ (.comp .seq [1] [(.var 0)] [] (.call f [(.var 1)])) [some dd, none] = .ok (.lst (xs.map D.lstd)) := by
    refine comp_ok id D.lstd ?_ hl2 fun x hx => ⟨_, rfl, ?_⟩
    · rcases hd with rfl | rfl <;> simp -implicitDefEqProofs
    · simp -implicitDefEqProofs [h x hx]
  rcases hd with rfl | rfl <;> simp -implicitDefEqProofs [-p_ev_comp, bLists, hasTy, e]
theorem lists_at {f : Nat} (hf : P[f]? = some ⟨1, 2, bLists f⟩) : ∀ (k : Nat) (d : D) (n : Nat), D.sdue k d = true → k + 1 ≤ n → run P n f [d] = .ok (.sh d.lstd) := by
  intro k
  induction k with
  | zero =>
    intro d n h hn
    obtain ⟨m, rfl⟩ := one_more (show 1 ≤ n by omega)
    cases d with
    | non => exact run_at _ hf rfl (by simp -implicitDefEqProofs [bLists, hasTy, D.lstd])
    | bl b => exact run_at _ hf rfl (by simp -implicitDefEqProofs [bLists, hasTy, D.lstd])
    | int i => exact run_at _ hf rfl (by simp -implicitDefEqProofs [bLists, hasTy, D.lstd])
    | _ => cases h
  | succ k ih =>
    intro d n h hn
    obtain ⟨m, rfl⟩ := one_more (show 1 ≤ n by omega)
    have go : ∀ xs : List D, (decide (xs.length < 1000000) && xs.all (D.sdue k)) = true → xs.length < 1000000 ∧ ∀ x ∈ xs, run P m f [x] = .ok (.sh x.lstd) := fun xs hx => by
      rw [Bool.and_eq_true] at hx
      exact ⟨of_decide_eq_true hx.1, fun x q => ih x m (List.all_eq_true.mp hx.2 x q) (by omega)⟩
    cases d with
    | non => exact run_at _ hf rfl (by simp -implicitDefEqProofs [bLists, hasTy, D.lstd])
    | bl b => exact run_at _ hf rfl (by simp -implicitDefEqProofs [bLists, hasTy, D.lstd])
    | int i => exact run_at _ hf rfl (by simp -implicitDefEqProofs [bLists, hasTy, D.lstd])
    | tup xs =>
      rw [D.lstd, lstds_map]
      exact run_at _ hf rfl (lists_seq (.inl rfl) (go xs h).1 (go xs h).2)
    | lst xs =>
      rw [D.lstd, lstds_map]
      exact run_at _ hf rfl (lists_seq (.inr rfl) (go xs h).1 (go xs h).2)
    | _ => cases h
end
end R
end

section
set_option Elab.async false
set_option linter.all false
set_option maxRecDepth 100000
/-! R28: loops that look for the first; comprehensions over any frame. -/
namespace R
open PySem
theorem evO_comp {Φ : Or} {sk : Sk} {tg : List Nat} {srcs conds : List E} {elt : E} {Δ : List (Option D)} : evO Φ (.comp sk tg srcs conds elt) Δ = evC Φ sk tg srcs conds elt Δ := rfl
theorem evO_nil {Φ : Or} {Δ : List (Option D)} : evO Φ (.lst []) Δ = .ok [] := rfl
theorem evO_list {Φ : Or} {e : E} {Δ : List (Option D)} {xs : List D} (h : ev Φ e Δ = .ok (.lst xs)) : evO Φ (.bi .list [e]) Δ = .ok xs := by
  show ((evs Φ [e] Δ).bind fun ds => match ds with
    | [.lst xs] => .ok xs
    | [.tup xs] => .ok xs
    | _ => .bad) = _
  simp -implicitDefEqProofs [h]
theorem find_gen {vs : List Nat} {n : Nat} {b : D → PSt → Out} {st : D → PSt} {p : Nat → Bool} (h2 : ∀ k j : Nat, ∃ s', b (.int (k : Int)) (st (.int (j : Int))) = .nx s' ∧ tidy vs n s' = some (st (.int (j : Int)))) : ∀ ks : List Nat, (∀ k ∈ ks, ∃ s', b (.int (k : Int)) (st .non) = .nx s' ∧ tidy vs n s' = some (st (if p k then .int (k : Int) else .non))) →
    forR vs n b (ks.map fun k => D.int (k : Nat)) (st .non) = .nx (st (match ks.find? p with | some i => .int (i : Nat) | none => .non))
  | [], _ => rfl
  | k :: ks, h => by
    obtain ⟨s', e1, e2⟩ := h k List.mem_cons_self
    rw [List.map_cons, forR_cons, e1, nextTurn_nx, e2, List.find?_cons]
    cases hp : p k with
    | false =>
      simp only [Bool.false_eq_true, if_false]
      exact find_gen h2 ks fun j hj => h j (List.mem_cons_of_mem _ hj)
    | true =>
      simp only [if_true]
      refine forR_const fun x hx => ?_
      obtain ⟨j, _, rfl⟩ := List.mem_map.mp hx
      exact h2 j k
theorem tidy_len {vs : List Nat} {n : Nat} {g : List (Option SV)} {m : List Cell} (h : m.length = n) : tidy vs n ⟨g, m⟩ = some ⟨wipeS g vs, m⟩ := tidy_same h
theorem erase_map {α β : Type} (f : α → β) : ∀ (l : List α) (i : Nat), (l.map f).eraseIdx i = (l.eraseIdx i).map f
  | [], _ => rfl
  | _ :: _, 0 => rfl
  | x :: l, i + 1 => by
    show f x :: (l.map f).eraseIdx i = f x :: (l.eraseIdx i).map f
    rw [erase_map f l i]
/-- a comprehension over a name -/
theorem evC_nm {Φ : Or} {j t : Nat} {elt : E} {Δ : List (Option D)} {α : Type} {xs : List α} {i g : α → D} {X : D} (hX : srcR .seq [X] = .ok (xs.map i)) (hl : xs.length ≤ LINE) (hj : Δ[j]? = some (some X)) (hb : ∀ x ∈ xs, ev Φ elt (Δ.set t (some (i x))) = .ok (g x)) : evC Φ .seq [t] [.var j] [] elt Δ = .ok (xs.map g) := by
  refine evC_ok i g ?_ hl fun x hx => ⟨(Δ.set t none).set t (some (i x)), rfl, ?_⟩
  · rw [p_evs_cons1, p_evs_l0, p_ev_var, hj]
    simp -implicitDefEqProofs [hX]
  · rw [List.set_set]
    exact hb x hx
theorem comp_nm {Φ : Or} {j t : Nat} {elt : E} {Δ : List (Option D)} {α : Type} {xs : List α} {i g : α → D} {X : D} (hX : srcR .seq [X] = .ok (xs.map i)) (hl : xs.length ≤ LINE) (hj : Δ[j]? = some (some X)) (hb : ∀ x ∈ xs, ev Φ elt (Δ.set t (some (i x))) = .ok (g x)) : ev Φ (.comp .seq [t] [.var j] [] elt) Δ = .ok (.lst (xs.map g)) := by
  rw [ev_compC, evC_nm hX hl hj hb]
  rfl
/-- one over a range -/
theorem evC_rg {Φ : Or} {t n : Nat} {e elt : E} {Δ : List (Option D)} {g : Nat → D} (he : ev Φ e Δ = .ok (.int (n : Int))) (hn : n ≤ 100000) (hb : ∀ k, k < n → ev Φ elt (Δ.set t (some (.int (k : Int)))) = .ok (g k)) : evC Φ .r1 [t] [e] [] elt Δ = .ok ((List.range n).map g) := by
  refine evC_ok (fun k : Nat => D.int (k : Int)) g ?_ (len_le (by rw [List.length_range]; omega)) fun k hk => ⟨(Δ.set t none).set t (some (.int (k : Int))), rfl, ?_⟩
  · rw [p_evs_cons1, p_evs_l0, he]
    simp -implicitDefEqProofs [rr0 hn]
  · rw [List.set_set]
    exact hb k (List.mem_range.mp hk)
theorem comp_rg {Φ : Or} {t n : Nat} {e elt : E} {Δ : List (Option D)} {g : Nat → D} (he : ev Φ e Δ = .ok (.int (n : Int))) (hn : n ≤ 100000) (hb : ∀ k, k < n → ev Φ elt (Δ.set t (some (.int (k : Int)))) = .ok (g k)) : ev Φ (.comp .r1 [t] [e] [] elt) Δ = .ok (.lst ((List.range n).map g)) := by
  rw [ev_compC, evC_rg he hn hb]
  rfl
/-- a filtered one -/
theorem comp_rgF {Φ : Or} {t n : Nat} {e c elt : E} {Δ : List (Option D)} {g : Nat → D} {p : Nat → Bool} (he : ev Φ e Δ = .ok (.int (n : Int))) (hn : n ≤ 100000) (hb : ∀ k, k < n → ev Φ c (Δ.set t (some (.int (k : Int)))) = .ok (.bl (p k)) ∧ ev Φ elt (Δ.set t (some (.int (k : Int)))) = .ok (g k)) : ev Φ (.comp .r1 [t] [e] [c] elt) Δ = .ok (.lst (((List.range n).filter p).map g)) := by
  refine comp_fil (fun k : Nat => D.int (k : Int)) g p ?_ (len_le (by rw [List.length_range]; omega)) fun k hk => ⟨(Δ.set t none).set t (some (.int (k : Int))), rfl, ?_⟩
  · rw [p_evs_cons1, p_evs_l0, he]
    simp -implicitDefEqProofs [rr0 hn]
  · rw [List.set_set]
    exact ⟨(hb k (List.mem_range.mp hk)).1, fun _ => (hb k (List.mem_range.mp hk)).2⟩
end R
end

section
set_option Elab.async false
set_option linter.all false
set_option maxRecDepth 100000
/-! V1: rows cleared column by column (rational numbers). -/
namespace R.V
abbrev Row := List Rat
def at_ (r : Row) (j : Nat) : Rat := r.getD j 0
def dot : Row → Row → Rat
  | x :: xs, y :: ys => x * y + dot xs ys
  | _, _ => 0
def clr (c : Nat) (row o : Row) : Row := List.zipWith (fun x y => x - at_ o c * y) o row
def nrm (c : Nat) (p : Row) : Row := p.map (· / at_ p c)
structure St where
  L : List Row
  D : List Row
  led : List Nat
def fnd (L : List Row) (c : Nat) : Option Nat := (List.range L.length).find? fun i => decide (at_ (L.getD i []) c ≠ 0)
def stp (s : St) (c : Nat) : St := match fnd s.L c with
  | none => s
  | some i => ⟨(s.L.eraseIdx i).map (clr c (nrm c (s.L.getD i []))), s.D.map (clr c (nrm c (s.L.getD i []))) ++ [nrm c (s.L.getD i [])], s.led ++ [c]⟩
def red (rows : List Row) (w : Nat) : St := (List.range w).foldl stp ⟨rows, [], []⟩
theorem at_zip {f : Rat → Rat → Rat} {a b : Row} {j : Nat} (ha : j < a.length) (hb : j < b.length) : at_ (List.zipWith f a b) j = f (at_ a j) (at_ b j) := by
  unfold at_
  simp [List.getD, List.getElem?_zipWith, List.getElem?_eq_getElem ha, List.getElem?_eq_getElem hb]
theorem at_map {f : Rat → Rat} {a : Row} {j : Nat} (ha : j < a.length) : at_ (a.map f) j = f (at_ a j) := by
  unfold at_
  simp [List.getD, ha]
theorem at_set {a : Row} {i j : Nat} {x : Rat} (hi : i < a.length) : at_ (a.set i x) j = if i = j then x else at_ a j := by
  unfold at_
  simp only [List.getD, List.getElem?_set]
  split
  · subst_vars; simp [hi]
  · rfl
theorem at_out {a : Row} {j : Nat} (h : a.length ≤ j) : at_ a j = 0 := by
  unfold at_
  simp [List.getD, h]
theorem len_clr {c : Nat} {row o : Row} (h : o.length = row.length) : (clr c row o).length = o.length := by
  unfold clr
  rw [List.length_zipWith]
  omega
theorem len_nrm {c : Nat} {p : Row} : (nrm c p).length = p.length := by unfold nrm; simp
theorem at_clr {c j : Nat} {row o : Row} (h : o.length = row.length) (hj : j < o.length) : at_ (clr c row o) j = at_ o j - at_ o c * at_ row j := at_zip hj (by omega)
theorem at_nrm {c j : Nat} {p : Row} (hj : j < p.length) : at_ (nrm c p) j = at_ p j / at_ p c := at_map hj
theorem dot_nrm {c : Nat} : ∀ {p e : Row} {k : Rat}, dot (p.map (· / k)) e = dot p e / k
  | [], _, k => by simp [dot, Rat.div_def]
  | _ :: _, [], k => by simp [dot, Rat.div_def]
  | x :: p, y :: e, k => by
    rw [List.map_cons, dot, dot, dot_nrm (c := c)]
    rw [Rat.div_def, Rat.div_def, Rat.div_def]
    grind
theorem dot_sub : ∀ {o row e : Row} {k : Rat}, o.length = row.length → dot (List.zipWith (fun x y => x - k * y) o row) e = dot o e - k * dot row e
  | [], [], e, k, _ => by simp [dot]; grind
  | x :: o, y :: row, [], k, _ => by simp [dot]; grind
  | x :: o, y :: row, z :: e, k, h => by
    have ih := dot_sub (o := o) (row := row) (e := e) (k := k) (by simpa using h)
    rw [List.zipWith_cons_cons, dot, dot, dot, ih]
    grind
  | [], _ :: _, _, _, h => by simp at h
  | _ :: _, [], _, _, h => by simp at h
theorem dot_zero : ∀ {r e : Row}, (∀ j, j < r.length → at_ r j = 0) → dot r e = 0
  | [], e, _ => by unfold dot; rfl
  | x :: r, [], _ => by unfold dot; rfl
  | x :: r, y :: e, h => by
    have h0 : x = 0 := h 0 (by simp)
    rw [dot, dot_zero (r := r) (e := e) fun j hj => h (j + 1) (by simpa using hj), h0]
    grind
theorem dot_set : ∀ {d e : Row} {j : Nat} {x : Rat}, d.length = e.length → j < e.length → dot d (e.set j x) = dot d e + at_ d j * (x - at_ e j)
  | [], [], j, x, _, hj => by simp at hj
  | y :: d, z :: e, 0, x, _, _ => by
    rw [List.set_cons_zero, dot, dot]
    show y * x + dot d e = y * z + dot d e + y * (x - z)
    grind
  | y :: d, z :: e, j + 1, x, h, hj => by
    have ih := dot_set (d := d) (e := e) (j := j) (x := x) (by simpa using h) (by simpa using hj)
    rw [List.set_cons_succ, dot, dot, ih]
    show y * z + (dot d e + at_ d j * (x - at_ e j)) = y * z + dot d e + at_ d j * (x - at_ e j)
    grind
  | [], _ :: _, _, _, h, _ => by simp at h
  | _ :: _, [], _, _, h, _ => by simp at h
/-- what holds behind the first c columns -/
structure Inv (rows : List Row) (w c : Nat) (s : St) : Prop where
  lenL : ∀ r ∈ s.L, r.length = w
  lenD : ∀ r ∈ s.D, r.length = w
  many : s.D.length = s.led.length
  tot : s.L.length + s.led.length = rows.length
  low : ∀ r ∈ s.L, ∀ j, j < c → at_ r j = 0
  ledc : ∀ k ∈ s.led, k < c
  nd : s.led.Nodup
  one : ∀ (i k : Nat) (d : Row) (l : Nat), s.D[i]? = some d → s.led[k]? = some l → at_ d l = if i = k then 1 else 0
  span : ∀ e : Row, (∀ r ∈ s.L, dot r e = 0) → (∀ d ∈ s.D, dot d e = 0) → ∀ r ∈ rows, dot r e = 0
theorem Inv.init {rows : List Row} {w : Nat} (h : ∀ r ∈ rows, r.length = w) : Inv rows w 0 ⟨rows, [], []⟩ :=
  { lenL := h
    lenD := fun r hr => by cases hr
    many := rfl
    tot := rfl
    low := fun r _ j hj => absurd hj (Nat.not_lt_zero _)
    ledc := fun k hk => by cases hk
    nd := List.nodup_nil
    one := fun i k d l e _ => by cases e
    span := fun e h1 _ => h1 }
theorem fnd_some {L : List Row} {c i : Nat} (h : fnd L c = some i) : ∃ p, L[i]? = some p ∧ L.getD i [] = p ∧ at_ p c ≠ 0 := by
  have h1 := List.find?_some h
  have h2 := List.mem_of_find?_eq_some h
  have hl := List.mem_range.mp h2
  refine ⟨L[i], List.getElem?_eq_getElem hl, by simp [List.getD, hl], ?_⟩
  have := of_decide_eq_true h1
  simpa [List.getD, hl] using this
theorem fnd_none {L : List Row} {c : Nat} (h : fnd L c = none) {r : Row} (hr : r ∈ L) : at_ r c = 0 := by
  obtain ⟨i, hi, e⟩ := List.getElem_of_mem hr
  have := (List.find?_eq_none.mp h) i (List.mem_range.mpr hi)
  have e2 : L.getD i [] = r := by simp [List.getD, hi, e]
  rw [e2] at this
  exact Classical.byContradiction fun q => this (decide_eq_true q)
theorem Inv.step {rows : List Row} {w c : Nat} {s : St} (I : Inv rows w c s) (hc : c < w) : Inv rows w (c + 1) (stp s c) := by
  unfold stp
  cases hf : fnd s.L c with
  | none =>
    exact ⟨I.lenL, I.lenD, I.many, I.tot, fun r hr j hj => by
      by_cases q : j = c
      · subst q; exact fnd_none hf hr
      · exact I.low r hr j (by omega), fun k hk => Nat.lt_succ_of_lt (I.ledc k hk), I.nd, I.one, I.span⟩
  | some i =>
    obtain ⟨p, hp, hg, hn⟩ := fnd_some hf
    simp only [hg]
    have pm : p ∈ s.L := List.mem_of_getElem? hp
    have pl := I.lenL p pm
    have rl : (nrm c p).length = w := by rw [len_nrm, pl]
    have rc : at_ (nrm c p) c = 1 := by
      rw [at_nrm (by omega), Rat.div_def]
      exact Rat.mul_inv_cancel _ hn
    have r0 : ∀ j, j < c → at_ (nrm c p) j = 0 := fun j hj => by
      rw [at_nrm (by omega), I.low p pm j hj, Rat.div_def, Rat.zero_mul]
    have il := (List.getElem?_eq_some_iff.mp hp).1
    have mL : ∀ r ∈ (s.L.eraseIdx i).map (clr c (nrm c p)), ∃ o ∈ s.L, r = clr c (nrm c p) o ∧ o.length = w := fun r hr => by
      obtain ⟨o, ho, e⟩ := List.mem_map.mp hr
      have ho := (List.eraseIdx_sublist s.L i).subset ho
      exact ⟨o, ho, e.symm, I.lenL o ho⟩
    have lc : ∀ o : Row, o.length = w → (clr c (nrm c p) o).length = w := fun o ho => by rw [len_clr (by omega)]; exact ho
    have dclr : ∀ (o e : Row), o.length = w → dot (nrm c p) e = 0 → dot (clr c (nrm c p) o) e = dot o e := fun o e ho h => by
      unfold clr
      rw [dot_sub (by omega), h]
      grind
    refine ⟨fun r hr => ?_, fun r hr => ?_, ?_, ?_, fun r hr j hj => ?_, fun k hk => ?_, ?_, fun a k d l ea ek => ?_, fun e h1 h2 => ?_⟩
    · obtain ⟨o, _, rfl, ho⟩ := mL r hr
      exact lc o ho
    · rcases List.mem_append.mp hr with hr | hr
      · obtain ⟨o, ho, rfl⟩ := List.mem_map.mp hr
        exact lc o (I.lenD o ho)
      · rw [List.mem_singleton.mp hr]
        exact rl
    · simp [I.many]
    · have := I.tot
      simp only [List.length_map, List.length_append, List.length_cons, List.length_nil]
      rw [List.length_eraseIdx_of_lt il]
      omega
    · obtain ⟨o, ho, rfl, hol⟩ := mL r hr
      rw [at_clr (by omega) (by omega)]
      by_cases q : j = c
      · subst q; rw [rc]; grind
      · rw [r0 j (by omega), I.low o ho j (by omega)]; grind
    · rcases List.mem_append.mp hk with hk | hk
      · exact Nat.lt_succ_of_lt (I.ledc k hk)
      · rw [List.mem_singleton.mp hk]; omega
    · rw [List.nodup_append]
      refine ⟨I.nd, by simp, fun a ha b hb => ?_⟩
      rw [List.mem_singleton] at hb
      have := I.ledc a ha
      omega
    · by_cases ha : a < s.D.length
      · rw [List.getElem?_append_left (by simpa using ha), List.getElem?_map] at ea
        cases hd : s.D[a]? with
        | none => rw [hd] at ea; cases ea
        | some d0 =>
          rw [hd] at ea
          simp only [Option.map_some, Option.some.injEq] at ea
          subst ea
          have dl := I.lenD d0 (List.mem_of_getElem? hd)
          by_cases hk : k < s.led.length
          · rw [List.getElem?_append_left hk] at ek
            have lk := I.ledc l (List.mem_of_getElem? ek)
            rw [at_clr (by omega) (by omega), r0 l lk, I.one a k d0 l hd ek]
            grind
          · rw [List.getElem?_append_right (by omega)] at ek
            have k0 : k - s.led.length = 0 := by
              cases h : k - s.led.length with
              | zero => rfl
              | succ n => rw [h] at ek; simp at ek
            rw [k0] at ek
            simp at ek
            subst ek
            rw [at_clr (by omega) (by omega), rc, if_neg (by have := I.many; omega)]
            grind
      · rw [List.getElem?_append_right (by simpa using ha)] at ea
        simp only [List.length_map] at ea
        have a0 : a - s.D.length = 0 := by
          cases h : a - s.D.length with
          | zero => rfl
          | succ n => rw [h] at ea; simp at ea
        rw [a0] at ea
        simp at ea
        subst ea
        by_cases hk : k < s.led.length
        · rw [List.getElem?_append_left hk] at ek
          have lk := I.ledc l (List.mem_of_getElem? ek)
          rw [r0 l lk, if_neg (by have := I.many; omega)]
        · rw [List.getElem?_append_right (by omega)] at ek
          have k0 : k - s.led.length = 0 := by
            cases h : k - s.led.length with
            | zero => rfl
            | succ n => rw [h] at ek; simp at ek
          rw [k0] at ek
          simp at ek
          subst ek
          rw [rc, if_pos (by have := I.many; omega)]
    · have hr : dot (nrm c p) e = 0 := h2 _ (List.mem_append.mpr (.inr (List.mem_singleton.mpr rfl)))
      refine I.span e (fun r hr' => ?_) fun d hd => ?_
      · obtain ⟨k, hk, ek⟩ := List.getElem_of_mem hr'
        by_cases q : k = i
        · subst q
          have e1 : r = p := by
            rw [List.getElem?_eq_getElem hk, ek] at hp
            exact Option.some.inj hp
          subst e1
          have hd : dot r e / at_ r c = 0 := by
            unfold nrm at hr
            rw [dot_nrm (c := c)] at hr
            exact hr
          rw [Rat.div_def] at hd
          have := Rat.mul_inv_cancel _ hn
          grind
        · have m : r ∈ s.L.eraseIdx i := by
            rw [List.mem_eraseIdx_iff_getElem?]
            exact ⟨k, fun q2 => q q2, by rw [List.getElem?_eq_getElem hk, ek]⟩
          rw [← dclr r e (I.lenL r hr') hr]
          exact h1 _ (List.mem_map.mpr ⟨r, m, rfl⟩)
      · rw [← dclr d e (I.lenD d hd) hr]
        exact h2 _ (List.mem_append.mpr (.inl (List.mem_map.mpr ⟨d, hd, rfl⟩)))
theorem fold_inv {rows : List Row} {w : Nat} (h : ∀ r ∈ rows, r.length = w) : ∀ c, c ≤ w → Inv rows w c ((List.range c).foldl stp ⟨rows, [], []⟩)
  | 0, _ => Inv.init h
  | c + 1, hc => by
    rw [List.range_succ, List.foldl_append]
    exact (fold_inv h c (by omega)).step (by omega)
theorem red_inv {rows : List Row} {w : Nat} (h : ∀ r ∈ rows, r.length = w) : Inv rows w w (red rows w) := fold_inv h w (Nat.le_refl _)
/-- the vector that a free column gives, the first m led columns filled in -/
def ent (s : St) (w f : Nat) : Nat → Row
  | 0 => (List.replicate w 0).set f 1
  | m + 1 => (ent s w f m).set (s.led.getD m 0) (-(at_ (s.D.getD m []) f))
theorem len_ent (s : St) (w f : Nat) : ∀ m, (ent s w f m).length = w
  | 0 => by simp [ent]
  | m + 1 => by rw [ent, List.length_set, len_ent s w f m]
theorem at_rep (w j : Nat) : at_ (List.replicate w 0) j = 0 := by
  unfold at_
  simp only [List.getD, List.getElem?_replicate]
  split <;> rfl
theorem dot_rep : ∀ {d : Row} {w : Nat}, dot d (List.replicate w 0) = 0
  | [], w => by cases w <;> rfl
  | x :: d, 0 => rfl
  | x :: d, w + 1 => by
    rw [List.replicate_succ, dot, dot_rep]
    grind
section
variable {rows : List Row} {w f : Nat} {s : St} (I : Inv rows w w s) (hf : f < w) (hn : f ∉ s.led)
include I hf hn
theorem ent_free {j : Nat} : ∀ m, m ≤ s.led.length → (∀ k, k < m → s.led.getD k 0 ≠ j) → at_ (ent s w f m) j = if j = f then 1 else 0
  | 0, _, _ => by
    rw [ent, at_set (by simpa using hf), at_rep]
    split
    · subst_vars; simp
    · rw [if_neg fun q => by subst q; exact absurd rfl ‹_›]
  | m + 1, hm, h => by
    have e : s.led[m]? = some s.led[m] := List.getElem?_eq_getElem (by omega)
    have g : s.led.getD m 0 = s.led[m] := by simp [List.getD, e]
    have hl := I.ledc _ (List.getElem_mem (show m < s.led.length by omega))
    rw [ent, at_set (by rw [len_ent, g]; exact hl), if_neg (h m (by omega))]
    exact ent_free m (by omega) fun k hk => h k (by omega)
theorem led_ne {k m : Nat} (hk : k < s.led.length) (hm : m < s.led.length) (h : k ≠ m) : s.led.getD k 0 ≠ s.led.getD m 0 := by
  have e1 : s.led[k]? = some s.led[k] := List.getElem?_eq_getElem hk
  have e2 : s.led[m]? = some s.led[m] := List.getElem?_eq_getElem hm
  simp only [List.getD, e1, e2, Option.getD_some]
  intro q
  exact h ((List.getElem?_inj hk I.nd).mp (by rw [e1, e2, q]))
theorem dot_ent {i : Nat} {d : Row} (hd : s.D[i]? = some d) : ∀ m, m ≤ s.led.length → dot d (ent s w f m) = if i < m then 0 else at_ d f
  | 0, _ => by
    have dl := I.lenD d (List.mem_of_getElem? hd)
    rw [ent, dot_set (by simpa using dl) (by simpa using hf), dot_rep, at_rep, if_neg (by omega)]
    grind
  | m + 1, hm => by
    have dl := I.lenD d (List.mem_of_getElem? hd)
    have e : s.led[m]? = some s.led[m] := List.getElem?_eq_getElem (by omega)
    have g : s.led.getD m 0 = s.led[m] := by simp [List.getD, e]
    have hl := I.ledc _ (List.getElem_mem (show m < s.led.length by omega))
    have z : at_ (ent s w f m) (s.led.getD m 0) = 0 := by
      rw [ent_free I hf hn m (by omega) fun k hk => led_ne I hf hn (by omega) (by omega) (by omega), if_neg]
      intro q
      rw [g] at q
      exact hn (q ▸ List.getElem_mem _)
    rw [ent, dot_set (by rw [dl, len_ent]) (by rw [len_ent, g]; exact hl), z, dot_ent hd m (by omega), g, I.one i m d _ hd e]
    by_cases q : i = m
    · subst q
      have g2 : s.D.getD i [] = d := by simp [List.getD, hd]
      rw [g2, if_pos rfl, if_neg (by omega), if_pos (by omega)]
      grind
    · rw [if_neg q]
      by_cases q2 : i < m
      · rw [if_pos q2, if_pos (by omega)]; grind
      · rw [if_neg q2, if_neg (by omega)]; grind
/-- it cancels every row -/
theorem ent_cancels : ∀ r ∈ rows, dot r (ent s w f s.led.length) = 0 := by
  refine I.span _ (fun r hr => dot_zero fun j hj => I.low r hr j (by have := I.lenL r hr; omega)) fun d hd => ?_
  obtain ⟨i, hi, e⟩ := List.getElem_of_mem hd
  rw [dot_ent I hf hn (i := i) (by rw [List.getElem?_eq_getElem hi, e]) _ (Nat.le_refl _), if_pos (by have := I.many; omega)]
end
end R.V
end

section
set_option Elab.async false
set_option linter.all false
set_option maxRecDepth 100000
/-! V2: sizes; whole numbers in step with the fractions; whole parts. -/
namespace R.V
/-! ### sizes -/
def BRow (a : Nat) (r : Row) : Prop := ∃ M : Nat, 0 < M ∧ M < 2 ^ a ∧ ∀ x ∈ r, Ov M a x
theorem Ov.mono {M a b : Nat} {q : Rat} (h : Ov M a q) (hab : a ≤ b) : Ov M b q := by
  obtain ⟨z, e, hz⟩ := h
  exact ⟨z, e, lt_pow hz hab⟩
theorem BRow.mono {a b : Nat} {r : Row} (h : BRow a r) (hab : a ≤ b) : BRow b r := by
  obtain ⟨M, h0, h1, h2⟩ := h
  exact ⟨M, h0, lt_pow h1 hab, fun x hx => Ov.mono (h2 x hx) hab⟩
theorem BRow.bd {a : Nat} {r : Row} (h : BRow a r) {x : Rat} (hx : x ∈ r) : Bd a x := by
  obtain ⟨M, h0, h1, h2⟩ := h
  exact (h2 x hx).bd h0 h1
theorem at_mem {r : Row} {j : Nat} (h : j < r.length) : at_ r j ∈ r := by
  unfold at_
  simp [List.getD, h]
theorem ne0 {M : Nat} (h : 0 < M) : ((M : Int) : Rat) ≠ 0 := fun q => by
  have q : ((M : Int) : Rat) = ((0 : Int) : Rat) := q
  have := Rat.intCast_inj.mp q
  omega
theorem int_ne {z : Int} (h : z ≠ 0) : (z : Rat) ≠ 0 := fun q => by
  have q : (z : Rat) = ((0 : Int) : Rat) := q
  exact h (Rat.intCast_inj.mp q)
theorem brow_nrm {a c : Nat} {p : Row} (h : BRow a p) (hc : c < p.length) (hn : at_ p c ≠ 0) : BRow a (nrm c p) := by
  obtain ⟨M, h0, h1, h2⟩ := h
  obtain ⟨z, e, hz⟩ := h2 _ (at_mem hc)
  have zn : z ≠ 0 := fun q => by
    subst q
    rw [e] at hn
    apply hn
    rw [show ((0 : Int) : Rat) = 0 from rfl, Rat.div_def, Rat.zero_mul]
  have m0 := ne0 h0
  refine ⟨z.natAbs, by omega, hz, fun x hx => ?_⟩
  unfold nrm at hx
  obtain ⟨y, hy, rfl⟩ := List.mem_map.mp hx
  obtain ⟨u, eu, hu⟩ := h2 y hy
  have key : y / at_ p c = (u : Rat) / (z : Rat) := by
    rw [eu, e]
    have := int_ne zn
    grind
  rw [key]
  by_cases q : 0 < z
  · refine ⟨u, ?_, hu⟩
    rw [show ((z.natAbs : Nat) : Int) = z by omega]
  · refine ⟨-u, ?_, by simpa using hu⟩
    rw [show ((z.natAbs : Nat) : Int) = -z by omega, Rat.intCast_neg, Rat.intCast_neg]
    have := int_ne zn
    grind
theorem ov_mul {M N a b : Nat} {x y : Rat} (hx : Ov M a x) (hy : Ov N b y) (hM : 0 < M) (hN : 0 < N) : Ov (M * N) (a + b) (x * y) := by
  obtain ⟨u, e1, h1⟩ := hx
  obtain ⟨v, e2, h2⟩ := hy
  have m0 := ne0 hM
  have n0 := ne0 hN
  refine ⟨u * v, ?_, natAbs_mul_lt' h1 h2⟩
  rw [e1, e2, Int.natCast_mul, Rat.intCast_mul, Rat.intCast_mul]
  grind
theorem ov_sub {M N a : Nat} {x y : Rat} (hx : Ov M a x) (hy : Ov (M * N) (a + a) y) (hM : 0 < M) (hN : 0 < N) (hN2 : N < 2 ^ a) : Ov (M * N) (a + a + 1) (x - y) := by
  obtain ⟨u, e1, h1⟩ := hx
  obtain ⟨v, e2, h2⟩ := hy
  have m0 := ne0 hM
  have n0 := ne0 hN
  refine ⟨u * N - v, ?_, natAbs_sub_lt (natAbs_mul_lt' h1 (natAbs_lt' hN2)) h2⟩
  rw [e1, e2, Int.natCast_mul, Rat.intCast_sub, Rat.intCast_mul, Rat.intCast_mul]
  grind
theorem brow_clr {a c : Nat} {row o : Row} (ho : BRow a o) (hr : BRow a row) (hc : c < o.length) : BRow (a + a + 1) (clr c row o) := by
  obtain ⟨M, h0, h1, h2⟩ := ho
  obtain ⟨N, k0, k1, k2⟩ := hr
  refine ⟨M * N, Nat.mul_pos h0 k0, ?_, fun x hx => ?_⟩
  · have : M * N < 2 ^ (a + a) := by rw [Nat.pow_add]; exact Nat.mul_lt_mul'' h1 k1
    exact lt_pow this (by omega)
  · unfold clr at hx
    rw [List.mem_iff_getElem] at hx
    obtain ⟨j, hj, e⟩ := hx
    rw [List.length_zipWith] at hj
    rw [List.getElem_zipWith] at e
    subst e
    exact ov_sub (h2 _ (List.getElem_mem _)) (ov_mul (h2 _ (at_mem hc)) (k2 _ (List.getElem_mem _)) h0 k0) h0 k0 k1
def bt (a : Nat) : Nat → Nat
  | 0 => a
  | k + 1 => bt a k + bt a k + 1
theorem bt_le {a k l : Nat} (h : k ≤ l) : bt a k ≤ bt a l := by
  induction l with
  | zero => rw [Nat.le_zero.mp h]; exact Nat.le_refl _
  | succ l ih =>
    by_cases q : k = l + 1
    · subst q; exact Nat.le_refl _
    · have := ih (by omega)
      show bt a k ≤ bt a l + bt a l + 1
      omega
structure Sz (a : Nat) (s : St) : Prop where
  L : ∀ r ∈ s.L, BRow (bt a s.led.length) r
  D : ∀ r ∈ s.D, BRow (bt a s.led.length) r
theorem Sz.step {rows : List Row} {w c a : Nat} {s : St} (I : Inv rows w c s) (hc : c < w) (S : Sz a s) : Sz a (stp s c) := by
  unfold stp
  cases hf : fnd s.L c with
  | none => exact S
  | some i =>
    obtain ⟨p, hp, hg, hn⟩ := fnd_some hf
    simp only [hg]
    have pm : p ∈ s.L := List.mem_of_getElem? hp
    have br := brow_nrm (S.L p pm) (by rw [I.lenL p pm]; exact hc) hn
    constructor
    · intro r hr
      obtain ⟨o, ho, rfl⟩ := List.mem_map.mp hr
      have ho := (List.eraseIdx_sublist s.L i).subset ho
      rw [List.length_append]
      exact brow_clr (S.L o ho) br (by rw [I.lenL o ho]; exact hc)
    · intro r hr
      rw [List.length_append]
      rcases List.mem_append.mp hr with hr | hr
      · obtain ⟨o, ho, rfl⟩ := List.mem_map.mp hr
        exact brow_clr (S.D o ho) br (by rw [I.lenD o ho]; exact hc)
      · rw [List.mem_singleton.mp hr]
        exact br.mono (bt_le (by simp))
theorem fold_sz {rows : List Row} {w a : Nat} (h : ∀ r ∈ rows, r.length = w) (hb : ∀ r ∈ rows, BRow a r) : ∀ c, c ≤ w → Sz a ((List.range c).foldl stp ⟨rows, [], []⟩)
  | 0, _ => ⟨hb, fun r hr => by cases hr⟩
  | c + 1, hc => by
    rw [List.range_succ, List.foldl_append]
    exact (fold_sz h hb c (by omega)).step (fold_inv h c (by omega)) (by omega)
/-! ### whole numbers in step -/
abbrev IRow := List Int
def atI_ (r : IRow) (j : Nat) : Int := r.getD j 0
def gcds (xs : IRow) : Int := xs.foldl (fun c x => gcdI c x) 0
def made (p : IRow) (c w : Nat) (row : IRow) : IRow := (List.range w).map fun j => atI_ row j * atI_ p c - atI_ p j * atI_ row c
def mk (p : IRow) (c w : Nat) (row : IRow) : IRow := (made p c w row).map fun z => z / max 1 (gcds (made p c w row))
structure SI where
  L : List IRow
  led : List Nat
def fndI (L : List IRow) (c : Nat) : Option Nat := (List.range L.length).find? fun i => decide (atI_ (L.getD i []) c ≠ 0)
def stI (w : Nat) (s : SI) (c : Nat) : SI := match fndI s.L c with
  | none => s
  | some i => ⟨(s.L.eraseIdx i).map (mk (s.L.getD i []) c w), s.led ++ [c]⟩
def redI (rows : List IRow) (w : Nat) : SI := (List.range w).foldl (stI w) ⟨rows, []⟩
theorem gcdI_dvd (a b : Int) : gcdI a b ∣ a ∧ gcdI a b ∣ b := by
  unfold gcdI
  constructor
  · exact Int.natAbs_dvd_natAbs.mp (by simpa using Nat.gcd_dvd_left _ _)
  · exact Int.natAbs_dvd_natAbs.mp (by simpa using Nat.gcd_dvd_right _ _)
theorem fold_dvd : ∀ (xs : IRow) (c : Int), (xs.foldl (fun c x => gcdI c x) c) ∣ c ∧ ∀ x ∈ xs, (xs.foldl (fun c x => gcdI c x) c) ∣ x
  | [], c => ⟨Int.dvd_refl _, fun x hx => by cases hx⟩
  | y :: xs, c => by
    obtain ⟨h1, h2⟩ := fold_dvd xs (gcdI c y)
    obtain ⟨g1, g2⟩ := gcdI_dvd c y
    refine ⟨Int.dvd_trans h1 g1, fun x hx => ?_⟩
    rcases List.mem_cons.mp hx with rfl | hx
    · exact Int.dvd_trans h1 g2
    · exact h2 x hx
theorem fold_nn : ∀ (xs : IRow) (c : Int), 0 ≤ c → 0 ≤ xs.foldl (fun c x => gcdI c x) c
  | [], c, h => h
  | y :: xs, c, h => fold_nn xs _ (show (0 : Int) ≤ gcdI c y by unfold gcdI; omega)
theorem gcds_nn (xs : IRow) : 0 ≤ gcds xs := fold_nn xs 0 (by omega)
theorem mx_pos (g : Int) : 0 < max 1 g := by omega
theorem mx_dvd {xs : IRow} {x : Int} (h : x ∈ xs) : max 1 (gcds xs) ∣ x := by
  by_cases q : gcds xs ≤ 1
  · rw [show max 1 (gcds xs) = 1 by omega]; exact Int.one_dvd _
  · rw [show max 1 (gcds xs) = gcds xs by omega]
    exact (fold_dvd xs 0).2 x h
theorem atI_made {p : IRow} {c w : Nat} {row : IRow} {j : Nat} (h : j < w) : atI_ (made p c w row) j = atI_ row j * atI_ p c - atI_ p j * atI_ row c := by
  unfold made
  conv => lhs; unfold atI_
  simp [List.getD, h]
  rfl
theorem at_div {xs : IRow} {g : Int} {j : Nat} : atI_ (xs.map fun z => z / g) j = atI_ xs j / g := by
  unfold atI_
  simp only [List.getD, List.getElem?_map]
  cases xs[j]? <;> simp
theorem cast_div {z g : Int} (h : g ∣ z) (hg : g ≠ 0) : ((z / g : Int) : Rat) = (z : Rat) / (g : Rat) := by
  obtain ⟨t, rfl⟩ := h
  rw [Int.mul_ediv_cancel_left _ hg, Rat.intCast_mul]
  have := int_ne hg
  grind
/-- the row of fractions is a multiple of the row of whole numbers -/
def Scl (w : Nat) (q : Row) (r : IRow) : Prop := q.length = w ∧ r.length = w ∧ ∃ k : Rat, k ≠ 0 ∧ ∀ j, j < w → at_ q j = k * (atI_ r j : Rat)
theorem Scl.zero {w : Nat} {q : Row} {r : IRow} (h : Scl w q r) {j : Nat} (hj : j < w) : at_ q j ≠ 0 ↔ atI_ r j ≠ 0 := by
  obtain ⟨_, _, k, hk, e⟩ := h
  rw [e j hj]
  constructor
  · intro h q
    apply h
    rw [q, show ((0 : Int) : Rat) = 0 from rfl, Rat.mul_zero]
  · intro h q
    rcases Rat.mul_eq_zero.mp q with q | q
    · exact hk q
    · exact int_ne h q
theorem Scl.step {w c : Nat} {q p : Row} {r pi : IRow} (h : Scl w q r) (hp : Scl w p pi) (hc : c < w) (hn : at_ p c ≠ 0) : Scl w (clr c (nrm c p) q) (mk pi c w r) := by
  obtain ⟨l1, l2, k, hk, e⟩ := h
  have zn := (hp.zero hc).mp hn
  obtain ⟨m1, m2, k', hk', e'⟩ := hp
  have g0 := mx_pos (gcds (made pi c w r))
  have gr := int_ne (show max 1 (gcds (made pi c w r)) ≠ 0 by omega)
  have pr := int_ne zn
  refine ⟨by rw [len_clr (by rw [len_nrm]; omega), l1], by unfold mk made; simp, k * (max 1 (gcds (made pi c w r)) : Int) / (atI_ pi c : Rat), ?_, fun j hj => ?_⟩
  · intro q
    rw [Rat.div_def] at q
    rcases Rat.mul_eq_zero.mp q with q | q
    · rcases Rat.mul_eq_zero.mp q with q | q
      · exact hk q
      · exact gr q
    · have := Rat.mul_inv_cancel _ pr
      rw [q, Rat.mul_zero] at this
      exact absurd this (by decide)
  · rw [at_clr (by rw [len_nrm]; omega) (by omega), at_nrm (by omega)]
    unfold mk
    rw [at_div, cast_div (mx_dvd (by
      rw [show atI_ (made pi c w r) j = (made pi c w r)[j]'(by unfold made; simpa using hj) by unfold atI_; simp [List.getD, made, hj]]
      exact List.getElem_mem _)) (by omega), atI_made hj, e j hj, e c hc, e' j hj, e' c hc, Rat.intCast_sub, Rat.intCast_mul, Rat.intCast_mul]
    generalize (atI_ r j : Rat) = rj
    generalize (atI_ r c : Rat) = rc
    generalize (atI_ pi j : Rat) = pj
    generalize (atI_ pi c : Rat) = pc at *
    generalize ((max 1 (gcds (made pi c w r)) : Int) : Rat) = g at *
    have i1 := Rat.mul_inv_cancel _ pr
    have i2 := Rat.mul_inv_cancel _ gr
    have i3 := Rat.mul_inv_cancel _ hk'
    grind
structure Sim (w : Nat) (s : St) (t : SI) : Prop where
  led : s.led = t.led
  len : s.L.length = t.L.length
  row : ∀ (i : Nat) (q : Row) (r : IRow), s.L[i]? = some q → t.L[i]? = some r → Scl w q r
theorem Sim.fnd {w c : Nat} {s : St} {t : SI} (S : Sim w s t) (hc : c < w) : fnd s.L c = fndI t.L c := by
  unfold V.fnd fndI
  rw [S.len]
  have h : ∀ i, i ∈ List.range t.L.length → (decide (at_ (s.L.getD i []) c ≠ 0)) = decide (atI_ (t.L.getD i []) c ≠ 0) := fun i hi => by
    have hi := List.mem_range.mp hi
    have e1 : s.L[i]? = some (s.L[i]'(by rw [S.len]; exact hi)) := List.getElem?_eq_getElem _
    have e2 : t.L[i]? = some t.L[i] := List.getElem?_eq_getElem _
    have := (S.row i _ _ e1 e2).zero hc
    simp only [List.getD, e1, e2, Option.getD_some]
    exact decide_eq_decide.mpr this
  generalize List.range t.L.length = xs at *
  induction xs with
  | nil => rfl
  | cons x xs ih =>
    rw [List.find?_cons, List.find?_cons, h x List.mem_cons_self, ih fun i hi => h i (List.mem_cons_of_mem _ hi)]
theorem Sim.step {w c : Nat} {s : St} {t : SI} (S : Sim w s t) (hc : c < w) : Sim w (stp s c) (stI w t c) := by
  unfold stp stI
  rw [S.fnd hc]
  cases hf : fndI t.L c with
  | none => exact S
  | some i =>
    have hf' := S.fnd hc
    rw [hf] at hf'
    obtain ⟨p, hp, hg, hn⟩ := fnd_some hf'
    simp only [hg]
    have il := (List.getElem?_eq_some_iff.mp hp).1
    have ep : t.L[i]? = some (t.L[i]'(by rw [← S.len]; exact il)) := List.getElem?_eq_getElem _
    have gp : t.L.getD i [] = t.L[i]'(by rw [← S.len]; exact il) := by simp [List.getD, ep]
    rw [gp]
    have sp := S.row i _ _ hp ep
    refine ⟨by rw [S.led], ?_, fun j q r hq hr => ?_⟩
    · simp only [List.length_map]
      rw [List.length_eraseIdx_of_lt il, List.length_eraseIdx_of_lt (by rw [← S.len]; exact il), S.len]
    · rw [List.getElem?_map] at hq hr
      rw [List.getElem?_eraseIdx] at hq hr
      split at hq <;> rename_i h
      · rw [if_pos h] at hr
        cases e1 : s.L[j]? with
        | none => rw [e1] at hq; cases hq
        | some q0 =>
          cases e2 : t.L[j]? with
          | none => rw [e2] at hr; cases hr
          | some r0 =>
            rw [e1] at hq
            rw [e2] at hr
            simp only [Option.map_some, Option.some.injEq] at hq hr
            subst hq; subst hr
            exact (S.row j q0 r0 e1 e2).step sp hc hn
      · rw [if_neg h] at hr
        cases e1 : s.L[j + 1]? with
        | none => rw [e1] at hq; cases hq
        | some q0 =>
          cases e2 : t.L[j + 1]? with
          | none => rw [e2] at hr; cases hr
          | some r0 =>
            rw [e1] at hq
            rw [e2] at hr
            simp only [Option.map_some, Option.some.injEq] at hq hr
            subst hq; subst hr
            exact (S.row (j + 1) q0 r0 e1 e2).step sp hc hn
def toQ (r : IRow) : Row := r.map fun (z : Int) => (z : Rat)
theorem at_toQ (r : IRow) (j : Nat) : at_ (toQ r) j = (atI_ r j : Rat) := by
  unfold at_ toQ atI_
  simp only [List.getD, List.getElem?_map]
  cases r[j]? <;> rfl
theorem fold_sim {rows : List IRow} {w : Nat} (h : ∀ r ∈ rows, r.length = w) : ∀ c, c ≤ w → Sim w ((List.range c).foldl stp ⟨rows.map toQ, [], []⟩) ((List.range c).foldl (stI w) ⟨rows, []⟩)
  | 0, _ => ⟨rfl, by simp, fun i q r hq hr => by
      have hq : (rows.map toQ)[i]? = some q := hq
      have hr : rows[i]? = some r := hr
      rw [List.getElem?_map, hr] at hq
      simp only [Option.map_some, Option.some.injEq] at hq
      subst hq
      have l := h r (List.mem_of_getElem? hr)
      exact ⟨by unfold toQ; simpa using l, l, 1, by decide, fun j _ => by rw [at_toQ]; grind⟩⟩
  | c + 1, hc => by
    rw [List.range_succ, List.foldl_append, List.foldl_append]
    exact (fold_sim h c (by omega)).step (by omega)
theorem led_eq {rows : List IRow} {w : Nat} (h : ∀ r ∈ rows, r.length = w) : (red (rows.map toQ) w).led = (redI rows w).led := (fold_sim h w (Nat.le_refl _)).led
end R.V
end

section
set_option Elab.async false
set_option linter.all false
set_option maxRecDepth 100000
/-! V3: whole parts of a row of fractions. -/
namespace R.V
def lcs (e : Row) (c : Nat) : Nat := e.foldl (fun c q => Nat.lcm c q.den) c
def Lc (e : Row) : Nat := lcs e 1
def wp (e : Row) : IRow := e.map fun q => q.num * ((Lc e / q.den : Nat) : Int)
theorem lcs_dvd : ∀ (e : Row) (c : Nat), c ∣ lcs e c ∧ ∀ q ∈ e, q.den ∣ lcs e c
  | [], c => ⟨Nat.dvd_refl _, fun q hq => by cases hq⟩
  | x :: e, c => by
    obtain ⟨h1, h2⟩ := lcs_dvd e (Nat.lcm c x.den)
    refine ⟨Nat.dvd_trans (Nat.dvd_lcm_left _ _) h1, fun q hq => ?_⟩
    rcases List.mem_cons.mp hq with rfl | hq
    · exact Nat.dvd_trans (Nat.dvd_lcm_right _ _) h1
    · exact h2 q hq
theorem lcs_least {m : Nat} : ∀ (e : Row) (c : Nat), c ∣ m → (∀ q ∈ e, q.den ∣ m) → lcs e c ∣ m
  | [], c, h, _ => h
  | x :: e, c, h, hq => lcs_least e _ (Nat.lcm_dvd h (hq x List.mem_cons_self)) fun q hq' => hq q (List.mem_cons_of_mem _ hq')
theorem lcs_pos : ∀ (e : Row) (c : Nat), 0 < c → 0 < lcs e c
  | [], c, h => h
  | x :: e, c, h => lcs_pos e _ (Nat.lcm_pos h x.den_pos)
theorem Lc_pos (e : Row) : 0 < Lc e := lcs_pos e 1 (by decide)
theorem den_Lc {e : Row} {q : Rat} (h : q ∈ e) : q.den ∣ Lc e := (lcs_dvd e 1).2 q h
/-- as fractions -/
theorem wp_q {e : Row} {q : Rat} (h : q ∈ e) : ((q.num * ((Lc e / q.den : Nat) : Int) : Int) : Rat) = q * ((Lc e : Int) : Rat) := by
  obtain ⟨t, ht⟩ := den_Lc h
  have hd := q.den_pos
  rw [ht, Nat.mul_div_cancel_left _ hd, Rat.intCast_mul, Int.natCast_mul, Rat.intCast_mul]
  have h1 := q_eq q
  have h2 := den_ne q
  grind
theorem len_wp (e : Row) : (wp e).length = e.length := by unfold wp; simp
theorem atI_wp {e : Row} {j : Nat} (h : j < e.length) : ((atI_ (wp e) j : Int) : Rat) = at_ e j * ((Lc e : Int) : Rat) := by
  have hm := at_mem h
  have e1 : at_ e j = e[j] := by unfold at_; simp [List.getD, h]
  rw [e1] at hm ⊢
  rw [← wp_q hm]
  unfold atI_ wp
  simp [List.getD, h]
/-- no common divisor, where a one is among them -/
theorem wp_one {e : Row} (h : (1 : Rat) ∈ e) : gcds (wp e) = 1 := by
  obtain ⟨c, hc⟩ : ∃ c : Nat, gcds (wp e) = (c : Int) := ⟨(gcds (wp e)).toNat, by have := gcds_nn (wp e); omega⟩
  have hd := (fold_dvd (wp e) 0).2
  have hd : ∀ x ∈ wp e, (c : Int) ∣ x := fun x hx => by rw [← hc]; exact hd x hx
  have dv : ∀ q ∈ e, c ∣ q.num.natAbs * (Lc e / q.den) := fun q hq => by
    have := Int.natAbs_dvd_natAbs.mpr (hd _ (List.mem_map.mpr ⟨q, hq, rfl⟩))
    rw [Int.natAbs_mul, Int.natAbs_natCast, Int.natAbs_natCast] at this
    exact this
  have cL : c ∣ Lc e := by
    have := dv 1 h
    simpa using this
  obtain ⟨m, hm⟩ := cL
  have c0 : 0 < c := Nat.pos_of_ne_zero fun q => by
    subst q
    have := Lc_pos e
    omega
  have all : ∀ q ∈ e, q.den ∣ m := fun q hq => by
    obtain ⟨t, ht⟩ := den_Lc hq
    have h1 := dv q hq
    rw [ht, Nat.mul_div_cancel_left _ q.den_pos] at h1
    have h2 : c ∣ q.den * t := ⟨m, by rw [← ht, hm]⟩
    have h3 : c ∣ t := by
      have := Nat.dvd_gcd h1 h2
      rw [Nat.gcd_mul_right] at this
      have r := q.reduced
      rw [Nat.Coprime] at r
      rw [r, Nat.one_mul] at this
      exact this
    obtain ⟨v, hv⟩ := h3
    refine ⟨v, ?_⟩
    have : c * m = c * (q.den * v) := by rw [← hm, ht, hv]; simp only [Nat.mul_left_comm]
    exact Nat.eq_of_mul_eq_mul_left c0 this
  have := lcs_least e 1 (Nat.one_dvd _) all
  have hle := Nat.le_of_dvd (by
    rcases Nat.eq_zero_or_pos m with q | q
    · subst q
      have := Lc_pos e
      omega
    · exact q) this
  have e2 : lcs e 1 = c * m := hm
  rw [e2] at hle
  have m0 : 0 < m := Nat.pos_of_ne_zero fun q => by
    subst q
    have := Lc_pos e
    omega
  have : c = 1 := by
    rcases Nat.lt_or_ge 1 c with q | q
    · have : 2 * m ≤ c * m := Nat.mul_le_mul_right m q
      omega
    · omega
  rw [hc, this]
  rfl
/-! ### sums of products -/
def dotI (a b : IRow) : Int := ((List.range a.length).map fun k => atI_ a k * atI_ b k).sum
def dotJ : IRow → IRow → Int
  | x :: xs, y :: ys => x * y + dotJ xs ys
  | _, _ => 0
theorem range_succ_map {β : Type} (n : Nat) (f : Nat → β) : (List.range (n + 1)).map f = f 0 :: (List.range n).map fun k => f (k + 1) := by
  rw [List.range_succ_eq_map, List.map_cons, List.map_map]
  rfl
theorem dotI_eq : ∀ {a b : IRow}, a.length = b.length → dotI a b = dotJ a b
  | [], [], _ => rfl
  | x :: a, y :: b, h => by
    have ih := dotI_eq (a := a) (b := b) (by simpa using h)
    unfold dotI at *
    rw [List.length_cons, range_succ_map, List.sum_cons, dotJ, ← ih]
    rfl
  | [], _ :: _, h => by simp at h
  | _ :: _, [], h => by simp at h
theorem dotJ_q : ∀ {a b : IRow}, ((dotJ a b : Int) : Rat) = dot (toQ a) (toQ b)
  | [], b => by unfold dotJ; rfl
  | x :: a, [] => by unfold dotJ; rfl
  | x :: a, y :: b => by
    rw [dotJ, Rat.intCast_add, Rat.intCast_mul, dotJ_q (a := a) (b := b)]
    rfl
theorem dot_scale : ∀ {a b : Row} {k : Rat}, dot a (b.map (· * k)) = dot a b * k
  | [], b, k => by unfold dot; grind
  | x :: a, [], k => by simp only [List.map_nil]; unfold dot; grind
  | x :: a, y :: b, k => by
    rw [List.map_cons, dot, dot, dot_scale (a := a) (b := b)]
    grind
theorem toQ_wp (e : Row) : toQ (wp e) = e.map (· * ((Lc e : Int) : Rat)) := by
  unfold toQ wp
  rw [List.map_map]
  apply List.map_congr_left
  intro q hq
  exact wp_q hq
theorem int_zero {z : Int} (h : (z : Rat) = 0) : z = 0 := Classical.byContradiction fun q => int_ne q h
theorem wp_cancels {a : IRow} {e : Row} (hl : a.length = e.length) (h : dot (toQ a) e = 0) : dotI a (wp e) = 0 := by
  rw [dotI_eq (by rw [len_wp]; exact hl)]
  apply int_zero
  rw [dotJ_q, toQ_wp, dot_scale, h, Rat.zero_mul]
end R.V
end

section
set_option Elab.async false
set_option linter.all false
set_option maxRecDepth 100000
/-! N1: sums of the greatest; pairs. -/
namespace R.N
open R R.V
/-! ### sums -/
def sm : List Rat → Rat
  | [] => 0
  | x :: xs => x + sm xs
theorem sm_app : ∀ a b : List Rat, sm (a ++ b) = sm a + sm b
  | [], b => (by show sm b = 0 + sm b; grind)
  | x :: a, b => by rw [List.cons_append, sm, sm, sm_app a b]; grind
theorem sm_perm {a b : List Rat} (h : a.Perm b) : sm a = sm b := by
  induction h with
  | nil => rfl
  | cons x _ ih => rw [sm, sm, ih]
  | swap x y l => simp only [sm]; grind
  | trans _ _ i j => exact i.trans j
theorem sm_take {l : List Rat} {k : Nat} (h : k < l.length) : sm (l.take (k + 1)) = sm (l.take k) + l[k] := by
  rw [List.take_add_one, List.getElem?_eq_getElem h, sm_app]
  show _ + (l[k] + 0) = _
  grind
/-! ### the greatest first -/
def geB (a b : Rat) : Bool := decide (b ≤ a)
def srt (l : List Rat) : List Rat := l.mergeSort geB
def Dsc (l : List Rat) : Prop := l.Pairwise fun a b => b ≤ a
theorem srt_perm (l : List Rat) : (srt l).Perm l := List.mergeSort_perm _ _
theorem srt_dsc (l : List Rat) : Dsc (srt l) := by
  have := List.pairwise_mergeSort (le := geB) (fun a b c h1 h2 => by unfold geB at *; simp only [decide_eq_true_eq] at *; grind) (fun a b => by unfold geB; simp only [Bool.or_eq_true, decide_eq_true_eq]; grind) l
  exact this.imp fun h => by unfold geB at h; simpa using h
theorem srt_len (l : List Rat) : (srt l).length = l.length := (srt_perm l).length_eq
theorem dsc_uniq {a b : List Rat} (ha : Dsc a) (hb : Dsc b) (p : a.Perm b) : a = b :=
  List.Perm.eq_of_pairwise (fun x y _ _ h1 h2 => by grind) ha hb p
theorem srt_uniq {a l : List Rat} (ha : Dsc a) (p : a.Perm l) : a = srt l := dsc_uniq ha (srt_dsc l) (p.trans (srt_perm l).symm)
/-! ### a bound by a threshold -/
def mx (t x : Rat) : Rat := if x ≤ t then 0 else x - t
theorem mx_nn (t x : Rat) : 0 ≤ mx t x := by unfold mx; split <;> grind
theorem mx_le (t x : Rat) : x ≤ t + mx t x := by unfold mx; split <;> grind
theorem smx_nn (t : Rat) : ∀ l : List Rat, 0 ≤ sm (l.map (mx t))
  | [] => by simp [sm]
  | x :: l => by have := smx_nn t l; have := mx_nn t x; rw [List.map_cons, sm]; grind
theorem up (t : Rat) : ∀ (l : List Rat) (k : Nat), k ≤ l.length → sm (l.take k) ≤ (k : Rat) * t + sm (l.map (mx t))
  | l, 0, _ => by have := smx_nn t l; simp [sm]; grind
  | [], k + 1, h => by simp at h
  | x :: l, k + 1, h => by
    have ih := up t l k (by simpa using h)
    have := mx_le t x
    have e : ((k + 1 : Nat) : Rat) = (k : Rat) + 1 := by simp
    rw [List.take_succ_cons, sm, List.map_cons, sm, e]
    grind
theorem low_zero {t : Rat} : ∀ {l : List Rat}, (∀ x ∈ l, x ≤ t) → sm (l.map (mx t)) = 0
  | [], _ => rfl
  | x :: l, h => by
    rw [List.map_cons, sm, low_zero fun y hy => h y (List.mem_cons_of_mem _ hy)]
    unfold mx
    rw [if_pos (h x List.mem_cons_self)]
    grind
theorem at_eq (t : Rat) : ∀ (l : List Rat) (k : Nat), k ≤ l.length → (∀ x ∈ l.take k, t ≤ x) → (∀ x ∈ l.drop k, x ≤ t) → sm (l.take k) = (k : Rat) * t + sm (l.map (mx t))
  | l, 0, _, _, h2 => by rw [low_zero (by simpa using h2)]; simp [sm]; try grind
  | [], k + 1, h, _, _ => by simp at h
  | x :: l, k + 1, h, h1, h2 => by
    have ih := at_eq t l k (by simpa using h) (fun y hy => h1 y (by rw [List.take_succ_cons]; exact List.mem_cons_of_mem _ hy)) (by simpa using h2)
    have hx := h1 x (by rw [List.take_succ_cons]; exact List.mem_cons_self)
    have e : ((k + 1 : Nat) : Rat) = (k : Rat) + 1 := by simp
    have m : mx t x = x - t := by unfold mx; split <;> grind
    rw [List.take_succ_cons, sm, List.map_cons, sm, e, ih, m]
    grind
theorem dsc_at {l : List Rat} (h : Dsc l) {k : Nat} (hk : k < l.length) : sm (l.take (k + 1)) = ((k + 1 : Nat) : Rat) * l[k] + sm (l.map (mx l[k])) := by
  have g : ∀ i j (hi : i < l.length) (hj : j < l.length), i < j → l[j] ≤ l[i] := List.pairwise_iff_getElem.mp h
  refine at_eq _ l (k + 1) hk (fun x hx => ?_) fun x hx => ?_
  · obtain ⟨i, hi, e⟩ := List.getElem_of_mem hx
    rw [List.length_take] at hi
    rw [List.getElem_take] at e
    rw [← e]
    rcases Nat.lt_or_ge i k with q | q
    · exact g i k (by omega) hk q
    · have : i = k := by omega
      subst this; exact Rat.le_refl
  · obtain ⟨i, hi, e⟩ := List.getElem_of_mem hx
    rw [List.length_drop] at hi
    rw [List.getElem_drop] at e
    rw [← e]
    exact g k (k + 1 + i) hk (by omega) (by omega)
/-! ### pairs -/
def pr : List Rat → List Rat
  | a :: b :: r => (a + b) :: pr r
  | _ => []
theorem pr_len : ∀ l : List Rat, (pr l).length = l.length / 2
  | [] => rfl
  | [_] => by simp [pr]
  | _ :: _ :: l => by rw [pr, List.length_cons, pr_len l, List.length_cons, List.length_cons]; omega
theorem pr_mx (t : Rat) : ∀ l : List Rat, sm ((pr l).map (mx (t + t))) ≤ sm (l.map (mx t))
  | [] => by simp [pr, sm]
  | [x] => by have := mx_nn t x; simp [pr, sm]; grind
  | a :: b :: l => by
    have ih := pr_mx t l
    have : mx (t + t) (a + b) ≤ mx t a + mx t b := by unfold mx; split <;> split <;> split <;> grind
    simp only [pr, List.map_cons, sm]
    grind
theorem pr_take : ∀ (l : List Rat) (k : Nat), 2 * k ≤ l.length → sm ((pr l).take k) = sm (l.take (2 * k))
  | _, 0, _ => by simp
  | [], k + 1, h => by simp at h
  | [_], k + 1, h => by simp at h; omega
  | a :: b :: l, k + 1, h => by
    have ih := pr_take l k (by simp only [List.length_cons] at h; omega)
    rw [show 2 * (k + 1) = 2 * k + 1 + 1 by omega, pr, List.take_succ_cons, List.take_succ_cons, List.take_succ_cons, sm, sm, sm, ih]
    grind
theorem pr_mem : ∀ {l : List Rat} {x : Rat}, x ∈ pr l → ∃ a ∈ l, ∃ b ∈ l, x = a + b
  | [], x, h => by simp [pr] at h
  | [_], x, h => by simp [pr] at h
  | a :: b :: l, x, h => by
    rw [pr] at h
    rcases List.mem_cons.mp h with h | h
    · exact ⟨a, by simp, b, by simp, h⟩
    · obtain ⟨c, hc, d, hd, e⟩ := pr_mem h
      exact ⟨c, by simp [hc], d, by simp [hd], e⟩
theorem pr_dsc : ∀ {l : List Rat}, Dsc l → Dsc (pr l)
  | [], _ => List.Pairwise.nil
  | [_], _ => List.Pairwise.nil
  | a :: b :: l, h => by
    rw [pr]
    obtain ⟨h1, h2⟩ := List.pairwise_cons.mp h
    obtain ⟨h3, h4⟩ := List.pairwise_cons.mp h2
    refine List.pairwise_cons.mpr ⟨fun x hx => ?_, pr_dsc h4⟩
    obtain ⟨c, hc, d, hd, e⟩ := pr_mem hx
    have := h1 c (by simp [hc])
    have := h3 d hd
    grind
theorem pr_get : ∀ {l : List Rat} {k : Nat}, 2 * k + 1 < l.length → ∃ a b, l[2 * k]? = some a ∧ l[2 * k + 1]? = some b ∧ (pr l)[k]? = some (a + b)
  | [], k, h => by simp at h
  | [_], k, h => by simp at h
  | a :: b :: l, 0, h => ⟨a, b, rfl, rfl, rfl⟩
  | a :: b :: l, k + 1, h => by
    obtain ⟨c, d, h1, h2, h3⟩ := pr_get (l := l) (k := k) (by simp only [List.length_cons] at h; omega)
    refine ⟨c, d, ?_, ?_, ?_⟩
    · rw [show 2 * (k + 1) = 2 * k + 1 + 1 by omega]; simpa using h1
    · rw [show 2 * (k + 1) + 1 = 2 * k + 1 + 1 + 1 by omega]; simpa using h2
    · rw [pr]; simpa using h3
/-- no order of the rows gives greater sums than the falling one -/
theorem most {l l' : List Rat} (p : l'.Perm l) {k : Nat} (hk : 2 * k ≤ l.length) : sm ((srt (pr l')).take k) ≤ sm ((srt (pr (srt l))).take k) := by
  have e1 : srt (pr (srt l)) = pr (srt l) := (srt_uniq (pr_dsc (srt_dsc l)) (List.Perm.refl _)).symm
  rw [e1]
  cases k with
  | zero => simp [sm]
  | succ k =>
    have hl : 2 * k + 1 < (srt l).length := by rw [srt_len]; omega
    have e2 := dsc_at (srt_dsc l) hl
    rw [pr_take _ _ (by rw [srt_len]; exact hk), show 2 * (k + 1) = 2 * k + 1 + 1 by omega, e2]
    have u := up ((srt l)[2 * k + 1] + (srt l)[2 * k + 1]) (srt (pr l')) (k + 1) (by rw [srt_len, pr_len, p.length_eq]; omega)
    have e3 : sm ((srt (pr l')).map (mx ((srt l)[2 * k + 1] + (srt l)[2 * k + 1]))) = sm ((pr l').map (mx ((srt l)[2 * k + 1] + (srt l)[2 * k + 1]))) := sm_perm ((srt_perm _).map _)
    have e4 := pr_mx (srt l)[2 * k + 1] l'
    have e5 : sm (l'.map (mx (srt l)[2 * k + 1])) = sm ((srt l).map (mx (srt l)[2 * k + 1])) := sm_perm ((p.trans (srt_perm l).symm).map _)
    generalize (srt l)[2 * k + 1] = t at *
    have c1 : ((k + 1 : Nat) : Rat) = (k : Rat) + 1 := by simp
    have c2 : ((2 * k + 1 + 1 : Nat) : Rat) = 2 * (k : Rat) + 2 := by
      rw [show 2 * k + 1 + 1 = 2 * (k + 1) by omega, Rat.natCast_mul, c1]; grind
    rw [c2]
    rw [c1] at u
    grind
end R.N
end

section
set_option Elab.async false
set_option linter.all false
set_option maxRecDepth 100000
/-! N2: fillings, their sums: the defs' plain meaning, in any text. -/
namespace R.N
open R R.V
section
variable {Φ : R.Or}
@[simp] theorem p_srt (i : Nat) (e : E) (y : Nat) (neg : Bool) (s : PSt) : exS Φ (.srt i e y neg) s = onR ((ev Φ e (mask s)).bind fun d => srtR neg d (((mask s)[y]?).bind id)) s fun d => .nx (setS s i (.sh d)) := rfl
@[simp] theorem p_srtR (e : E) (y : Nat) (neg : Bool) (s : PSt) : exS Φ (.srtR e y neg) s = onR ((ev Φ e (mask s)).bind fun d => srtR neg d (((mask s)[y]?).bind id)) s fun d => .rt (.sh d) := rfl
def fL (r : Row) : D := .lst (r.map fq)
def fT (r : Row) : D := .tup (r.map fq)
/-- a list or a tuple of fractions -/
def IsF (d : D) (r : Row) : Prop := d = fL r ∨ d = fT r
theorem IsF.src {d : D} {r : Row} (h : IsF d r) : srcR .seq [d] = .ok (r.map fq) := by rcases h with rfl | rfl <;> rfl
theorem IsF.len {d : D} {r : Row} (h : IsF d r) : bi .len [d] = .ok (.int (r.length : Int)) := by
  rcases h with rfl | rfl
  · show Res.ok (D.int ((r.map fq).length : Nat)) = _; rw [List.length_map]
  · show Res.ok (D.int ((r.map fq).length : Nat)) = _; rw [List.length_map]
theorem IsF.ix {d : D} {r : Row} (h : IsF d r) {j : Nat} (hj : j < r.length) : ixR d (.int (j : Int)) = .ok (fq (at_ r j)) := by
  have e : (r.map fq)[j]? = some (fq (at_ r j)) := by unfold at_; simp [List.getD, hj]
  rcases h with rfl | rfl
  · exact ix_at e
  · exact ix_atT e
/-! ### adding, multiplying -/
def AddOk (Φ : R.Or) (i : Nat) : Prop := ∀ (A : Nat) (a b : Rat), Bd A a → Bd A b → A + A < 9000 → Φ i [fq a, fq b] = .ok (.sh (fq (a + b)))
def TimOk (Φ : R.Or) (i : Nat) : Prop := ∀ (A : Nat) (a b : Rat), Bd A a → Bd A b → A + A < 9000 → Φ i [fq a, fq b] = .ok (.sh (fq (a * b)))
theorem ov_add {M a b c : Nat} {x y : Rat} (hx : Ov M a x) (hy : Ov M b y) (h0 : 0 < M) (ha : a ≤ c) (hb : b ≤ c) : Ov M (c + 1) (x + y) := by
  obtain ⟨z, rfl, hz⟩ := hx
  obtain ⟨w, rfl, hw⟩ := hy
  have n0 := ne0 h0
  refine ⟨z + w, ?_, natAbs_add_lt (lt_pow hz ha) (lt_pow hw hb)⟩
  have e : ((z + w : Int) : Rat) = (z : Rat) + (w : Rat) := by simp
  rw [e]; grind
theorem ov_zero {M a : Nat} (h0 : 0 < M) : Ov M a 0 := ⟨0, by rw [show ((0 : Int) : Rat) = 0 from rfl, Rat.div_def, Rat.zero_mul], Nat.pow_pos (by decide)⟩
theorem ov_sm {M a : Nat} (h0 : 0 < M) : ∀ {r : Row}, (∀ x ∈ r, Ov M a x) → Ov M (a + r.length) (sm r)
  | [], _ => ov_zero h0
  | x :: r, h => by
    have ih := ov_sm h0 (r := r) fun y hy => h y (List.mem_cons_of_mem _ hy)
    have := ov_add (h x List.mem_cons_self) ih h0 (c := a + r.length) (by omega) (Nat.le_refl _)
    rw [List.length_cons, ← Nat.add_assoc]
    exact this
/-! ### sum_of -/
def bSumOf (ad : Nat) : List S := [.set 1 (.tup [(.int 0), (.int 1)]), .fr .seq [2] [(.var 0)] [.set 1 (.call ad [(.var 1), (.var 2)])] [2], .ret (.var 1)]
theorem sumof_loop {ad : Nat} (h : AddOk Φ ad) {M A : Nat} (h0 : 0 < M) (X : Option SV) : ∀ (r : Row) (B : Nat) (a : Rat), Ov M B a → (∀ x ∈ r, Ov M A x) → A ≤ B → M < 2 ^ A → B + r.length < 4500 →
    forR [2] 0 (frB Φ [2] [.set 1 (.call ad [(.var 1), (.var 2)])]) (r.map fq) ⟨[X, some (.sh (fq a)), none], []⟩ = .nx ⟨[X, some (.sh (fq (a + sm r))), none], []⟩
  | [], B, a, _, _, _, _, _ => by
    have e : a + sm [] = a := by show a + 0 = a; grind
    rw [e]; rfl
  | x :: r, B, a, ha, hr, hAB, hM, hB => by
    rw [List.length_cons] at hB
    have hx := hr x List.mem_cons_self
    have ad1 := h B a x (ha.bd h0 (lt_pow hM hAB)) ((Ov.mono hx hAB).bd h0 (lt_pow hM hAB)) (by omega)
    have ih := sumof_loop h h0 X r (B + 1) (a + x) (ov_add ha hx h0 (Nat.le_refl _) hAB) (fun y hy => hr y (List.mem_cons_of_mem _ hy)) (by omega) hM (by omega)
    have e : a + x + sm r = a + sm (x :: r) := by rw [sm]; grind
    rw [e] at ih
    rw [List.map_cons, forR_cons, ← ih]
    generalize fq (a + x) = R1 at *
    generalize fq a = R2 at *
    generalize fq x = R3 at *
    simp -implicitDefEqProofs [frB, ad1]
theorem fq0 : fq 0 = .tup [.int 0, .int 1] := rfl
theorem sumof_run {ad : Nat} (h : AddOk Φ ad) {A : Nat} {r : Row} {X : D} (hX : IsF X r) (hr : BRow A r) (hA : A + r.length < 4500) : endR (exSs Φ (bSumOf ad) (enter 3 [X])) = .ok (.sh (fq (sm r))) := by
  obtain ⟨M, h0, hM, hr⟩ := hr
  have loop := sumof_loop h h0 (some (.sh X)) r A 0 (ov_zero h0) hr (Nat.le_refl _) hM hA
  have e : (0 : Rat) + sm r = sm r := by grind
  rw [e, fq0] at loop
  have src := hX.src
  generalize fq (sm r) = R1 at *
  generalize r.map fq = RM at *
  simp -implicitDefEqProofs [bSumOf, src, loop, two_le_LINE]
/-! ### whole_parts -/
def tWp : List S := [.set 1 (.op .fdiv (.op .mul (.var 1) (.idx (.var 2) (.int 1))) (.bi .gcd [(.var 1), (.idx (.var 2) (.int 1))]))]
theorem lcm_eq (c d : Nat) : ((c : Int) * (d : Int)) / ((Nat.gcd c d : Nat) : Int) = ((Nat.lcm c d : Nat) : Int) := by
  rw [Nat.lcm, Int.natCast_ediv, Int.natCast_mul]
theorem wp_loop {g : E} (hg : ∀ (c : Nat) (q : Rat) (Δ : List (Option D)), Δ[1]? = some (some (.int (c : Int))) → Δ[2]? = some (some (fq q)) → ev Φ g Δ = .ok (.int ((Nat.gcd c q.den : Nat) : Int))) {A : Nat} (hA : A < 9000) (X : Option SV) (Ys : List (Option SV)) : ∀ (e : Row) (c B : Nat), 0 < c → c < 2 ^ B → B + A * e.length < 500000 → (∀ q ∈ e, Bd A q) →
    forR [2] 0 (frB Φ [2] [.set 1 (.op .fdiv (.op .mul (.var 1) (.idx (.var 2) (.int 1))) g)]) (e.map fq) ⟨X :: some (.sh (.int c)) :: none :: Ys, []⟩ = .nx ⟨X :: some (.sh (.int (lcs e c : Nat))) :: none :: Ys, []⟩ ∧ lcs e c < 2 ^ (B + A * e.length)
  | [], c, B, h0, h1, h2, _ => ⟨rfl, (by show c < _; simpa using h1)⟩
  | q :: e, c, B, h0, h1, h2, hb => by
    have bq := hb q List.mem_cons_self
    have hl : Nat.lcm c q.den < 2 ^ (B + A) := by
      have : Nat.lcm c q.den ≤ c * q.den := Nat.le_of_dvd (Nat.mul_pos h0 q.den_pos) (Nat.lcm_dvd (Nat.dvd_mul_right _ _) (Nat.dvd_mul_left _ _))
      have h3 : c * q.den < 2 ^ (B + A) := by rw [Nat.pow_add]; exact Nat.mul_lt_mul'' h1 bq.2
      omega
    rw [List.length_cons, Nat.mul_add] at h2
    obtain ⟨ih, ih2⟩ := wp_loop hg hA X Ys e (Nat.lcm c q.den) (B + A) (Nat.lcm_pos h0 q.den_pos) hl (by omega) fun x hx => hb x (List.mem_cons_of_mem _ hx)
    constructor
    · have m := opm (natAbs_lt' h1) (natAbs_lt' bq.2) (by omega)
      have gl : Nat.gcd c q.den < 2 ^ A := Nat.lt_of_le_of_lt (Nat.le_of_dvd q.den_pos (Nat.gcd_dvd_right _ _)) bq.2
      have gp : 0 < Nat.gcd c q.den := Nat.gcd_pos_of_pos_left _ h0
      have d := op2_fdiv (i := (c : Int) * (q.den : Int)) (divOk_of (j := ((Nat.gcd c q.den : Nat) : Int)) (a := A) (by omega) (by simpa using gl) hA)
      rw [lcm_eq] at d
      rw [List.map_cons, forR_cons]
      show _ = Out.nx ⟨X :: some (.sh (.int (lcs e (Nat.lcm c q.den) : Nat))) :: none :: Ys, []⟩
      rw [← ih]
      have j1 := ix_fq1 q
      have gg := hg c q (snap ⟨X :: some (.sh (.int c)) :: some (.sh (fq q)) :: Ys, []⟩) rfl rfl
      have gm := hg c q (mask ⟨X :: some (.sh (.int c)) :: some (.sh (fq q)) :: Ys, []⟩) rfl rfl
      generalize Nat.lcm c q.den = LL at *
      generalize fq q = FQ at *
      generalize Nat.gcd c q.den = GG at *
      generalize q.den = DD at *
      simp -implicitDefEqProofs at gg gm
      simp -implicitDefEqProofs [frB, j1, m, gg, gm, d]
    · show lcs e (Nat.lcm c q.den) < _
      rw [List.length_cons, Nat.mul_add]
      exact lt_pow ih2 (by omega)
theorem wp_num {A L : Nat} {e : Row} (hA : A < 9000) (hb : ∀ q ∈ e, Bd A q) (hs : L + A < 500000) (small : Lc e < 2 ^ L) {q : Rat} (hq : q ∈ e) : op2 .fdiv (.int (Lc e : Nat)) (.int (q.den : Int)) = .ok (.int ((Lc e / q.den : Nat) : Int)) ∧ op2 .mul (.int q.num) (.int ((Lc e / q.den : Nat) : Int)) = .ok (.int (q.num * ((Lc e / q.den : Nat) : Int))) ∧ op2 .mul (.int (-q.num)) (.int ((Lc e / q.den : Nat) : Int)) = .ok (.int (-(q.num * ((Lc e / q.den : Nat) : Int)))) := by
  have bq := hb q hq
  have d := op2_fdiv (i := ((Lc e : Nat) : Int)) (divOk_of (j := (q.den : Int)) (a := A) (den_pos q) (natAbs_lt' bq.2) hA)
  rw [← Int.natCast_ediv] at d
  have hle : Lc e / q.den < 2 ^ L := Nat.lt_of_le_of_lt (Nat.div_le_self _ _) small
  have m2 := opm (i := -q.num) (A := A) (by rw [Int.natAbs_neg]; exact bq.1) (natAbs_lt' hle) (by omega)
  rw [Int.neg_mul] at m2
  exact ⟨d, opm bq.1 (natAbs_lt' hle) (by omega), m2⟩
def bWp : List S := [.set 1 (.int 1), .fr .seq [2] [(.var 0)] tWp [2], .ret (.bi .tuple [(.comp .seq [2] [(.var 0)] [] (.op .mul (.idx (.var 2) (.int 0)) (.op .fdiv (.var 1) (.idx (.var 2) (.int 1)))))])]
theorem wparts_run {A : Nat} {e : Row} {X : D} (hX : IsF X e) (hA : A < 9000) (hb : ∀ q ∈ e, Bd A q) (hl : e.length ≤ 1000000) (hs : 1 + A * e.length + A < 500000) : endR (exSs Φ bWp (enter 3 [X])) = .ok (.sh (.tup ((wp e).map .int))) := by
  obtain ⟨loop, small⟩ := wp_loop (Φ := Φ) (g := .bi .gcd [(.var 1), (.idx (.var 2) (.int 1))]) (fun c q Δ d1 d2 => by
    have j1 := ix_fq1 q
    have g : bi .gcd [.int (c : Int), .int (q.den : Int)] = .ok (.int ((Nat.gcd c q.den : Nat) : Int)) := rfl
    generalize fq q = FQ at *
    generalize q.den = DD at *
    generalize Nat.gcd c DD = GG at *
    simp -implicitDefEqProofs [d1, d2, j1, g]) hA (some (.sh X)) [] e 1 1 (by decide) (by decide) (by omega) hb
  have loop : forR [2] 0 (frB Φ [2] tWp) (e.map fq) ⟨[some (.sh X), some (.sh (.int 1)), none], []⟩ = .nx ⟨[some (.sh X), some (.sh (.int (Lc e : Nat))), none], []⟩ := loop
  have comp : ev Φ (.comp .seq [2] [(.var 0)] [] (.op .mul (.idx (.var 2) (.int 0)) (.op .fdiv (.var 1) (.idx (.var 2) (.int 1))))) [some X, some (.int (Lc e : Nat)), none] = .ok (.lst ((wp e).map .int)) := by
    have e1 : (wp e).map D.int = e.map fun q => D.int (q.num * ((Lc e / q.den : Nat) : Int)) := by unfold wp; rw [List.map_map]; rfl
    rw [e1]
    refine comp_ok fq _ ?_ (len_le hl) fun q hq => ⟨_, rfl, ?_⟩
    · have := hX.src
      simp -implicitDefEqProofs [this]
    · obtain ⟨d, m, _⟩ := wp_num (e := e) (L := 1 + A * e.length) hA hb (by omega) small hq
      have j0 := ix_fq0 q
      have j1 := ix_fq1 q
      generalize fq q = FQ at *
      generalize Lc e / q.den = GG at *
      simp -implicitDefEqProofs [j0, j1, m, d]
  have src := hX.src
  have tb : bi .tuple [.lst ((wp e).map D.int)] = .ok (.tup ((wp e).map D.int)) := rfl
  generalize (wp e).map D.int = WW at *
  generalize Lc e = LL at *
  generalize e.map fq = FM at *
  simp -implicitDefEqProofs [-p_ev_comp, bWp, src, loop, comp, tb]
end
end R.N
end

section
set_option Elab.async false
set_option linter.all false
set_option maxRecDepth 100000
/-! N3: the falling order, sorted sums, pairs, in any text. -/
namespace R.N
open R R.V
/-! ### the order of the greatest -/
def ix0 (n : Nat) : List Int := (List.range n).map fun k => ((k : Nat) : Int)
def ords (xs : List Int) : List Int := (ix0 xs.length).mergeSort (kLe fun n => kNum true (xs.getD n.toNat 0))
theorem kLe_trans (x : Int → Int) (a b c : Int) (h1 : kLe x a b = true) (h2 : kLe x b c = true) : kLe x a c = true := by
  unfold kLe at *; simp only [decide_eq_true_eq] at *; omega
theorem kLe_total (x : Int → Int) (a b : Int) : (kLe x a b || kLe x b a) = true := by
  unfold kLe; simp only [Bool.or_eq_true, decide_eq_true_eq]; omega
theorem ords_perm (xs : List Int) : (ords xs).Perm (ix0 xs.length) := List.mergeSort_perm _ _
theorem ords_len (xs : List Int) : (ords xs).length = xs.length := by rw [(ords_perm xs).length_eq]; simp [ix0]
theorem ords_mem {xs : List Int} {z : Int} (h : z ∈ ords xs) : 0 ≤ z ∧ z < xs.length := by
  have := (ords_perm xs).mem_iff.mp h
  unfold ix0 at this
  obtain ⟨k, hk, rfl⟩ := List.mem_map.mp this
  have := List.mem_range.mp hk
  omega
theorem ords_pw (xs : List Int) : (ords xs).Pairwise fun p q => kLe (fun n => kNum true (xs.getD n.toNat 0)) p q = true :=
  List.pairwise_mergeSort (fun a b c => kLe_trans _ a b c) (fun a b => kLe_total _ a b) _
theorem ix_map (r : Row) : (ix0 r.length).map (fun z => at_ r z.toNat) = r := by
  unfold ix0
  rw [List.map_map]
  apply List.ext_getElem
  · simp
  · intro i h1 h2
    simp [at_, List.getD, h2]
theorem ords_srt (r : Row) : (ords (wp r)).map (fun z => at_ r z.toNat) = srt r := by
  refine srt_uniq ?_ ?_
  · unfold Dsc
    rw [List.pairwise_map]
    have pw := ords_pw (wp r)
    have hm : ∀ z ∈ ords (wp r), 0 ≤ z ∧ z.toNat < r.length := fun z hz => by
      have := ords_mem hz
      rw [len_wp] at this
      omega
    refine (List.pairwise_iff_getElem.mpr fun i j hi hj hij => ?_)
    have h := List.pairwise_iff_getElem.mp pw i j hi hj hij
    have m1 := hm _ (List.getElem_mem hi)
    have m2 := hm _ (List.getElem_mem hj)
    generalize (ords (wp r))[i] = p at *
    generalize (ords (wp r))[j] = q at *
    unfold kLe kNum at h
    simp only [decide_eq_true_eq, if_true] at h
    have a1 := atI_wp (e := r) m1.2
    have a2 := atI_wp (e := r) m2.2
    unfold atI_ at a1 a2
    have le : (wp r).getD q.toNat 0 ≤ (wp r).getD p.toNat 0 := by omega
    generalize (wp r).getD q.toNat 0 = N1 at *
    generalize (wp r).getD p.toNat 0 = N2 at *
    have lc : (0 : Rat) < ((Lc r : Int) : Rat) := by
      have := Lc_pos r
      have e : ((0 : Int) : Rat) < ((Lc r : Int) : Rat) := Rat.intCast_lt_intCast.mpr (by omega)
      simpa using e
    have le2 : (N1 : Rat) ≤ (N2 : Rat) := Rat.intCast_le_intCast.mpr le
    rw [a1, a2] at le2
    exact Rat.le_of_mul_le_mul_right le2 lc
  · have := (ords_perm (wp r)).map (fun z => at_ r z.toNat)
    rw [len_wp, ix_map] at this
    exact this
theorem ints_map : ∀ xs : List Int, D.ints (xs.map .int) = some xs
  | [] => rfl
  | x :: xs => by rw [List.map_cons, D.ints, ints_map xs]; rfl
theorem intsOf_tup (xs : List Int) : intsOf (.tup (xs.map .int)) = some xs := ints_map xs
theorem srt_ok (xs : List Int) : srtR true (.lst ((ix0 xs.length).map .int)) (some (.tup (xs.map .int))) = .ok (.lst ((ords xs).map .int)) := by
  have all : ((ix0 xs.length).all fun n => decide (0 ≤ n) && decide (n < xs.length)) = true := by
    rw [List.all_eq_true]
    intro z hz
    unfold ix0 at hz
    obtain ⟨k, hk, rfl⟩ := List.mem_map.mp hz
    have := List.mem_range.mp hk
    simp [this]
  unfold srtR
  simp only [ints_map, Option.bind_some, intsOf_tup]
  rw [if_pos all]
  rfl
theorem pairs_map : ∀ ps : List (Int × Int), D.pairs (ps.map pD) = some ps
  | [] => rfl
  | p :: ps => by rw [List.map_cons]; unfold pD; rw [D.pairs]; have := pairs_map ps; unfold pD at this; rw [this]; rfl
theorem sortP_ok (ps : List (Int × Int)) : bi .sorted [.lst (ps.map pD)] = .ok (.lst ((ps.mergeSort pLe).map pD)) := by
  cases ps with
  | nil => simp [bi, D.ints, sortI]
  | cons p ps =>
    have e : D.ints ((p :: ps).map pD) = none := rfl
    have e2 := pairs_map (p :: ps)
    simp only [bi, e, e2]
theorem ordsP (xs : List Int) : (((List.range xs.length).map fun k => (-(xs.getD k 0), ((k : Nat) : Int))).mergeSort pLe).map (·.2) = ords xs := by
  rw [List.map_mergeSort (s := kLe fun n => kNum true (xs.getD n.toNat 0))]
  · unfold ords ix0
    rw [List.map_map]
    rfl
  · intro a ha b hb
    obtain ⟨i, _, rfl⟩ := List.mem_map.mp ha
    obtain ⟨j, _, rfl⟩ := List.mem_map.mp hb
    unfold pLe kLe kNum
    simp
section
variable {Φ : R.Or}
def FallOk (Φ : R.Or) (f : Nat) : Prop := ∀ (A : Nat) (r : Row) (X : D), IsF X r → (∀ q ∈ r, Bd A q) → r.length ≤ 100 → A ≤ 4000 → Φ f [X] = .ok (.sh (fT (srt r)))
def WpOk (Φ : R.Or) (f : Nat) : Prop := ∀ (A : Nat) (r : Row) (X : D), IsF X r → (∀ q ∈ r, Bd A q) → r.length ≤ 100 → A ≤ 4000 → Φ f [X] = .ok (.sh (.tup ((wp r).map .int)))
def SumOk (Φ : R.Or) (f : Nat) : Prop := ∀ (A : Nat) (r : Row) (X : D), IsF X r → BRow A r → A + r.length < 4500 → Φ f [X] = .ok (.sh (fq (sm r)))
def bFall (w : Nat) : List S := [.set 1 (.call w [(.var 0)]), .srt 2 (.bi .listR1 [(.bi .len [(.var 1)])]) 1 true, .ret (.bi .tuple [(.comp .seq [3] [(.var 2)] [] (.tup [(.idx (.idx (.var 0) (.var 3)) (.int 0)), (.idx (.idx (.var 0) (.var 3)) (.int 1))]))])]
theorem fq_tup (q : Rat) : D.tup [.int q.num, .int (q.den : Int)] = fq q := rfl
theorem rng_ix0 {n : Nat} (h : n ≤ 100000) : bi .listR1 [.int (n : Int)] = .ok (.lst ((ix0 n).map .int)) := by
  have e : rngOk 0 (n : Int) = true := rngOk_of (by omega) (by omega) (by omega) (by omega) (by omega)
  have e2 : rng 0 (n : Int) = (ix0 n).map .int := by rw [rng0]; unfold ix0; rw [List.map_map]; rfl
  show (if rngOk 0 (n : Int) then Res.ok (D.lst (rng 0 n)) else .bad) = _
  rw [if_pos e, e2]
theorem fall_run {w : Nat} (hw : WpOk Φ w) {A : Nat} {r : Row} {X : D} (hX : IsF X r) (hb : ∀ q ∈ r, Bd A q) (hl : r.length ≤ 100) (hA : A ≤ 4000) : endR (exSs Φ (bFall w) (enter 4 [X])) = .ok (.sh (fT (srt r))) := by
  have w1 := hw A r X hX hb hl hA
  have so := srt_ok (wp r)
  have ln : bi .len [.tup ((wp r).map D.int)] = .ok (.int ((wp r).length : Int)) := by rw [bi_lenT, List.length_map]
  have rg := rng_ix0 (n := (wp r).length) (by rw [len_wp]; omega)
  have comp : ev Φ (.comp .seq [3] [(.var 2)] [] (.tup [(.idx (.idx (.var 0) (.var 3)) (.int 0)), (.idx (.idx (.var 0) (.var 3)) (.int 1))])) [some X, some (.tup ((wp r).map D.int)), some (.lst ((ords (wp r)).map .int)), none] = .ok (fL (srt r)) := by
    unfold fL
    rw [← ords_srt, List.map_map]
    refine comp_ok D.int _ rfl (len_le (by rw [ords_len, len_wp]; omega)) fun z hz => ⟨_, rfl, ?_⟩
    have m := ords_mem hz
    rw [len_wp] at m
    obtain ⟨k, rfl⟩ : ∃ k : Nat, z = (k : Int) := ⟨z.toNat, by omega⟩
    have i1 := hX.ix (j := k) (by omega)
    have j0 := ix_fq0 (at_ r k)
    have j1 := ix_fq1 (at_ r k)
    have jt := fq_tup (at_ r k)
    show _ = Res.ok (fq (at_ r ((k : Int)).toNat))
    rw [show ((k : Int)).toNat = k from rfl]
    generalize fq (at_ r k) = FQ at *
    generalize (at_ r k).num = NN at *
    generalize (at_ r k).den = DD at *
    generalize (wp r).map D.int = W at *
    generalize (ords (wp r)).map D.int = O at *
    simp -implicitDefEqProofs [i1, j0, j1, jt, two_le_LINE]
  have tb : bi .tuple [fL (srt r)] = .ok (fT (srt r)) := rfl
  generalize fL (srt r) = FF at *
  generalize fT (srt r) = FG at *
  generalize (wp r).map D.int = W at *
  generalize (wp r).length = WL at *
  generalize (ix0 WL).map D.int = IX at *
  generalize (ords (wp r)).map D.int = O at *
  simp -implicitDefEqProofs [-p_ev_comp, bFall, w1, ln, rg, so, comp, tb]
/-! ### sums of the greatest -/
def pre (r : Row) : Row := (List.range (r.length + 1)).map fun k => sm (r.take k)
theorem cut_to (xs : List D) (k : Nat) : cutD xs none (some (k : Int)) = xs.take k := by
  have n0 : ¬ ((k : Int) < 0) := by omega
  have e1 : HT.sIx xs.length 0 none = 0 := rfl
  have e2 : HT.sIx xs.length xs.length (some (k : Int)) = min k xs.length := by
    show (if (k : Int) < 0 then ((k : Int) + (xs.length : Int)).toNat else min (k : Int).toNat xs.length) = _
    rw [if_neg n0]; rfl
  unfold cutD
  rw [e1, e2, List.drop_zero, Nat.sub_zero]
  rcases Nat.le_total k xs.length with h | h
  · rw [Nat.min_eq_left h]
  · rw [Nat.min_eq_right h, List.take_of_length_le h, List.take_length]
def bSums (f so : Nat) : List S := [.set 1 (.call f [(.var 0)]), .ret (.bi .tuple [(.comp .r1 [2] [(.op .add (.bi .len [(.var 1)]) (.int 1))] [] (.call so [(.shi (.var 1) (.var 2))]))])]
theorem brow_sub {A : Nat} {r s : Row} (h : BRow A r) (hs : ∀ x ∈ s, x ∈ r) : BRow A s := by
  obtain ⟨M, h0, h1, h2⟩ := h
  exact ⟨M, h0, h1, fun x hx => h2 x (hs x hx)⟩
theorem brow_srt {A : Nat} {r : Row} (h : BRow A r) : BRow A (srt r) := brow_sub h fun x hx => (srt_perm r).mem_iff.mp hx
def SumsOk (Φ : R.Or) (f : Nat) : Prop := ∀ (A : Nat) (r : Row) (X : D), IsF X r → BRow A r → r.length ≤ 100 → A ≤ 4000 → Φ f [X] = .ok (.sh (fT (pre (srt r))))
theorem len_fT (r : Row) : bi .len [fT r] = .ok (.int (r.length : Int)) := IsF.len (.inr rfl)
theorem sums_run {f so : Nat} (hf : FallOk Φ f) (hs : SumOk Φ so) {A : Nat} {r : Row} {X : D} (hX : IsF X r) (hr : BRow A r) (hl : r.length ≤ 100) (hA : A ≤ 4000) : endR (exSs Φ (bSums f so) (enter 3 [X])) = .ok (.sh (fT (pre (srt r)))) := by
  have f1 := hf A r X hX (fun q hq => hr.bd hq) hl hA
  have ln := len_fT (srt r)
  have comp : ev Φ (.comp .r1 [2] [(.op .add (.bi .len [(.var 1)]) (.int 1))] [] (.call so [(.shi (.var 1) (.var 2))])) [some X, some (fT (srt r)), none] = .ok (fL (pre (srt r))) := by
    unfold fL pre
    rw [List.map_map]
    refine comp_rg (n := (srt r).length + 1) ?_ (by rw [srt_len]; omega) fun k hk => ?_
    · simp -implicitDefEqProofs [ln]
    · have c : slR (fT (srt r)) none (some (k : Int)) = .ok (fT ((srt r).take k)) := by
        show Res.ok (D.tup (cutD _ _ _)) = _
        rw [cut_to, ← List.map_take]
        rfl
      have s1 := hs A ((srt r).take k) (fT ((srt r).take k)) (.inr rfl) (brow_sub (brow_srt hr) fun x hx => List.mem_of_mem_take hx) (by rw [List.length_take, srt_len]; omega)
      show _ = Res.ok (fq (sm ((srt r).take k)))
      generalize fq (sm ((srt r).take k)) = R1 at *
      generalize fT ((srt r).take k) = R2 at *
      generalize fT (srt r) = R3 at *
      simp -implicitDefEqProofs [c, s1]
  have tb : bi .tuple [fL (pre (srt r))] = .ok (fT (pre (srt r))) := rfl
  generalize fL (pre (srt r)) = FF at *
  generalize fT (pre (srt r)) = FG at *
  generalize fT (srt r) = FH at *
  simp -implicitDefEqProofs [-p_ev_comp, bSums, f1, comp, tb]
/-! ### pairs -/
def bPairE (ad : Nat) : E := .comp .r1 [1] [(.op .fdiv (.bi .len [(.var 0)]) (.int 2))] [] (.call ad [(.idx (.var 0) (.op .mul (.int 2) (.var 1))), (.idx (.var 0) (.op .add (.op .mul (.int 2) (.var 1)) (.int 1)))])
theorem pair_ev {ad : Nat} (h : AddOk Φ ad) {A : Nat} {r : Row} {X : D} (hX : IsF X r) (hb : ∀ q ∈ r, Bd A q) (hl : r.length ≤ 1000) (hA : A ≤ 4000) : ev Φ (bPairE ad) [some X, none] = .ok (fL (pr r)) := by
  have ln := hX.len
  have e : fL (pr r) = .lst ((List.range (r.length / 2)).map fun k => fq (at_ (pr r) k)) := by
    unfold fL
    congr 1
    apply List.ext_getElem
    · simp [pr_len]
    · intro i h1 h2
      simp only [List.length_map] at h1
      simp [at_, List.getD, h1]
  rw [e]
  refine comp_rg (n := r.length / 2) ?_ (by omega) fun k hk => ?_
  · have d := op2_fdiv (i := (r.length : Int)) (j := 2) (by decide +kernel)
    rw [show (r.length : Int) / 2 = ((r.length / 2 : Nat) : Int) by omega] at d
    simp -implicitDefEqProofs [ln, d]
  · obtain ⟨a, b, e1, e2, e3⟩ := pr_get (l := r) (k := k) (by omega)
    have i1 := hX.ix (j := 2 * k) (by omega)
    have i2 := hX.ix (j := 2 * k + 1) (by omega)
    have v1 : at_ r (2 * k) = a := by unfold at_; simp [List.getD, e1]
    have v2 : at_ r (2 * k + 1) = b := by unfold at_; simp [List.getD, e2]
    have v3 : at_ (pr r) k = a + b := by unfold at_; simp [List.getD, e3]
    have ad1 := h A a b (hb a (List.mem_of_getElem? e1)) (hb b (List.mem_of_getElem? e2)) (by omega)
    rw [v3]
    rw [v1] at i1
    rw [v2] at i2
    have c1 : ((2 * k : Nat) : Int) = 2 * (k : Int) := by omega
    have c2 : ((2 * k + 1 : Nat) : Int) = 2 * (k : Int) + 1 := by omega
    rw [c1] at i1
    rw [c2] at i2
    have m := op2_mul (i := 2) (j := (k : Int)) (mul_small (by decide) (by omega))
    generalize fq (a + b) = R1 at *
    generalize fq a = R2 at *
    generalize fq b = R3 at *
    simp -implicitDefEqProofs [i1, i2, ad1, m]
def bPairT (ad : Nat) : List S := [.ret (.bi .tuple [bPairE ad])]
def bPairL (ad : Nat) : List S := [.ret (bPairE ad)]
theorem pairT_run {ad : Nat} (h : AddOk Φ ad) {A : Nat} {r : Row} {X : D} (hX : IsF X r) (hb : ∀ q ∈ r, Bd A q) (hl : r.length ≤ 1000) (hA : A ≤ 4000) : endR (exSs Φ (bPairT ad) (enter 2 [X])) = .ok (.sh (fT (pr r))) := by
  have e := pair_ev h hX hb hl hA
  have tb : bi .tuple [fL (pr r)] = .ok (fT (pr r)) := rfl
  generalize fL (pr r) = FF at *
  generalize fT (pr r) = FG at *
  unfold bPairT
  generalize bPairE ad = EE at *
  simp -implicitDefEqProofs [e, tb]
theorem pairL_run {ad : Nat} (h : AddOk Φ ad) {A : Nat} {r : Row} {X : D} (hX : IsF X r) (hb : ∀ q ∈ r, Bd A q) (hl : r.length ≤ 1000) (hA : A ≤ 4000) : endR (exSs Φ (bPairL ad) (enter 2 [X])) = .ok (.sh (fL (pr r))) := by
  have e := pair_ev h hX hb hl hA
  generalize fL (pr r) = FF at *
  unfold bPairL
  generalize bPairE ad = EE at *
  simp -implicitDefEqProofs [e]
theorem brow_pr {A : Nat} {r : Row} (h : BRow A r) : BRow (A + 1) (pr r) := by
  obtain ⟨M, h0, h1, h2⟩ := h
  refine ⟨M, h0, lt_pow h1 (by omega), fun x hx => ?_⟩
  obtain ⟨a, ha, b, hb, rfl⟩ := pr_mem hx
  exact ov_add (h2 a ha) (h2 b hb) h0 (Nat.le_refl _) (Nat.le_refl _)
end
end R.N
end

section
set_option Elab.async false
set_option linter.all false
set_option maxRecDepth 100000
/-! N4: the shares of a round, the law's own order and sums, in any text. -/
namespace R.N
open R R.V
/-! ### shares -/
structure XOk (a b : Int) : Prop where
  a0 : 0 < a
  b0 : 0 < b
  s : a + b < 64
def p1 (a b : Int) : Rat := (b : Rat) / ((a + b : Int) : Rat)
def p2 (a b : Int) : Rat := (a : Rat) / ((a + b : Int) : Rat)
def shs (a b : Int) (r : Row) : Row := r.flatMap fun q => [q * p1 a b, q * p2 a b]
theorem shs_cons (a b : Int) (q : Rat) (r : Row) : shs a b (q :: r) = q * p1 a b :: q * p2 a b :: shs a b r := rfl
theorem shs_len (a b : Int) : ∀ r : Row, (shs a b r).length = 2 * r.length
  | [] => rfl
  | q :: r => by rw [shs_cons, List.length_cons, List.length_cons, shs_len a b r, List.length_cons]; omega
theorem XOk.ov {a b : Int} (h : XOk a b) : ∃ N : Nat, 0 < N ∧ N < 2 ^ 6 ∧ Ov N 6 (p1 a b) ∧ Ov N 6 (p2 a b) := by
  obtain ⟨h1, h2, h3⟩ := h
  refine ⟨(a + b).toNat, by omega, by omega, ⟨b, ?_, by omega⟩, ⟨a, ?_, by omega⟩⟩
  · unfold p1; rw [show (((a + b).toNat : Nat) : Int) = a + b by omega]
  · unfold p2; rw [show (((a + b).toNat : Nat) : Int) = a + b by omega]
theorem XOk.bd {a b : Int} (h : XOk a b) : Bd 6 (p1 a b) ∧ Bd 6 (p2 a b) := by
  obtain ⟨N, h0, h1, h2, h3⟩ := h.ov
  exact ⟨h2.bd h0 h1, h3.bd h0 h1⟩
theorem brow_shs {a b : Int} (h : XOk a b) {A : Nat} {r : Row} (hr : BRow A r) : BRow (A + 6) (shs a b r) := by
  obtain ⟨N, n0, n1, o1, o2⟩ := h.ov
  obtain ⟨M, h0, h1, h2⟩ := hr
  refine ⟨M * N, Nat.mul_pos h0 n0, by rw [Nat.pow_add]; exact Nat.mul_lt_mul'' h1 n1, fun x hx => ?_⟩
  unfold shs at hx
  obtain ⟨q, hq, hx⟩ := List.mem_flatMap.mp hx
  rcases List.mem_cons.mp hx with rfl | hx
  · exact ov_mul (h2 q hq) o1 h0 n0
  · rw [List.mem_singleton] at hx
    subst hx
    exact ov_mul (h2 q hq) o2 h0 n0
section
variable {Φ : R.Or}
/-- a pair of ints: a list or a tuple -/
def IsX (d : D) (a b : Int) : Prop := d = .lst [.int a, .int b] ∨ d = .tup [.int a, .int b]
theorem IsX.i0 {d : D} {a b : Int} (h : IsX d a b) : ixR d (.int 0) = .ok (.int a) := by rcases h with rfl | rfl <;> rfl
theorem IsX.i1 {d : D} {a b : Int} (h : IsX d a b) : ixR d (.int 1) = .ok (.int b) := by rcases h with rfl | rfl <;> rfl
theorem fr_p {c : Nat} (hc : FrOk Φ c) {a b : Int} (h : XOk a b) : Φ c [.int b, .int (a + b)] = .ok (.sh (fq (p1 a b))) ∧ Φ c [.int a, .int (a + b)] = .ok (.sh (fq (p2 a b))) := by
  obtain ⟨h1, h2, h3⟩ := h
  refine ⟨?_, ?_⟩
  · rw [hc b (a + b) 6 6 (by omega) (by omega) (by decide) (by omega) (by decide), fq_div (by omega)]; rfl
  · rw [hc a (a + b) 6 6 (by omega) (by omega) (by decide) (by omega) (by decide), fq_div (by omega)]; rfl
def bRS (ra ti : Nat) : List S := [.set 2 (.tup [(.call ra [(.idx (.var 1) (.int 1)), (.op .add (.idx (.var 1) (.int 0)) (.idx (.var 1) (.int 1)))]), (.call ra [(.idx (.var 1) (.int 0)), (.op .add (.idx (.var 1) (.int 0)) (.idx (.var 1) (.int 1)))])]), .ret (.comp2 .seq [3] [(.var 0)] [] .seq [4] [(.var 2)] [] (.call ti [(.var 3), (.var 4)]))]
theorem tim_p {ti : Nat} (h : TimOk Φ ti) {A : Nat} {q p : Rat} (hq : Bd A q) (hp : Bd 6 p) (hA : A ≤ 4000) : Φ ti [fq q, fq p] = .ok (.sh (fq (q * p))) :=
  h (A + 6) q p ⟨lt_pow hq.1 (by omega), lt_pow hq.2 (by omega)⟩ ⟨lt_pow hp.1 (by omega), lt_pow hp.2 (by omega)⟩ (by omega)
theorem rs_run {ra ti : Nat} (hr : FrOk Φ ra) (ht : TimOk Φ ti) {a b : Int} (hx : XOk a b) {X F : D} (hX : IsX X a b) {A : Nat} {r : Row} (hF : IsF F r) (hb : ∀ q ∈ r, Bd A q) (hl : r.length ≤ 1000) (hA : A ≤ 4000) : endR (exSs Φ (bRS ra ti) (enter 5 [F, X])) = .ok (.sh (fL (shs a b r))) := by
  obtain ⟨f1, f2⟩ := fr_p hr hx
  obtain ⟨d1, d2⟩ := hx.bd
  have i0 := hX.i0
  have i1 := hX.i1
  have comp : ev Φ (.comp2 .seq [3] [(.var 0)] [] .seq [4] [(.var 2)] [] (.call ti [(.var 3), (.var 4)])) [some F, some X, some (.tup [fq (p1 a b), fq (p2 a b)]), none, none] = .ok (fL (shs a b r)) := by
    rw [ev_comp2C]
    unfold evC2
    have src := hF.src
    have e0 : evs Φ [(.var 0)] [some F, some X, some (.tup [fq (p1 a b), fq (p2 a b)]), none, none] = .ok [F] := rfl
    rw [e0, Res.bind_ok, src, Res.bind_ok]
    rw [mapR_all (i := fq) (g := fun q => [fq (q * p1 a b), fq (q * p2 a b)])]
    · rw [noEx_ok', Res.bind_ok]
      have e : (r.map fun q => [fq (q * p1 a b), fq (q * p2 a b)]).flatten = (shs a b r).map fq := by
        unfold shs
        rw [List.map_flatMap, List.flatMap_def]
        rfl
      rw [e, if_pos (by rw [List.length_map, shs_len]; exact len_le (by omega))]
      rfl
    · intro q hq
      have t1 := tim_p ht (hb q hq) d1 hA
      have t2 := tim_p ht (hb q hq) d2 hA
      generalize fq (q * p1 a b) = R1 at *
      generalize fq (q * p2 a b) = R2 at *
      generalize fq (p1 a b) = R3 at *
      generalize fq (p2 a b) = R4 at *
      generalize fq q = R5 at *
      simp -implicitDefEqProofs [mapR, t1, t2]
  generalize fL (shs a b r) = FF at *
  generalize fq (p1 a b) = R3 at *
  generalize fq (p2 a b) = R4 at *
  simp -implicitDefEqProofs [-p_ev_comp2, bRS, i0, i1, f1, f2, comp, two_le_LINE]
/-! the law's own -/
def bLSh (fr ti : Nat) : List S := [.set 2 (.lst [(.call fr [(.idx (.var 1) (.int 1)), (.op .add (.idx (.var 1) (.int 0)) (.idx (.var 1) (.int 1)))]), (.call fr [(.idx (.var 1) (.int 0)), (.op .add (.idx (.var 1) (.int 0)) (.idx (.var 1) (.int 1)))])]), .set 3 (.lst []), .fr .seq [4] [(.var 0)] [.set 3 (.op .add (.var 3) (.lst [(.call ti [(.var 4), (.idx (.var 2) (.int 0))]), (.call ti [(.var 4), (.idx (.var 2) (.int 1))])]))] [4], .ret (.var 3)]
theorem op_app {xs ys : List D} (h : xs.length + ys.length ≤ 1000000) : op2 .add (.lst xs) (.lst ys) = .ok (.lst (xs ++ ys)) := by
  show (if xs.length + ys.length ≤ LINE then _ else _) = _
  rw [if_pos (len_le h)]
theorem lsh_loop {ti : Nat} (ht : TimOk Φ ti) {a b : Int} (hx : XOk a b) {A : Nat} (hA : A ≤ 4000) (U V : Option SV) : ∀ (r t : Row), (∀ q ∈ r, Bd A q) → t.length + 2 * r.length ≤ 1000000 →
    forR [4] 0 (frB Φ [4] [.set 3 (.op .add (.var 3) (.lst [(.call ti [(.var 4), (.idx (.var 2) (.int 0))]), (.call ti [(.var 4), (.idx (.var 2) (.int 1))])]))]) (r.map fq) ⟨[U, V, some (.sh (.lst [fq (p1 a b), fq (p2 a b)])), some (.sh (fL t)), none], []⟩ = .nx ⟨[U, V, some (.sh (.lst [fq (p1 a b), fq (p2 a b)])), some (.sh (fL (t ++ shs a b r))), none], []⟩
  | [], t, _, _ => by
    rw [show shs a b [] = [] from rfl, List.append_nil]; rfl
  | q :: r, t, hb, hl => by
    rw [List.length_cons] at hl
    obtain ⟨d1, d2⟩ := hx.bd
    have t1 := tim_p ht (hb q List.mem_cons_self) d1 hA
    have t2 := tim_p ht (hb q List.mem_cons_self) d2 hA
    have ih := lsh_loop ht hx hA U V r (t ++ [q * p1 a b, q * p2 a b]) (fun y hy => hb y (List.mem_cons_of_mem _ hy)) (by simp only [List.length_append, List.length_cons, List.length_nil]; omega)
    have e : t ++ [q * p1 a b, q * p2 a b] ++ shs a b r = t ++ shs a b (q :: r) := by rw [shs_cons, List.append_assoc]; rfl
    rw [e] at ih
    have ap : op2 .add (fL t) (.lst [fq (q * p1 a b), fq (q * p2 a b)]) = .ok (fL (t ++ [q * p1 a b, q * p2 a b])) := by
      unfold fL
      rw [op_app (by simp only [List.length_map, List.length_cons, List.length_nil]; omega), List.map_append]
      rfl
    rw [List.map_cons, forR_cons, ← ih]
    generalize fL (t ++ [q * p1 a b, q * p2 a b]) = FF at *
    generalize fL t = FG at *
    have i0 : ixR (.lst [fq (p1 a b), fq (p2 a b)]) (.int 0) = .ok (fq (p1 a b)) := rfl
    have i1 : ixR (.lst [fq (p1 a b), fq (p2 a b)]) (.int 1) = .ok (fq (p2 a b)) := rfl
    generalize fq (q * p1 a b) = R1 at *
    generalize fq (q * p2 a b) = R2 at *
    generalize fq (p1 a b) = R3 at *
    generalize fq (p2 a b) = R4 at *
    generalize fq q = R5 at *
    simp -implicitDefEqProofs [frB, i0, i1, t1, t2, ap, two_le_LINE]
theorem lsh_run {fr ti : Nat} (hr : FrOk Φ fr) (ht : TimOk Φ ti) {a b : Int} (hx : XOk a b) {X F : D} (hX : IsX X a b) {A : Nat} {r : Row} (hF : IsF F r) (hb : ∀ q ∈ r, Bd A q) (hl : r.length ≤ 1000) (hA : A ≤ 4000) : endR (exSs Φ (bLSh fr ti) (enter 5 [F, X])) = .ok (.sh (fL (shs a b r))) := by
  obtain ⟨f1, f2⟩ := fr_p hr hx
  have i0 := hX.i0
  have i1 := hX.i1
  have src := hF.src
  have loop := lsh_loop ht hx hA (some (.sh F)) (some (.sh X)) r [] hb (by simp; omega)
  rw [List.nil_append] at loop
  have e : fL [] = .lst [] := rfl
  rw [e] at loop
  generalize fL (shs a b r) = FF at *
  generalize fq (p1 a b) = R3 at *
  generalize fq (p2 a b) = R4 at *
  generalize r.map fq = RM at *
  simp -implicitDefEqProofs [bLSh, i0, i1, f1, f2, src, loop, two_le_LINE]
/-! ### the law's order -/
def GcdOk (Φ : R.Or) (g : Nat) : Prop := ∀ i j : Int, Φ g [.int i, .int j] = .ok (.sh (.int (gcdI i j)))
def bLOrd (g : Nat) : List S := [.set 1 (.int 1), .fr .seq [2] [(.var 0)] [.set 1 (.op .fdiv (.op .mul (.var 1) (.idx (.var 2) (.int 1))) (.call g [(.var 1), (.idx (.var 2) (.int 1))]))] [2], .ret (.comp .seq [3] [(.bi .sorted [(.comp .r1 [4] [(.bi .len [(.var 0)])] [] (.tup [(.op .mul (.un .neg (.idx (.idx (.var 0) (.var 4)) (.int 0))) (.op .fdiv (.var 1) (.idx (.idx (.var 0) (.var 4)) (.int 1)))), (.var 4)]))])] [] (.idx (.var 3) (.int 1)))]
theorem lord_run {g : Nat} (hg : GcdOk Φ g) {A : Nat} {r : Row} {X : D} (hX : IsF X r) (hb : ∀ q ∈ r, Bd A q) (hl : r.length ≤ 100) (hA : A ≤ 4000) : endR (exSs Φ (bLOrd g) (enter 5 [X])) = .ok (.sh (.lst ((ords (wp r)).map .int))) := by
  have hal : A * r.length ≤ 400000 := by
    have : A * r.length ≤ 4000 * 100 := Nat.mul_le_mul hA hl
    omega
  obtain ⟨loop, small⟩ := wp_loop (Φ := Φ) (g := .call g [(.var 1), (.idx (.var 2) (.int 1))]) (fun c q Δ d1 d2 => by
    have j1 := ix_fq1 q
    have g1 := hg c q.den
    have e : gcdI (c : Int) (q.den : Int) = ((Nat.gcd c q.den : Nat) : Int) := rfl
    rw [e] at g1
    generalize fq q = FQ at *
    generalize q.den = DD at *
    generalize Nat.gcd c DD = GG at *
    simp -implicitDefEqProofs [d1, d2, j1, g1]) (A := A) (by omega) (some (.sh X)) [none, none] r 1 1 (by decide) (by decide) (by omega) hb
  have loop : forR [2] 0 (frB Φ [2] [.set 1 (.op .fdiv (.op .mul (.var 1) (.idx (.var 2) (.int 1))) (.call g [(.var 1), (.idx (.var 2) (.int 1))]))]) (r.map fq) ⟨[some (.sh X), some (.sh (.int 1)), none, none, none], []⟩ = .nx ⟨[some (.sh X), some (.sh (.int (Lc r : Nat))), none, none, none], []⟩ := loop
  have src := hX.src
  have ln := hX.len
  have inner : ev Φ (.comp .r1 [4] [(.bi .len [(.var 0)])] [] (.tup [(.op .mul (.un .neg (.idx (.idx (.var 0) (.var 4)) (.int 0))) (.op .fdiv (.var 1) (.idx (.idx (.var 0) (.var 4)) (.int 1)))), (.var 4)])) [some X, some (.int (Lc r : Nat)), none, none, none] = .ok (.lst (((List.range (wp r).length).map fun k => (-((wp r).getD k 0), ((k : Nat) : Int))).map pD)) := by
    rw [List.map_map, len_wp]
    refine comp_rg (n := r.length) ?_ (by omega) fun k hk => ?_
    · simp -implicitDefEqProofs [ln]
    · have i := hX.ix (j := k) hk
      have hm := at_mem (r := r) (j := k) hk
      obtain ⟨d, _, m⟩ := wp_num (e := r) (L := 1 + A * r.length) (A := A) (by omega) hb (by omega) small hm
      have e : (wp r).getD k 0 = (at_ r k).num * ((Lc r / (at_ r k).den : Nat) : Int) := by
        unfold wp at_
        simp [List.getD, hk]
      show _ = Res.ok (pD (-((wp r).getD k 0), (k : Int)))
      rw [e]
      unfold pD
      have j0 := ix_fq0 (at_ r k)
      have j1 := ix_fq1 (at_ r k)
      generalize fq (at_ r k) = FQ at *
      generalize Lc r / (at_ r k).den = GG at *
      generalize (at_ r k).num = NN at *
      generalize (at_ r k).den = DD at *
      simp -implicitDefEqProofs [i, j0, j1, d, m, two_le_LINE]
  have so := sortP_ok ((List.range (wp r).length).map fun k => (-((wp r).getD k 0), ((k : Nat) : Int)))
  have comp : ev Φ (.comp .seq [3] [(.bi .sorted [(.comp .r1 [4] [(.bi .len [(.var 0)])] [] (.tup [(.op .mul (.un .neg (.idx (.idx (.var 0) (.var 4)) (.int 0))) (.op .fdiv (.var 1) (.idx (.idx (.var 0) (.var 4)) (.int 1)))), (.var 4)]))])] [] (.idx (.var 3) (.int 1))) [some X, some (.int (Lc r : Nat)), none, none, none] = .ok (.lst ((ords (wp r)).map .int)) := by
    rw [← ordsP, List.map_map]
    refine comp_ok pD _ ?_ ?_ fun p hp => ⟨_, rfl, ?_⟩
    · generalize ((List.range (wp r).length).map fun k => (-((wp r).getD k 0), ((k : Nat) : Int))) = PS at *
      rw [p_evs_cons1, p_evs_l0, p_ev_bi, p_evs_cons1, p_evs_l0, inner]
      simp -implicitDefEqProofs [so]
    · rw [List.length_mergeSort, List.length_map, List.length_range, len_wp]; exact len_le (by omega)
    · have : ixR (pD p) (.int 1) = .ok (.int p.2) := rfl
      show _ = Res.ok (D.int p.2)
      generalize pD p = PP at *
      simp -implicitDefEqProofs [this]
  generalize (ords (wp r)).map D.int = OO at *
  generalize Lc r = LL at *
  generalize r.map fq = RM at *
  simp -implicitDefEqProofs [-p_ev_comp, bLOrd, src, loop, comp]
end
end R.N
end

section
set_option Elab.async false
set_option linter.all false
set_option maxRecDepth 100000
/-! N5: comparing, the law's own sums, in any text. -/
namespace R.N
open R R.V
@[simp] theorem p_appP {Φ : R.Or} (j f : Nat) (e1 : E) (kz : Nat) (e2 : E) (s : PSt) : exS Φ (.appP j f e1 kz e2) s = match cellOf s j with
    | some _ => onR (ev Φ e1 (snap s)) s fun d1 => if d1.noL then (match cellOf s kz with
      | some (kk, xs) => onR (ev Φ e2 (snap s)) s fun d2 => (match d2 with
        | .int z => if decide (-(2 ^ 63) ≤ z) && decide (z < 2 ^ 63) then (match popR xs z with
          | some (.sh d3, ys) => onR ((Φ f [d1, d3]).bind fun t => .ok t.d) (setM s kk ys) fun d => (match cellOf (setM s kk ys) j with
            | some (jj, zs) => if d.noL && decide (zs.length < LINE) then .nx (setM (setM s kk ys) jj (zs ++ [.sh d])) else .bad
            | none => .bad)
          | _ => .bad) else .bad
        | _ => .bad)
      | none => .bad) else .bad
    | none => .bad := rfl
/-! ### comparing -/
def cmpI (a b : Rat) : Int := (if b < a then 1 else 0) - (if a < b then 1 else 0)
theorem cmp_num (a b : Rat) : (b.num * (a.den : Int) < a.num * (b.den : Int)) ↔ b < a := by
  rw [Rat.lt_iff]
theorem cmp_pos (a b : Rat) : (0 < cmpI a b) ↔ b < a := by
  unfold cmpI
  by_cases h : b < a
  · have : ¬ a < b := by grind
    simp [h, this]
  · by_cases h2 : a < b
    · simp [h, h2]
    · simp [h, h2]
section
variable {Φ : R.Or}
def CmpOk (Φ : R.Or) (f : Nat) : Prop := ∀ (A : Nat) (a b : Rat), Bd A a → Bd A b → A ≤ 5000 → Φ f [fq a, fq b] = .ok (.sh (.int (cmpI a b)))
def bCmp : List S := [.set 2 (.op .mul (.idx (.var 0) (.int 0)) (.idx (.var 1) (.int 1))), .set 3 (.op .mul (.idx (.var 1) (.int 0)) (.idx (.var 0) (.int 1))), .ret (.op .sub (.bi .int [(.op .gt (.var 2) (.var 3))]) (.bi .int [(.op .lt (.var 2) (.var 3))]))]
theorem cmp_run {A : Nat} {a b : Rat} (ha : Bd A a) (hb : Bd A b) (hA : A ≤ 5000) : endR (exSs Φ bCmp (enter 4 [fq a, fq b])) = .ok (.sh (.int (cmpI a b))) := by
  have m1 := opm ha.1 (natAbs_lt' hb.2) (by omega)
  have m2 := opm hb.1 (natAbs_lt' ha.2) (by omega)
  have a0 := ix_fq0 a
  have a1 := ix_fq1 a
  have b0 := ix_fq0 b
  have b1 := ix_fq1 b
  have g : op2 .gt (.int (a.num * (b.den : Int))) (.int (b.num * (a.den : Int))) = .ok (.bl (decide (b < a))) := by rw [op2_gt]; simp only [cmp_num]
  have l : op2 .lt (.int (a.num * (b.den : Int))) (.int (b.num * (a.den : Int))) = .ok (.bl (decide (a < b))) := by rw [op2_lt]; simp only [cmp_num]
  have bb : ∀ c : Bool, bi .int [.bl c] = .ok (.int (if c then 1 else 0)) := fun _ => rfl
  have e : (if decide (b < a) = true then (1 : Int) else 0) - (if decide (a < b) = true then 1 else 0) = cmpI a b := by unfold cmpI; simp only [decide_eq_true_eq]
  generalize fq a = FA at *
  generalize fq b = FB at *
  generalize a.num * (b.den : Int) = X at *
  generalize b.num * (a.den : Int) = Y at *
  generalize decide (b < a) = c1 at *
  generalize decide (a < b) = c2 at *
  generalize cmpI a b = C at *
  simp -implicitDefEqProofs [-op2_gt, -op2_lt, bCmp, a0, a1, b0, b1, m1, m2, g, l, bb, e]
/-! ### the greatest of those that are left -/
def bBest (cm : Nat) : List S := [.ifs (.op .gt (.call cm [(.idx (.var 1) (.var 5)), (.idx (.var 1) (.var 4))]) (.int 0)) [.set 4 (.var 5)] []]
abbrev qS (l : Row) : List SV := (l.map fq).map .sh
def sS (X : Option SV) (l t : Row) (k b j : Option SV) : PSt := ⟨[X, some (.loc 0), some (.loc 1), k, b, j], [.ls (qS l), .ls (qS t)]⟩
theorem snapS0 {l t : Row} : snapO [.ls (qS l), .ls (qS t)] (some (.loc 0)) = some (fL l) := snapO_ls rfl
theorem snapS1 {l t : Row} : snapO [.ls (qS l), .ls (qS t)] (some (.loc 1)) = some (fL t) := snapO_ls rfl
theorem best_loop {cm : Nat} (hc : CmpOk Φ cm) {A : Nat} (hA : A ≤ 5000) (X K : Option SV) {l t : Row} (hb : ∀ q ∈ l, Bd A q) : ∀ (m k b : Nat), k + m = l.length → b < l.length → (∀ j, j < k → at_ l j ≤ at_ l b) →
    ∃ b', b' < l.length ∧ (∀ j, j < l.length → at_ l j ≤ at_ l b') ∧ forR [5] 2 (frB Φ [5] (bBest cm)) ((List.range' k m).map fun j => D.int (j : Nat)) (sS X l t K (some (.sh (.int (b : Int)))) none) = .nx (sS X l t K (some (.sh (.int (b' : Int)))) none)
  | 0, k, b, e, h1, h2 => ⟨b, h1, fun j hj => h2 j (by omega), rfl⟩
  | m + 1, k, b, e, h1, h2 => by
    have hk : k < l.length := by omega
    have ik : ixR (fL l) (.int (k : Int)) = .ok (fq (at_ l k)) := IsF.ix (.inl rfl) hk
    have ib : ixR (fL l) (.int (b : Int)) = .ok (fq (at_ l b)) := IsF.ix (.inl rfl) h1
    have c := hc A _ _ (hb _ (at_mem hk)) (hb _ (at_mem h1)) hA
    obtain ⟨b', r1, r2, r3⟩ := best_loop hc hA X K hb m (k + 1) (if at_ l b < at_ l k then k else b) (by omega) (by split <;> assumption) fun j hj => by
      by_cases ej : j = k
      · subst ej
        split
        · exact Rat.le_refl
        · rename_i h; grind
      · have := h2 j (by omega)
        split
        · rename_i h; grind
        · exact this
    refine ⟨b', r1, r2, ?_⟩
    rw [List.range'_succ, List.map_cons, forR_cons, ← r3]
    have s0 := @snapS0 l t
    have s1 := @snapS1 l t
    unfold sS at *
    have hp := cmp_pos (at_ l k) (at_ l b)
    generalize fq (at_ l k) = R1 at *
    generalize fq (at_ l b) = R2 at *
    by_cases h : at_ l b < at_ l k
    · have hp' := hp.mpr h
      rw [if_pos h] at *
      generalize cmpI (at_ l k) (at_ l b) = CI at *
      generalize fL l = FLl at *
      generalize fL t = FLt at *
      generalize qS l = QL at *
      generalize qS t = QT at *
      simp -implicitDefEqProofs [frB, bBest, s0, s1, ik, ib, c, hp', tidy_len]
    · have hp' : ¬ 0 < cmpI (at_ l k) (at_ l b) := fun q => h (hp.mp q)
      rw [if_neg h] at *
      generalize cmpI (at_ l k) (at_ l b) = CI at *
      generalize fL l = FLl at *
      generalize fL t = FLt at *
      generalize qS l = QL at *
      generalize qS t = QT at *
      simp -implicitDefEqProofs [frB, bBest, s0, s1, ik, ib, c, hp', tidy_len]
end
end R.N
end

section
set_option Elab.async false
set_option linter.all false
set_option maxRecDepth 100000
/-! N6: the law's own sums. -/
namespace R.N
open R R.V
theorem pre_snoc (e : Row) (x : Rat) : pre (e ++ [x]) = pre e ++ [sm e + x] := by
  unfold pre
  rw [List.length_append, List.length_singleton, List.range_succ, List.map_append]
  congr 1
  · apply List.map_congr_left
    intro k hk
    have := List.mem_range.mp hk
    rw [List.take_append_of_le_length (by omega)]
  · show [sm _] = _
    rw [List.take_of_length_le (by simp), sm_app]
    show [_ + (x + 0)] = _
    congr 1; grind
theorem len_pre (e : Row) : (pre e).length = e.length + 1 := by unfold pre; simp
theorem ix_last {r : Row} (h : 0 < r.length) : ixR (fL r) (.int (-1)) = .ok (fq (at_ r (r.length - 1))) := by
  have e : L2.atI (r.map fq) (-1) = some (fq (at_ r (r.length - 1))) := by
    unfold L2.atI L2.ixN
    simp only [List.length_map]
    have h1 : ¬ ((0 : Int) ≤ -1) := by decide
    have h2 : (0 : Int) ≤ -1 + (r.length : Int) := by omega
    have h3 : (-1 + (r.length : Int)).toNat = r.length - 1 := by omega
    have h4 : r.length - 1 < r.length := by omega
    rw [if_neg h1, if_pos (by omega), h3]
    show (r.map fq)[r.length - 1]? = _
    rw [List.getElem?_map, List.getElem?_eq_getElem h4]
    simp [at_, List.getD, h4]
  show (match L2.atI (r.map fq) (-1) with | some d => Res.ok d | none => .bad) = _
  rw [e]
theorem at_pre_last (e : Row) : at_ (pre e) ((pre e).length - 1) = sm e := by
  rw [len_pre]
  unfold at_ pre
  simp [List.getD]
theorem noL_fq (q : Rat) : (fq q).noL = true := rfl
section
variable {Φ : R.Or}
def bTake (cm ad : Nat) : List S := [.set 4 (.int 0), .fr .r1 [5] [(.bi .len [(.var 1)])] (bBest cm) [5], .appP 2 ad (.idx (.var 2) (.un .neg (.int 1))) 1 (.var 4)]
theorem take_turn {cm ad : Nat} (hc : CmpOk Φ cm) (ha : AddOk Φ ad) {M A : Nat} (h0 : 0 < M) (hM : M < 2 ^ A) (X K : Option SV) {l e : Row} (hl : ∀ q ∈ l, Ov M A q) (he : ∀ q ∈ e, Ov M A q) (h1 : 0 < l.length) (hA : A ≤ 4000) (hn : l.length + e.length ≤ 100) :
    ∃ b x, l[b]? = some x ∧ (∀ y ∈ l, y ≤ x) ∧ exSs Φ (bTake cm ad) (sS X l (pre e) K none none) = .nx (sS X (l.eraseIdx b) (pre (e ++ [x])) K (some (.sh (.int (b : Int)))) none) := by
  obtain ⟨b, r1, r2, r3⟩ := best_loop hc (A := A) (by omega) X K (l := l) (t := pre e) (fun q hq => (hl q hq).bd h0 hM) l.length 0 0 (by omega) h1 (fun j hj => absurd hj (by omega))
  have gb : l[b]? = some (at_ l b) := by unfold at_; simp [List.getD, r1]
  refine ⟨b, at_ l b, gb, fun y hy => ?_, ?_⟩
  · obtain ⟨j, hj, e2⟩ := List.getElem_of_mem hy
    have := r2 j hj
    unfold at_ at this ⊢
    simp only [List.getD, List.getElem?_eq_getElem hj, Option.getD_some] at this
    rw [e2] at this
    exact this
  · have s0 := @snapS0 l (pre e)
    have s1 := @snapS1 l (pre e)
    have rg := rr0 (n := l.length) (by omega)
    rw [List.range_eq_range'] at rg
    have ln : bi .len [fL l] = .ok (.int (l.length : Int)) := IsF.len (.inl rfl)
    have il : ixR (fL (pre e)) (.int (-1)) = .ok (fq (sm e)) := by
      have := ix_last (r := pre e) (by rw [len_pre]; omega)
      rw [at_pre_last] at this
      exact this
    have pp : popR (qS l) ((b : Nat) : Int) = some (.sh (fq (at_ l b)), qS (l.eraseIdx b)) := by
      have := popR_map (ds := l.map fq) (p := b) (d := fq (at_ l b)) (by rw [List.getElem?_map, gb]; rfl)
      rw [erase_map] at this
      exact this
    have a1 := ha (A + e.length) (sm e) (at_ l b) ((ov_sm h0 he).bd h0 (lt_pow hM (by omega))) ((Ov.mono (hl _ (at_mem r1)) (by omega)).bd h0 (lt_pow hM (by omega))) (by omega)
    have n1 := noL_fq (sm e)
    have n2 := noL_fq (sm e + at_ l b)
    have lt : (qS (pre e)).length < LINE := by
      unfold qS
      rw [List.length_map, List.length_map, len_pre]
      exact len_lt' (by omega)
    have ap : qS (pre e) ++ [.sh (fq (sm e + at_ l b))] = qS (pre (e ++ [at_ l b])) := by
      rw [pre_snoc]; unfold qS; rw [List.map_append, List.map_append]; rfl
    have z1 : decide (-(2 ^ 63) ≤ ((b : Nat) : Int)) = true := by simp <;> omega
    have z2 : decide (((b : Nat) : Int) < 2 ^ 63) = true := by simp; omega
    have z0 : ((0 : Nat) : Int) = 0 := rfl
    have z3 : ((b : Nat) : Int) < 9223372036854775808 := by omega
    unfold sS at *
    rw [z0] at r3
    unfold bTake
    generalize hR1 : fq (sm e + at_ l b) = R1 at *
    generalize hR2 : fq (sm e) = R2 at *
    generalize hR3 : fq (at_ l b) = R3 at *
    generalize (List.range' 0 l.length).map (fun j => D.int ((j : Nat) : Int)) = RG at *
    generalize l.length = LL at *
    generalize qS (l.eraseIdx b) = QE at *
    generalize qS (pre (e ++ [at_ l b])) = QN at *
    generalize fL l = FLl at *
    generalize fL (pre e) = FLt at *
    generalize qS l = QL at *
    generalize qS (pre e) = QT at *
    generalize bBest cm = BB at *
    simp -implicitDefEqProofs [s0, s1, ln, rg, r3, il, cellOf, n1, pp, a1, n2, lt, ap, z1, z2, z3]
theorem sub_erase {l : Row} {b : Nat} {x y : Rat} (h : y ∈ l.eraseIdx b) : y ∈ l := List.mem_of_mem_eraseIdx h
theorem perm_erase : ∀ {l : Row} {b : Nat} {x : Rat}, l[b]? = some x → (x :: l.eraseIdx b).Perm l
  | [], b, x, h => by simp at h
  | y :: l, 0, x, h => by
    simp at h
    subst h
    exact List.Perm.refl _
  | y :: l, b + 1, x, h => by
    have ih := perm_erase (l := l) (b := b) (x := x) (by simpa using h)
    rw [List.eraseIdx_cons_succ]
    exact (List.Perm.swap _ _ _).trans (ih.cons y)
theorem dsc_snoc {e : Row} {x : Rat} (h : Dsc e) (hx : ∀ y ∈ e, x ≤ y) : Dsc (e ++ [x]) := by
  unfold Dsc at *
  rw [List.pairwise_append]
  exact ⟨h, List.pairwise_singleton _ _, fun a ha b hb => by rw [List.mem_singleton.mp hb]; exact hx a ha⟩
theorem take_loop {cm ad : Nat} (hc : CmpOk Φ cm) (ha : AddOk Φ ad) {M A : Nat} (h0 : 0 < M) (hM : M < 2 ^ A) (X : Option SV) (hA : A ≤ 4000) {r : Row} (hr : ∀ q ∈ r, Ov M A q) (hn : r.length ≤ 100) : ∀ (ks : List D) (l e : Row), ks.length = l.length → (e ++ l).Perm r → Dsc e → (∀ x ∈ e, ∀ y ∈ l, y ≤ x) →
    forR [3, 4, 5] 2 (frB Φ [3] (bTake cm ad)) ks (sS X l (pre e) none none none) = .nx (sS X [] (pre (srt r)) none none none)
  | [], l, e, hk, p, d, _ => by
    have : l = [] := List.length_eq_zero_iff.mp hk.symm
    subst this
    rw [List.append_nil] at p
    rw [srt_uniq d p]; rfl
  | k :: ks, l, e, hk, p, d, hx => by
    have hle : l.length + e.length = r.length := by have := p.length_eq; rw [List.length_append] at this; omega
    rw [List.length_cons] at hk
    obtain ⟨b, x, g1, g2, g3⟩ := take_turn hc ha h0 hM X (some (.sh k)) (l := l) (e := e) (fun q hq => hr q (p.mem_iff.mp (List.mem_append_right _ hq))) (fun q hq => hr q (p.mem_iff.mp (List.mem_append_left _ hq))) (by omega) hA (by omega)
    have mx : x ∈ l := List.mem_of_getElem? g1
    have ih := take_loop hc ha h0 hM X hA hr hn ks (l.eraseIdx b) (e ++ [x]) (by rw [List.length_eraseIdx_of_lt (List.getElem?_eq_some_iff.mp g1).1]; omega) (by
      rw [List.append_assoc]
      exact ((perm_erase g1).append_left e).trans p) (dsc_snoc d fun y hy => hx y hy x mx) fun z hz y hy => by
        have my : y ∈ l := List.mem_of_mem_eraseIdx hy
        rcases List.mem_append.mp hz with hz | hz
        · exact hx z hz y my
        · rw [List.mem_singleton.mp hz]; exact g2 y my
    rw [forR_cons, ← ih]
    unfold sS at *
    generalize qS (l.eraseIdx b) = QE at *
    generalize qS (pre (e ++ [x])) = QN at *
    generalize qS l = QL at *
    generalize qS (pre e) = QT at *
    generalize bTake cm ad = BT at *
    simp -implicitDefEqProofs [frB, g3, tidy_len]
def bLSums (cm ad : Nat) : List S := [.ownM 1 (.bi .list [(.var 0)]), .ownM 2 (.lst [(.tup [(.int 0), (.int 1)])]), .fr .r1 [3] [(.bi .len [(.var 0)])] (bTake cm ad) [3, 4, 5], .ret (.var 2)]
theorem IsF.listO {X : D} {r : Row} (h : IsF X r) {Δ : List (Option D)} {e : E} (he : ev Φ e Δ = .ok X) : evO Φ (.bi .list [e]) Δ = .ok (r.map fq) := by
  unfold evO
  simp only [evs]
  rcases h with rfl | rfl <;> simp -implicitDefEqProofs [he, fL, fT]
theorem pre_nil : pre [] = [0] := rfl
theorem lsums_run {cm ad : Nat} (hc : CmpOk Φ cm) (ha : AddOk Φ ad) {A : Nat} {r : Row} {X : D} (hX : IsF X r) (hr : BRow A r) (hl : r.length ≤ 100) (hA : A ≤ 4000) : endR (exSs Φ (bLSums cm ad) (enter 6 [X])) = .ok (.sh (fL (pre (srt r)))) := by
  obtain ⟨M, h0, hM, hr⟩ := hr
  have loop := take_loop hc ha h0 hM (some (.sh X)) hA hr hl ((List.range r.length).map fun k => D.int (k : Nat)) r [] (by simp) (List.Perm.refl _) List.Pairwise.nil (fun x hx => by cases hx)
  have lo := hX.listO (Φ := Φ) (e := .var 0) (Δ := [some X, none, none, none, none, none]) rfl
  have l2 : evO Φ (.lst [(.tup [(.int 0), (.int 1)])]) [some X, none, none, none, none, none] = .ok ((pre []).map fq) := by
    rw [pre_nil]
    unfold evO
    have o1 : 1 ≤ LINE := Nat.le_trans (by decide) two_le_LINE
    simp -implicitDefEqProofs [two_le_LINE, fq0, o1]
  have ln := hX.len
  have rg := rr0 (n := r.length) (by omega)
  have s1 := @snapS1 [] (pre (srt r))
  unfold sS at *
  unfold bLSums
  generalize (List.range r.length).map (fun k => D.int (k : Nat)) = RG at *
  generalize hQ0 : qS [] = Q0 at *
  unfold qS at *
  generalize r.map fq = RM at *
  generalize (pre []).map fq = PN at *
  generalize (pre (srt r)).map fq = PS at *
  generalize fL (pre (srt r)) = FF at *
  generalize bTake cm ad = BT at *
  simp -implicitDefEqProofs [lo, l2, ln, rg, loop, s1]
end
end R.N
end

section
set_option Elab.async false
set_option linter.all false
set_option maxRecDepth 100000
/-! N7: rounds, in any text. -/
namespace R.N
open R R.V
/-! ### rows that are moved -/
def mvF (ms : List Int) (r : Row) (acc : Row) (k : Nat) : Row := acc.set (ms.getD k 0).toNat (at_ r k)
def mvd (ms : List Int) (r : Row) : Row := (List.range r.length).foldl (mvF ms r) (r.map fun _ => 0)
theorem mvF_len {ms : List Int} {r acc : Row} {k : Nat} : (mvF ms r acc k).length = acc.length := by unfold mvF; simp
theorem fold_len {ms : List Int} {r : Row} : ∀ (ks : List Nat) (acc : Row), (ks.foldl (mvF ms r) acc).length = acc.length
  | [], _ => rfl
  | k :: ks, acc => by rw [List.foldl_cons, fold_len ks, mvF_len]
theorem mvd_len (ms : List Int) (r : Row) : (mvd ms r).length = r.length := by unfold mvd; rw [fold_len, List.length_map]
theorem fold_mem {ms : List Int} {r : Row} {x : Rat} : ∀ (ks : List Nat) (acc : Row), (∀ k ∈ ks, k < r.length) → x ∈ ks.foldl (mvF ms r) acc → x ∈ acc ∨ x ∈ r
  | [], acc, _, h => .inl h
  | k :: ks, acc, hk, h => by
    rw [List.foldl_cons] at h
    rcases fold_mem ks _ (fun j hj => hk j (List.mem_cons_of_mem _ hj)) h with h | h
    · rcases List.mem_or_eq_of_mem_set h with h | h
      · exact .inl h
      · exact .inr (h ▸ at_mem (hk k List.mem_cons_self))
    · exact .inr h
theorem brow_mvd {ms : List Int} {A : Nat} {r : Row} (h : BRow A r) : BRow A (mvd ms r) := by
  obtain ⟨M, h0, h1, h2⟩ := h
  refine ⟨M, h0, h1, fun x hx => ?_⟩
  rcases fold_mem _ _ (fun k hk => List.mem_range.mp hk) hx with h | h
  · obtain ⟨_, _, e⟩ := List.mem_map.mp h
    rw [← e]; exact ov_zero h0
  · exact h2 x h
section
variable {Φ : R.Or}
theorem mv_loop {ms : List Int} {r : Row} {St : Row → PSt} {tg vs : List Nat} {m : Nat} {body : List S} (step : ∀ k acc, k < r.length → acc.length = r.length → ∃ s', frB Φ tg body (.int ((k : Nat) : Int)) (St acc) = .nx s' ∧ tidy vs m s' = some (St (mvF ms r acc k))) :
    ∀ (ks : List Nat) (acc : Row), (∀ k ∈ ks, k < r.length) → acc.length = r.length → forR vs m (frB Φ tg body) (ks.map fun k => D.int ((k : Nat) : Int)) (St acc) = .nx (St (ks.foldl (mvF ms r) acc))
  | [], _, _, _ => rfl
  | k :: ks, acc, hk, hl => by
    obtain ⟨s', e1, e2⟩ := step k acc (hk k List.mem_cons_self) hl
    rw [List.map_cons, forR_cons, e1, nextTurn_nx, e2, List.foldl_cons]
    exact mv_loop step ks _ (fun j hj => hk j (List.mem_cons_of_mem _ hj)) (by rw [mvF_len]; exact hl)
/-- where the rows go -/
structure MOk (ms : List Int) (n : Nat) : Prop where
  len : ms.length = n
  rng : ∀ z ∈ ms, 0 ≤ z ∧ z < n
def IsI (d : D) (ms : List Int) : Prop := d = .lst (ms.map .int) ∨ d = .tup (ms.map .int)
theorem IsI.ix {d : D} {ms : List Int} (h : IsI d ms) {k : Nat} (hk : k < ms.length) : ixR d (.int (k : Int)) = .ok (.int (ms.getD k 0)) := by
  have e : (ms.map D.int)[k]? = some (.int (ms.getD k 0)) := by simp [List.getD, hk]
  rcases h with rfl | rfl
  · exact ix_at e
  · exact ix_atT e
theorem MOk.at_ {ms : List Int} {n k : Nat} (h : MOk ms n) (hk : k < n) : 0 ≤ ms.getD k 0 ∧ (ms.getD k 0).toNat < n := by
  have hm : ms.getD k 0 ∈ ms := by
    have : k < ms.length := by rw [h.len]; exact hk
    simp [List.getD, this]
  have := h.rng _ hm
  omega
theorem ixN_of {n : Nat} {z : Int} (h0 : 0 ≤ z) (h : z.toNat < n) : L2.ixN n z = some z.toNat := by
  unfold L2.ixN
  rw [if_pos h0, if_pos (by omega)]
theorem qS_set (acc : Row) (i : Nat) (x : Rat) : (qS acc).set i (.sh (fq x)) = qS (acc.set i x) := by unfold qS; rw [List.map_set, List.map_set]
theorem qS_len (acc : Row) : (qS acc).length = acc.length := by unfold qS; simp
theorem zeros (r : Row) : (r.map fun _ => D.tup [.int 0, .int 1]) = (r.map fun _ => (0 : Rat)).map fq := by rw [List.map_map]; rfl
def ShOk (Φ : R.Or) (f : Nat) : Prop := ∀ (a b : Int) (A : Nat) (r : Row) (F X : D), XOk a b → IsX X a b → IsF F r → (∀ q ∈ r, Bd A q) → r.length ≤ 100 → A ≤ 4000 → Φ f [F, X] = .ok (.sh (fL (shs a b r)))
def PTOk (Φ : R.Or) (f : Nat) : Prop := ∀ (A : Nat) (r : Row) (X : D), IsF X r → (∀ q ∈ r, Bd A q) → r.length ≤ 1000 → A ≤ 4000 → Φ f [X] = .ok (.sh (fT (pr r)))
def PLOk (Φ : R.Or) (f : Nat) : Prop := ∀ (A : Nat) (r : Row) (X : D), IsF X r → (∀ q ∈ r, Bd A q) → r.length ≤ 1000 → A ≤ 4000 → Φ f [X] = .ok (.sh (fL (pr r)))
def bFresh (rs pa : Nat) : List S := [.set 3 (.call rs [(.var 0), (.var 1)]), .ownM 4 (.comp .seq [6] [(.var 3)] [] (.tup [(.int 0), (.int 1)])), .fr .r1 [5] [(.bi .len [(.var 3)])] [.setI 4 (.idx (.var 2) (.var 5)) (.idx (.var 3) (.var 5))] [5], .ret (.call pa [(.var 4)])]
theorem fresh_run {rs pa : Nat} (hp : PTOk Φ pa) {a b : Int} (hx : XOk a b) {A : Nat} {r : Row} {F X Mm : D} (s1 : Φ rs [F, X] = .ok (.sh (fL (shs a b r)))) (hr : BRow A r) (hl : r.length ≤ 50) (hA : A ≤ 3000) {ms : List Int} (hM : IsI Mm ms) (mo : MOk ms (shs a b r).length) :
    endR (exSs Φ (bFresh rs pa) (enter 7 [F, X, Mm])) = .ok (.sh (fT (pr (mvd ms (shs a b r))))) := by
  have hsh := brow_shs hx hr
  have hsl := shs_len a b r
  generalize shs a b r = q at *
  have zc : evO Φ (.comp .seq [6] [(.var 3)] [] (.tup [(.int 0), (.int 1)])) [some F, some X, some Mm, some (fL q), none, none, none] = .ok ((q.map fun _ => (0 : Rat)).map fq) := by
    rw [evO_comp, ← zeros]
    have e := evC_nm (Φ := Φ) (j := 3) (t := 6) (elt := .tup [(.int 0), (.int 1)]) (Δ := [some F, some X, some Mm, some (fL q), none, none, none]) (xs := q) (i := fq) (g := fun _ => D.tup [.int 0, .int 1]) (X := fL q) rfl (len_le (by omega)) rfl fun x hx => by simp -implicitDefEqProofs [two_le_LINE]
    exact e
  have loop := mv_loop (Φ := Φ) (ms := ms) (r := q) (tg := [5]) (vs := [5]) (m := 1) (body := [.setI 4 (.idx (.var 2) (.var 5)) (.idx (.var 3) (.var 5))])
    (St := fun acc => ⟨[some (.sh F), some (.sh X), some (.sh Mm), some (.sh (fL q)), some (.loc 0), none, none], [.ls (qS acc)]⟩) (fun k acc hk ha => by
      have i1 := hM.ix (k := k) (by rw [mo.len]; exact hk)
      have i2 : ixR (fL q) (.int (k : Int)) = .ok (fq (V.at_ q k)) := IsF.ix (.inl rfl) hk
      obtain ⟨m1, m2⟩ := mo.at_ hk
      have ixn := ixN_of m1 (n := (qS acc).length) (by rw [qS_len, ha]; exact m2)
      have st := qS_set acc (ms.getD k 0).toNat (V.at_ q k)
      have nl := noL_fq (V.at_ q k)
      have s0 : snapO [.ls (qS acc)] (some (.loc 0)) = some (fL acc) := snapO_ls rfl
      refine ⟨⟨[some (.sh F), some (.sh X), some (.sh Mm), some (.sh (fL q)), some (.loc 0), some (.sh (.int (k : Int))), none], [.ls (qS (mvF ms q acc k))]⟩, ?_, rfl⟩
      unfold mvF
      generalize fq (V.at_ q k) = R1 at *
      generalize qS (acc.set (ms.getD k 0).toNat (V.at_ q k)) = QN at *
      generalize (ms.getD k 0).toNat = ZN at *
      generalize ms.getD k 0 = Z at *
      generalize qS acc = QA at *
      generalize fL acc = FA at *
      generalize fL q = FQ at *
      simp -implicitDefEqProofs [frB, s0, i1, i2, ixn, st, nl, cellOf]) (List.range q.length) (q.map fun _ => 0) (fun k hk => List.mem_range.mp hk) (by simp)
  replace loop : forR [5] 1 (frB Φ [5] [.setI 4 (.idx (.var 2) (.var 5)) (.idx (.var 3) (.var 5))]) ((List.range q.length).map fun k => D.int ((k : Nat) : Int)) ⟨[some (.sh F), some (.sh X), some (.sh Mm), some (.sh (fL q)), some (.loc 0), none, none], [.ls (qS (q.map fun _ => 0))]⟩ = .nx ⟨[some (.sh F), some (.sh X), some (.sh Mm), some (.sh (fL q)), some (.loc 0), none, none], [.ls (qS (mvd ms q))]⟩ := loop
  have ln : bi .len [fL q] = .ok (.int (q.length : Int)) := IsF.len (.inl rfl)
  have rg := rr0 (n := q.length) (by omega)
  have p := hp (A + 6) (mvd ms q) (fL (mvd ms q)) (.inl rfl) (fun x hx => (brow_mvd hsh).bd hx) (by rw [mvd_len]; omega) (by omega)
  have s0 : snapO [.ls (qS (mvd ms q))] (some (.loc 0)) = some (fL (mvd ms q)) := snapO_ls rfl
  generalize fT (pr (mvd ms q)) = RES at *
  generalize fL (mvd ms q) = FM at *
  generalize qS (mvd ms q) = QM at *
  unfold qS at *
  generalize (q.map fun _ => (0 : Rat)).map fq = Z0 at *
  generalize (List.range q.length).map (fun k => D.int ((k : Nat) : Int)) = RG at *
  generalize q.length = QL at *
  generalize fL q = FQ at *
  simp -implicitDefEqProofs [bFresh, s1, zc, ln, rg, loop, s0, p]
/-! ### sorted rounds -/
def SR (a b : Int) (r : Row) : Row := pr (srt (shs a b r))
theorem SR_len (a b : Int) (r : Row) : (SR a b r).length = r.length := by unfold SR; rw [pr_len, srt_len, shs_len]; omega
theorem brow_SR {a b : Int} (h : XOk a b) {A : Nat} {r : Row} (hr : BRow A r) : BRow (A + 7) (SR a b r) := brow_pr (brow_srt (brow_shs h hr))
def SROk (Φ : R.Or) (f : Nat) : Prop := ∀ (a b : Int) (A : Nat) (r : Row) (F X : D), XOk a b → IsX X a b → IsF F r → BRow A r → r.length ≤ 50 → A ≤ 3000 → Φ f [F, X] = .ok (.sh (fT (SR a b r)))
def SLOk (Φ : R.Or) (f : Nat) : Prop := ∀ (a b : Int) (A : Nat) (r : Row) (F X : D), XOk a b → IsX X a b → IsF F r → BRow A r → r.length ≤ 50 → A ≤ 3000 → Φ f [F, X] = .ok (.sh (fL (SR a b r)))
def bSR (pa fa rs : Nat) : List S := [.ret (.call pa [(.call fa [(.call rs [(.var 0), (.var 1)])])])]
theorem sr_run {pa fa rs : Nat} (hp : PTOk Φ pa) (hf : FallOk Φ fa) {a b : Int} (hx : XOk a b) {A : Nat} {r : Row} {F X : D} (s1 : Φ rs [F, X] = .ok (.sh (fL (shs a b r)))) (hr : BRow A r) (hl : r.length ≤ 50) (hA : A ≤ 3000) : endR (exSs Φ (bSR pa fa rs) (enter 2 [F, X])) = .ok (.sh (fT (SR a b r))) := by
  have f1 := hf (A + 6) (shs a b r) (fL (shs a b r)) (.inl rfl) (fun x hx' => (brow_shs hx hr).bd hx') (by rw [shs_len]; omega) (by omega)
  have q1 := hp (A + 6) (srt (shs a b r)) (fT (srt (shs a b r))) (.inr rfl) (fun x hx' => (brow_srt (brow_shs hx hr)).bd hx') (by rw [srt_len, shs_len]; omega) (by omega)
  have e : pr (srt (shs a b r)) = SR a b r := rfl
  rw [e] at q1
  generalize fT (SR a b r) = R1 at *
  generalize fT (srt (shs a b r)) = R2 at *
  generalize fL (shs a b r) = R3 at *
  simp -implicitDefEqProofs [bSR, s1, f1, q1]
def OrdOk (Φ : R.Or) (f : Nat) : Prop := ∀ (A : Nat) (r : Row) (X : D), IsF X r → (∀ q ∈ r, Bd A q) → r.length ≤ 100 → A ≤ 4000 → Φ f [X] = .ok (.sh (.lst ((ords (wp r)).map .int)))
theorem ordE {A : Nat} {q : Row} (hb : ∀ x ∈ q, Bd A x) {Δ : List (Option D)} {j t : Nat} {src : E} (hs : ev Φ src Δ = .ok (.lst ((ords (wp q)).map .int))) (hj : Δ[j]? = some (some (fL q))) (ht : t < Δ.length) (ne : t ≠ j) (hl : q.length ≤ 1000) : ev Φ (.comp .seq [t] [src] [] (.idx (.var j) (.var t))) Δ = .ok (fL (srt q)) := by
  unfold fL
  rw [← ords_srt, List.map_map]
  refine comp_ok D.int _ ?_ (len_le (by rw [ords_len, len_wp]; omega)) fun z hz => ⟨_, rfl, ?_⟩
  · rw [p_evs_cons1, p_evs_l0, hs]; rfl
  · have m := ords_mem hz
    rw [len_wp] at m
    obtain ⟨k, rfl⟩ : ∃ k : Nat, z = (k : Int) := ⟨z.toNat, by omega⟩
    have i1 : ixR (fL q) (.int (k : Int)) = .ok (fq (V.at_ q k)) := IsF.ix (.inl rfl) (by omega)
    show ev Φ (.idx (.var j) (.var t)) ((wipe Δ [t]).set t (some (.int (k : Int)))) = Res.ok (fq (V.at_ q k))
    have w1 : ((wipe Δ [t]).set t (some (D.int (k : Int))))[j]? = some (some (fL q)) := by
      show ((Δ.set t none).set t _)[j]? = _
      rw [List.getElem?_set_ne ne, List.getElem?_set_ne ne, hj]
    have w2 : ((wipe Δ [t]).set t (some (D.int (k : Int))))[t]? = some (some (.int (k : Int))) := by
      show ((Δ.set t none).set t _)[t]? = _
      rw [List.getElem?_set_self (by rw [List.length_set]; exact ht)]
    generalize (wipe Δ [t]).set t (some (D.int (k : Int))) = DD at *
    generalize fq (V.at_ q k) = R1 at *
    generalize fL q = FQ at *
    simp -implicitDefEqProofs [w1, w2, i1]
def bLSo (sh pa od : Nat) : List S := [.set 2 (.call sh [(.var 0), (.var 1)]), .ret (.call pa [(.comp .seq [3] [(.call od [(.var 2)])] [] (.idx (.var 2) (.var 3)))])]
theorem lso_run {sh pa od : Nat} (hs : ShOk Φ sh) (hp : PLOk Φ pa) (ho : OrdOk Φ od) {a b : Int} (hx : XOk a b) {A : Nat} {r : Row} {F X : D} (hX : IsX X a b) (hF : IsF F r) (hr : BRow A r) (hl : r.length ≤ 50) (hA : A ≤ 3000) : endR (exSs Φ (bLSo sh pa od) (enter 4 [F, X])) = .ok (.sh (fL (SR a b r))) := by
  have s1 := hs a b A r F X hx hX hF (fun q hq => hr.bd hq) (by omega) (by omega)
  have hb := fun x hx' => (brow_shs hx hr).bd (x := x) hx'
  have o1 := ho (A + 6) (shs a b r) (fL (shs a b r)) (.inl rfl) hb (by rw [shs_len]; omega) (by omega)
  have comp := ordE (Φ := Φ) (q := shs a b r) hb (Δ := [some F, some X, some (fL (shs a b r)), none]) (j := 2) (t := 3) (src := .call od [(.var 2)]) (by
    generalize (ords (wp (shs a b r))).map D.int = OO at *
    generalize fL (shs a b r) = FF at *
    simp -implicitDefEqProofs [o1]) rfl (by show 3 < 4; decide) (by decide) (by rw [shs_len]; omega)
  have q1 := hp (A + 6) (srt (shs a b r)) (fL (srt (shs a b r))) (.inl rfl) (fun x hx' => (brow_srt (brow_shs hx hr)).bd hx') (by rw [srt_len, shs_len]; omega) (by omega)
  have e : pr (srt (shs a b r)) = SR a b r := rfl
  rw [e] at q1
  generalize fL (SR a b r) = R1 at *
  generalize fL (srt (shs a b r)) = R2 at *
  generalize fL (shs a b r) = R3 at *
  simp -implicitDefEqProofs [-p_ev_comp, bLSo, s1, comp, q1]
/-! ### many rounds -/
def SRn (a b : Int) : Nat → Row → Row
  | 0, r => r
  | k + 1, r => SRn a b k (SR a b r)
def evn (n : Nat) : Row := List.replicate n ((1 : Rat) / ((n : Nat) : Int))
theorem fq_inv {n : Nat} (h : 0 < n) : D.tup [.int 1, .int ((n : Nat) : Int)] = fq ((1 : Rat) / ((n : Nat) : Int)) := by
  have e := fq_div (t := 1) (b := (n : Int)) (by omega)
  have g : gcdI 1 (n : Int) = 1 := by unfold gcdI; simp
  unfold fracD at e
  rw [g] at e
  rw [show ((1 : Int) : Rat) = 1 from rfl] at e
  rw [← e]
  simp
theorem brow_evn {n : Nat} (h : 0 < n) (h2 : n < 8) : BRow 3 (evn n) := by
  refine ⟨n, h, by omega, fun x hx => ?_⟩
  unfold evn at hx
  rw [List.eq_of_mem_replicate hx]
  exact ⟨1, rfl, by decide⟩
def bEvenE (i : Nat) : E := .comp .r1 [1] [(.var 0)] [] (.tup [(.int 1), (.var 0)])
def bEven : List S := [.ret (.bi .tuple [(.comp .r1 [1] [(.var 0)] [] (.tup [(.int 1), (.var 0)]))])]
theorem evn_map {n : Nat} : (evn n).map fq = (List.range n).map fun _ => fq ((1 : Rat) / ((n : Nat) : Int)) := by
  unfold evn
  rw [List.map_replicate]
  apply List.ext_getElem
  · simp
  · intro i h1 h2; simp
theorem even_run {n : Nat} (h : 0 < n) (h2 : n < 1000) : endR (exSs Φ bEven (enter 2 [.int (n : Int)])) = .ok (.sh (fT (evn n))) := by
  have fi := fq_inv h
  have comp : ev Φ (.comp .r1 [1] [(.var 0)] [] (.tup [(.int 1), (.var 0)])) [some (.int (n : Int)), none] = .ok (fL (evn n)) := by
    unfold fL
    rw [evn_map]
    refine comp_rg (n := n) rfl (by omega) fun k hk => ?_
    generalize fq ((1 : Rat) / ((n : Nat) : Int)) = R1 at *
    simp -implicitDefEqProofs [fi, two_le_LINE]
  have tb : bi .tuple [fL (evn n)] = .ok (fT (evn n)) := rfl
  generalize fL (evn n) = FF at *
  generalize fT (evn n) = FG at *
  simp -implicitDefEqProofs [-p_ev_comp, bEven, comp, tb]
def EvOk (Φ : R.Or) (f : Nat) : Prop := ∀ n : Nat, 0 < n → n < 1000 → Φ f [.int (n : Int)] = .ok (.sh (fT (evn n)))
def bAfter (ev sr : Nat) : List S := [.set 3 (.call ev [(.var 0)]), .fr .r1 [4] [(.var 2)] [.set 3 (.call sr [(.var 3), (.var 1)])] [4], .ret (.var 3)]
theorem after_loop {sr : Nat} (hs : SROk Φ sr) {a b : Int} (hx : XOk a b) {X : D} (hX : IsX X a b) (N K : Option SV) : ∀ (ks : List D) (r : Row) (A : Nat), BRow A r → r.length ≤ 50 → A + 7 * ks.length ≤ 3000 →
    forR [4] 0 (frB Φ [4] [.set 3 (.call sr [(.var 3), (.var 1)])]) ks ⟨[N, some (.sh X), K, some (.sh (fT r)), none], []⟩ = .nx ⟨[N, some (.sh X), K, some (.sh (fT (SRn a b ks.length r))), none], []⟩
  | [], r, A, _, _, _ => rfl
  | k :: ks, r, A, hr, hl, hA => by
    rw [List.length_cons] at hA
    have s1 := hs a b A r (fT r) X hx hX (.inr rfl) hr hl (by omega)
    have ih := after_loop hs hx hX N K ks (SR a b r) (A + 7) (brow_SR hx hr) (by rw [SR_len]; exact hl) (by omega)
    rw [forR_cons]
    show _ = Out.nx ⟨[N, some (.sh X), K, some (.sh (fT (SRn a b ks.length (SR a b r)))), none], []⟩
    rw [← ih]
    generalize fT (SR a b r) = R1 at *
    generalize fT r = R2 at *
    simp -implicitDefEqProofs [frB, s1]
theorem after_run {ev sr : Nat} (he : EvOk Φ ev) (hs : SROk Φ sr) {a b : Int} (hx : XOk a b) {X : D} (hX : IsX X a b) {n k : Nat} (h : 0 < n) (h2 : n < 8) (hk : k ≤ 400) : endR (exSs Φ (bAfter ev sr) (enter 5 [.int (n : Int), X, .int (k : Int)])) = .ok (.sh (fT (SRn a b k (evn n)))) := by
  have e1 := he n h (by omega)
  have rg := rr0 (n := k) (by omega)
  have loop := after_loop hs hx hX (some (.sh (.int (n : Int)))) (some (.sh (.int (k : Int)))) ((List.range k).map fun j => D.int (j : Nat)) (evn n) 3 (brow_evn h h2) (by unfold evn; simp; omega) (by simp; omega)
  rw [List.length_map, List.length_range] at loop
  generalize fT (SRn a b k (evn n)) = R1 at *
  generalize fT (evn n) = R2 at *
  generalize (List.range k).map (fun j => D.int (j : Nat)) = RG at *
  simp -implicitDefEqProofs [bAfter, e1, rg, loop]
end
end R.N
end

section
set_option Elab.async false
set_option linter.all false
set_option maxRecDepth 100000
/-! N8: permutations, drawn machines, drawn fillings, in any text. -/
namespace R.N
open R R.V
/-! ### storing one by one -/
def setF {α : Type} (ix : Nat → Nat) (v : Nat → α) (acc : List α) (k : Nat) : List α := acc.set (ix k) (v k)
theorem setF_len {α : Type} {ix : Nat → Nat} {v : Nat → α} : ∀ (ks : List Nat) (acc : List α), (ks.foldl (setF ix v) acc).length = acc.length
  | [], _ => rfl
  | k :: ks, acc => by rw [List.foldl_cons, setF_len ks]; unfold setF; simp
theorem setF_out {α : Type} {ix : Nat → Nat} {v : Nat → α} {i : Nat} : ∀ (ks : List Nat) (acc : List α), (∀ k ∈ ks, ix k ≠ i) → (ks.foldl (setF ix v) acc)[i]? = acc[i]?
  | [], _, _ => rfl
  | k :: ks, acc, h => by
    rw [List.foldl_cons, setF_out ks _ fun j hj => h j (List.mem_cons_of_mem _ hj)]
    unfold setF
    rw [List.getElem?_set_ne (h k List.mem_cons_self)]
theorem setF_in {α : Type} {ix : Nat → Nat} {v : Nat → α} {k : Nat} : ∀ (ks : List Nat) (acc : List α), ks.Nodup → (∀ i ∈ ks, ∀ j ∈ ks, ix i = ix j → i = j) → k ∈ ks → ix k < acc.length → (ks.foldl (setF ix v) acc)[ix k]? = some (v k)
  | [], _, _, _, h, _ => by cases h
  | j :: ks, acc, nd, inj, h, hl => by
    obtain ⟨n1, n2⟩ := List.nodup_cons.mp nd
    rw [List.foldl_cons]
    by_cases e : k = j
    · subst e
      rw [setF_out ks _ fun i hi q => n1 (by rw [← inj i (List.mem_cons_of_mem _ hi) k List.mem_cons_self q]; exact hi)]
      unfold setF
      rw [List.getElem?_set_self hl]
    · rcases List.mem_cons.mp h with h | h
      · exact absurd h e
      · exact setF_in ks _ n2 (fun a ha b hb => inj a (List.mem_cons_of_mem _ ha) b (List.mem_cons_of_mem _ hb)) h (by unfold setF; rw [List.length_set]; exact hl)
theorem mvd_eq (ms : List Int) (r : Row) : mvd ms r = (List.range r.length).foldl (setF (fun k => (ms.getD k 0).toNat) (at_ r)) (r.map fun _ => 0) := rfl
theorem mvd_at {ms : List Int} {r : Row} (mo : MOk ms r.length) (nd : ms.Nodup) {k : Nat} (hk : k < r.length) : at_ (mvd ms r) (ms.getD k 0).toNat = at_ r k := by
  have g : ∀ i, i < r.length → ms[i]? = some (ms.getD i 0) := fun i hi => by
    have : i < ms.length := by rw [mo.len]; exact hi
    simp [List.getD, this]
  have inj : ∀ i ∈ List.range r.length, ∀ j ∈ List.range r.length, (ms.getD i 0).toNat = (ms.getD j 0).toNat → i = j := fun i hi j hj e => by
    have hi := List.mem_range.mp hi
    have hj := List.mem_range.mp hj
    have h1 := mo.at_ hi
    have h2 := mo.at_ hj
    have e2 : ms.getD i 0 = ms.getD j 0 := by omega
    have hi' : i < ms.length := by rw [mo.len]; exact hi
    exact (List.getElem?_inj hi' nd).mp (by rw [g i hi, g j hj, e2])
  have e := setF_in (ix := fun k => (ms.getD k 0).toNat) (v := at_ r) (k := k) (List.range r.length) (r.map fun _ => 0) List.nodup_range inj (List.mem_range.mpr hk) (by simp; exact (mo.at_ hk).2)
  unfold at_ at e ⊢
  rw [mvd_eq]
  simp only [List.getD]
  unfold at_
  simp only [List.getD] at e ⊢
  rw [e]; rfl
theorem perm_mok {ms : List Int} {n : Nat} (p : ms.Perm (ix0 n)) : MOk ms n ∧ ms.Nodup := by
  refine ⟨⟨by rw [p.length_eq]; simp [ix0], fun z hz => ?_⟩, p.nodup_iff.mpr ?_⟩
  · have := p.mem_iff.mp hz
    unfold ix0 at this
    obtain ⟨k, hk, rfl⟩ := List.mem_map.mp this
    have := List.mem_range.mp hk
    omega
  · unfold ix0
    unfold List.Nodup
    rw [List.pairwise_map]
    exact List.nodup_range.imp fun h e => h (by omega)
theorem mvd_perm {ms : List Int} {r : Row} (p : ms.Perm (ix0 r.length)) : (mvd ms r).Perm r := by
  obtain ⟨mo, nd⟩ := perm_mok p
  have e : ms.map (fun z => at_ (mvd ms r) z.toNat) = r := by
    apply List.ext_getElem
    · rw [List.length_map, mo.len]
    · intro i h1 h2
      have := mvd_at mo nd h2
      rw [List.length_map] at h1
      rw [List.getElem_map]
      have g : ms.getD i 0 = ms[i] := by simp [List.getD, h1]
      have g2 : at_ r i = r[i] := by unfold at_; simp [List.getD, h2]
      rw [g, g2] at this
      exact this
  have q := p.map (fun z => at_ (mvd ms r) z.toNat)
  have f := ix_map (mvd ms r)
  rw [mvd_len] at f
  rw [e, f] at q
  exact q.symm
/-! ### the place of each -/
def plc (od : List Int) : List Int := (List.range od.length).foldl (setF (fun k => (od.getD k 0).toNat) fun k => ((k : Nat) : Int)) (od.map fun _ => 0)
theorem plc_len (od : List Int) : (plc od).length = od.length := by unfold plc; rw [setF_len, List.length_map]
theorem plc_at {od : List Int} (p : od.Perm (ix0 od.length)) {k : Nat} (hk : k < od.length) : (plc od)[(od.getD k 0).toNat]? = some ((k : Nat) : Int) := by
  obtain ⟨mo, nd⟩ := perm_mok p
  have g : ∀ i, i < od.length → od[i]? = some (od.getD i 0) := fun i hi => by simp [List.getD, hi]
  refine setF_in (ix := fun k => (od.getD k 0).toNat) (v := fun k => ((k : Nat) : Int)) (k := k) (List.range od.length) (od.map fun _ => 0) List.nodup_range (fun i hi j hj e => ?_) (List.mem_range.mpr hk) (by simp; exact (mo.at_ hk).2)
  have hi := List.mem_range.mp hi
  have hj := List.mem_range.mp hj
  have h1 := mo.at_ hi
  have h2 := mo.at_ hj
  have e2 : od.getD i 0 = od.getD j 0 := by omega
  exact (List.getElem?_inj hi nd).mp (by rw [g i hi, g j hj, e2])
theorem ix0_len (n : Nat) : (ix0 n).length = n := by simp [ix0]
theorem plc_perm {od : List Int} (p : od.Perm (ix0 od.length)) : (plc od).Perm (ix0 od.length) := by
  have e : od.map (fun z => (plc od).getD z.toNat 0) = ix0 od.length := by
    apply List.ext_getElem
    · rw [List.length_map, ix0_len]
    · intro i h1 h2
      rw [List.length_map] at h1
      have := plc_at p h1
      have g : od.getD i 0 = od[i] := by simp [List.getD, h1]
      rw [g] at this
      rw [List.getElem_map]
      simp [List.getD, this, ix0]
  have f : (ix0 od.length).map (fun z => (plc od).getD z.toNat 0) = plc od := by
    unfold ix0
    rw [List.map_map]
    apply List.ext_getElem
    · simp [plc_len]
    · intro i h1 h2
      simp [List.getD, h2]
  have q := p.map (fun z => (plc od).getD z.toNat 0)
  rw [e, f] at q
  exact q.symm
/-- the rows that are led to their place in the falling order -/
theorem mvd_plc (q : Row) : mvd (plc (ords (wp q))) q = srt q := by
  have ol : (ords (wp q)).length = q.length := by rw [ords_len, len_wp]
  have p : (ords (wp q)).Perm (ix0 (ords (wp q)).length) := by
    have := ords_perm (wp q)
    rw [ol]; rw [len_wp] at this; exact this
  have pp := plc_perm p
  have pp' : (plc (ords (wp q))).Perm (ix0 q.length) := by rw [ol] at pp; exact pp
  obtain ⟨mo, nd⟩ := perm_mok pp'
  rw [← ords_srt]
  have ml := mvd_len (plc (ords (wp q))) q
  apply List.ext_getElem
  · rw [List.length_map, ml, ol]
  · intro k h1 h2
    rw [ml] at h1
    have hk : k < (ords (wp q)).length := by omega
    have a1 := plc_at p hk
    obtain ⟨mo2, _⟩ := perm_mok p
    have i2 := mo2.at_ hk
    rw [ol] at i2
    have a2 := mvd_at mo nd i2.2
    have g : (plc (ords (wp q))).getD ((ords (wp q)).getD k 0).toNat 0 = ((k : Nat) : Int) := by rw [List.getD_eq_getElem?_getD, a1]; rfl
    rw [g] at a2
    have g2 : (ords (wp q)).getD k 0 = (ords (wp q))[k] := by simp [List.getD, hk]
    rw [List.getElem_map, ← g2, ← a2, show ((k : Nat) : Int).toNat = k from rfl]
    unfold at_
    simp [List.getD, ml, h1]
/-! ### what is left -/
def left (n : Nat) (t : List Nat) : List Nat := (List.range n).filter fun g => decide (g ∉ t)
theorem left_cons {n x : Nat} {t : List Nat} : left n (x :: t) = (left n t).erase x := by
  have nd : (left n t).Nodup := List.Pairwise.filter _ List.nodup_range
  rw [nd.erase_eq_filter]
  unfold left
  rw [List.filter_filter]
  congr 1
  funext g
  by_cases h1 : g = x <;> by_cases h2 : g ∈ t <;> simp [h1, h2]
theorem left_perm {n : Nat} : ∀ {t : List Nat}, t.Nodup → (∀ x ∈ t, x < n) → (t ++ left n t).Perm (List.range n)
  | [], _, _ => by
    have : left n [] = List.range n := by unfold left; simp
    rw [this]; exact List.Perm.refl _
  | x :: t, nd, h => by
    obtain ⟨n1, n2⟩ := List.nodup_cons.mp nd
    have ih := left_perm n2 fun y hy => h y (List.mem_cons_of_mem _ hy)
    have hx : x ∈ left n t := by
      unfold left
      rw [List.mem_filter]
      exact ⟨List.mem_range.mpr (h x List.mem_cons_self), by simpa using n1⟩
    rw [left_cons, List.cons_append]
    have p1 := List.perm_cons_erase hx
    exact (List.perm_middle.symm.trans ((p1.symm).append_left t)).trans ih
theorem left_len {n : Nat} {t : List Nat} (nd : t.Nodup) (h : ∀ x ∈ t, x < n) : (left n t).length = n - t.length := by
  have := (left_perm nd h).length_eq
  rw [List.length_append, List.length_range] at this
  omega
end R.N
end

section
set_option Elab.async false
set_option linter.all false
set_option maxRecDepth 100000
/-! N9: drawn machines, drawn fillings, in any text. -/
namespace R.N
open R R.V
section
variable {Φ : R.Or}
theorem evC_of {sk : Sk} {tg : List Nat} {srcs conds : List E} {elt : E} {Δ : List (Option D)} {xs : List D} (h : ev Φ (.comp sk tg srcs conds elt) Δ = .ok (.lst xs)) : evC Φ sk tg srcs conds elt Δ = .ok xs := by
  rw [ev_compC] at h
  cases e : evC Φ sk tg srcs conds elt Δ with
  | ok ys =>
    rw [e] at h
    have h : Res.ok (D.lst ys) = Res.ok (D.lst xs) := h
    injection h with h
    injection h with h
    rw [h]
  | ex c fs => rw [e] at h; cases h
  | bad => rw [e] at h; cases h
/-! ### a machine of some digits -/
def nI (t : List Nat) : List D := t.map fun k => D.int ((k : Nat) : Int)
theorem nI_flat (t : List Nat) : (nI t).all D.flat = true := by
  unfold nI
  rw [List.all_map, List.all_eq_true]
  exact fun _ _ => rfl
theorem nI_any (g : Nat) : ∀ t : List Nat, ((nI t).any fun x => x.eqv (.int ((g : Nat) : Int))) = decide (g ∈ t)
  | [] => by simp [nI]
  | k :: t => by
    have ih := nI_any g t
    unfold nI at *
    rw [List.map_cons, List.any_cons, ih]
    have e : (D.int ((k : Nat) : Int)).eqv (.int ((g : Nat) : Int)) = decide (g = k) := by
      rw [D.eqv]
      by_cases h : g = k
      · subst h; simp
      · have : ¬ (k : Int) = (g : Int) := by omega
        simp [h, this]
    rw [e]
    by_cases h1 : g = k <;> by_cases h2 : g ∈ t <;> simp [h1, h2]
theorem nin_ok (g : Nat) (t : List Nat) : op2 .notin (.int (g : Int)) (.lst (nI t)) = .ok (.bl (decide (g ∉ t))) := by
  show (if (D.int (g : Int)).flat && (nI t).all D.flat then Res.ok (D.bl (true ^^ (nI t).any fun x => x.eqv (.int (g : Int)))) else .bad) = _
  rw [nI_flat, nI_any]
  by_cases h : g ∈ t <;> simp [h, D.flat]
theorem noL_nI (t : List Nat) : D.noL.noLs (nI t) = true := by
  induction t with
  | nil => rfl
  | cons k t ih => exact ih
def unitK (n : Nat) : D := .lst (List.replicate n (.tup []))
theorem unit_ix {n k : Nat} (h : k < n) : ixR (unitK n) (.int (k : Int)) = .ok (.tup []) := ix_at (by rw [List.getElem?_replicate, if_pos h])
theorem unit_len (n : Nat) : bi .len [unitK n] = .ok (.int (n : Int)) := by
  unfold unitK
  rw [bi_lenL, List.length_replicate]
theorem unit_eq : op2 .eq (.tup []) (.tup []) = .ok (.bl true) := by simp [op2, eqR, D.plain, D.eqv, D.eqv.eqvs]
def tMach : List S := [.own 4 (.comp .r1 [5] [(.bi .len [(.var 1)])] [(.and (.op .eq (.idx (.var 1) (.var 5)) (.idx (.var 1) (.var 3))) (.op .notin (.var 5) (.var 2)))] (.var 5)), .frz 4, .appM 2 (.idx (.var 4) (.op .mod (.bi .int [(.idx (.var 0) (.var 3))]) (.bi .len [(.var 4)])))]
theorem mach_turn {row : List Int} {n k : Nat} {t : List Nat} (hn : n ≤ 1000) (hk : k < n) (hr : k < row.length) (nd : t.Nodup) (hb : ∀ x ∈ t, x < n) (hl : t.length < n) :
    ∃ x, x < n ∧ x ∉ t ∧ exSs Φ tMach ⟨[some (.sh (.lst (row.map .int))), some (.sh (unitK n)), some (.loc 0), some (.sh (.int (k : Int))), none, none], [.ls ((nI t).map .sh)]⟩ = .nx ⟨[some (.sh (.lst (row.map .int))), some (.sh (unitK n)), some (.loc 0), some (.sh (.int (k : Int))), some (.sh (.lst (nI (left n t)))), none], [.ls ((nI (t ++ [x])).map .sh), .dead]⟩ := by
  have s0 : snapO [.ls ((nI t).map .sh)] (some (.loc 0)) = some (.lst (nI t)) := snapO_ls rfl
  have ul := unit_len n
  have ue := unit_eq
  have uk := unit_ix hk
  have comp : evC Φ .r1 [5] [(.bi .len [(.var 1)])] [(.and (.op .eq (.idx (.var 1) (.var 5)) (.idx (.var 1) (.var 3))) (.op .notin (.var 5) (.var 2)))] (.var 5) [some (.lst (row.map .int)), some (unitK n), some (.lst (nI t)), some (.int (k : Int)), none, none] = .ok (nI (left n t)) := by
    refine evC_of ?_
    unfold left
    refine comp_rgF (n := n) (g := fun g => .int ((g : Nat) : Int)) ?_ (by omega) fun g hg => ⟨?_, ?_⟩
    · generalize unitK n = U at *
      simp -implicitDefEqProofs [ul]
    · have ug := unit_ix hg
      have ni := nin_ok g t
      generalize unitK n = U at *
      generalize nI t = NT at *
      generalize row.map D.int = RM at *
      generalize decide (g ∉ t) = dd at *
      simp -implicitDefEqProofs [ug, uk, ue, ni]
    · generalize unitK n = U at *
      generalize nI t = NT at *
      generalize row.map D.int = RM at *
      simp -implicitDefEqProofs
  have L0 := left_len nd hb
  have L1 : 0 < (left n t).length := by omega
  obtain ⟨z, hz⟩ : ∃ z, row[k]? = some z := ⟨_, List.getElem?_eq_getElem hr⟩
  have ik := ixRow hz
  obtain ⟨j, hj⟩ : ∃ j : Nat, z % (((left n t).length : Nat) : Int) = (j : Int) := ⟨(z % (((left n t).length : Nat) : Int)).toNat, by have := Int.emod_nonneg z (show (((left n t).length : Nat) : Int) ≠ 0 by omega); omega⟩
  have hj2 : j < (left n t).length := by
    have := Int.emod_lt_of_pos z (show 0 < (((left n t).length : Nat) : Int) by omega)
    omega
  have md := op2_mod (i := z) (j := (((left n t).length : Nat) : Int)) (by omega)
  rw [hj] at md
  obtain ⟨x, hx⟩ : ∃ x, (left n t)[j]? = some x := ⟨_, List.getElem?_eq_getElem hj2⟩
  have xm := List.mem_of_getElem? hx
  have ij : ixR (.lst (nI (left n t))) (.int (j : Int)) = .ok (.int ((x : Nat) : Int)) := ix_at (by unfold nI; rw [List.getElem?_map, hx]; rfl)
  have ll : bi .len [.lst (nI (left n t))] = .ok (.int (((left n t).length : Nat) : Int)) := by unfold nI; rw [bi_lenL, List.length_map]
  unfold left at xm
  obtain ⟨xm1, xm2⟩ := List.mem_filter.mp xm
  refine ⟨x, List.mem_range.mp xm1, of_decide_eq_true xm2, ?_⟩
  · have nl := noL_nI (left n t)
    have fz : optL shOf ((nI (left n t)).map .sh) = some (nI (left n t)) := optL_shOf_map _
    have lt : ((nI t).map SV.sh).length < LINE := by
      unfold nI
      rw [List.length_map, List.length_map]
      exact len_lt' (by omega)
    have ap : (nI t).map SV.sh ++ [.sh (.int ((x : Nat) : Int))] = (nI (t ++ [x])).map .sh := by
      unfold nI; rw [List.map_append, List.map_append]; rfl
    rw [← ap]
    generalize (left n t).length = LL at *
    generalize nI (left n t) = NL at *
    generalize nI t = NT at *
    generalize row.map D.int = RM at *
    generalize unitK n = U at *
    generalize NT.map SV.sh = NTS at *
    simp -implicitDefEqProofs [-p_ev_comp, tMach, s0, evO_comp, comp, nl, frzS, fz, cellOf, ik, ll, md, ij, lt]
theorem mach_td {X Y a b : D} {ds : List D} : tidy [3, 4] 1 ⟨[some (.sh X), some (.sh Y), some (.loc 0), some (.sh a), some (.sh b), none], [.ls (ds.map .sh), .dead]⟩ = some ⟨[some (.sh X), some (.sh Y), some (.loc 0), none, none, none], [.ls (ds.map .sh)]⟩ := by
  have c := cell_lt_map ds 1
  unfold tidy
  generalize Cell.ls (ds.map SV.sh) = CC at *
  simp [ltO, SV.lt, c]
theorem mach_loop {row : List Int} {n : Nat} (hn : n ≤ 1000) (hr : n ≤ row.length) : ∀ (m k : Nat) (t : List Nat), k + m = n → t.length = k → t.Nodup → (∀ x ∈ t, x < n) →
    ∃ t' : List Nat, t'.length = n ∧ t'.Nodup ∧ (∀ x ∈ t', x < n) ∧ forR [3, 4] 1 (frB Φ [3] tMach) ((List.range' k m).map fun j => D.int ((j : Nat) : Int)) ⟨[some (.sh (.lst (row.map .int))), some (.sh (unitK n)), some (.loc 0), none, none, none], [.ls ((nI t).map .sh)]⟩ = .nx ⟨[some (.sh (.lst (row.map .int))), some (.sh (unitK n)), some (.loc 0), none, none, none], [.ls ((nI t').map .sh)]⟩
  | 0, k, t, e, hl, nd, hb => ⟨t, by omega, nd, hb, rfl⟩
  | m + 1, k, t, e, hl, nd, hb => by
    obtain ⟨x, x1, x2, tn⟩ := mach_turn (Φ := Φ) (row := row) (n := n) (k := k) (t := t) hn (by omega) (by omega) nd hb (by omega)
    obtain ⟨t', r1, r2, r3, r4⟩ := mach_loop hn hr m (k + 1) (t ++ [x]) (by omega) (by simp; omega) (by
      rw [List.nodup_append]
      exact ⟨nd, by simp, fun a ha b hb e => x2 (by rw [List.mem_singleton.mp hb] at e; rw [← e]; exact ha)⟩) (fun y hy => by
      rcases List.mem_append.mp hy with hy | hy
      · exact hb y hy
      · rw [List.mem_singleton.mp hy]; exact x1)
    refine ⟨t', r1, r2, r3, ?_⟩
    rw [List.range'_succ, List.map_cons, forR_cons, ← r4]
    have td := @mach_td (.lst (row.map .int)) (unitK n) (.int (k : Int)) (.lst (nI (left n t))) (nI (t ++ [x]))
    generalize nI (left n t) = NL at *
    generalize (nI (t ++ [x])).map SV.sh = NX at *
    generalize (nI t).map SV.sh = NT at *
    generalize unitK n = U at *
    generalize row.map D.int = RM at *
    generalize tMach = TM at *
    simp -implicitDefEqProofs [frB, tn, td]
def bMach : List S := [.ownM 2 (.lst []), .fr .r1 [3] [(.bi .len [(.var 1)])] tMach [3, 4], .ret (.bi .tuple [(.var 2)])]
theorem mach_run {row : List Int} {n : Nat} (hn : n ≤ 1000) (hr : n ≤ row.length) : ∃ ms : List Int, ms.Perm (ix0 n) ∧ endR (exSs Φ bMach (enter 6 [.lst (row.map .int), unitK n])) = .ok (.sh (.tup (ms.map .int))) := by
  obtain ⟨t, r1, r2, r3, loop⟩ := mach_loop (Φ := Φ) hn hr n 0 [] (by omega) rfl List.nodup_nil (fun x hx => by cases hx)
  have l0 : left n t = [] := List.length_eq_zero_iff.mp (by rw [left_len r2 r3]; omega)
  have p := left_perm r2 r3
  rw [l0, List.append_nil] at p
  refine ⟨t.map fun k => ((k : Nat) : Int), p.map _, ?_⟩
  have e : (t.map fun k => ((k : Nat) : Int)).map D.int = nI t := by unfold nI; rw [List.map_map]; rfl
  rw [e]
  have ul := unit_len n
  have rg := rr0 (n := n) (by omega)
  rw [List.range_eq_range'] at rg
  have s0 : snapO [.ls ((nI t).map .sh)] (some (.loc 0)) = some (.lst (nI t)) := snapO_ls rfl
  have n0 : (nI []).map SV.sh = [] := rfl
  rw [n0] at loop
  have tb : bi .tuple [.lst (nI t)] = .ok (.tup (nI t)) := rfl
  unfold bMach
  generalize (List.range' 0 n).map (fun j => D.int ((j : Nat) : Int)) = RG at *
  generalize (nI t).map SV.sh = NX at *
  generalize nI t = NT at *
  generalize unitK n = U at *
  generalize row.map D.int = RM at *
  generalize tMach = TM at *
  simp -implicitDefEqProofs [evO_nil, ul, rg, loop, s0, tb]
/-! ### a filling of some digits -/
def tb6 (r : Int) : Int := ([0, 1, 2, 3, 1, 5] : List Int).getD r.toNat 0
def tabD : D := .lst [.int 0, .int 1, .int 2, .int 3, .int 1, .int 5]
theorem tab_ok {r : Int} (h0 : 0 ≤ r) (h1 : r < 6) : ixR tabD (.int r) = .ok (.int (tb6 r)) ∧ 0 ≤ tb6 r ∧ tb6 r ≤ 5 := by
  have : r = 0 ∨ r = 1 ∨ r = 2 ∨ r = 3 ∨ r = 4 ∨ r = 5 := by omega
  rcases this with rfl | rfl | rfl | rfl | rfl | rfl <;> exact ⟨rfl, by decide, by decide⟩
theorem sum_bd {c : Int} : ∀ {l : List Int}, (∀ x ∈ l, 0 ≤ x ∧ x ≤ c) → 0 ≤ l.sum ∧ l.sum ≤ c * (l.length : Int)
  | [], _ => by simp
  | x :: l, h => by
    have ih := sum_bd fun y hy => h y (List.mem_cons_of_mem _ hy)
    have hx := h x List.mem_cons_self
    rw [List.sum_cons, List.length_cons, Int.natCast_succ, Int.mul_add]
    omega
theorem le_sum {c y : Int} : ∀ {l : List Int}, (∀ x ∈ l, 0 ≤ x ∧ x ≤ c) → y ∈ l → y ≤ l.sum
  | [], _, h => by cases h
  | x :: l, h, hy => by
    have ih := sum_bd fun y hy => h y (List.mem_cons_of_mem _ hy)
    have hx := h x List.mem_cons_self
    rw [List.sum_cons]
    rcases List.mem_cons.mp hy with rfl | hy
    · omega
    · have := le_sum (fun y hy => h y (List.mem_cons_of_mem _ hy)) hy
      omega
theorem sum_ok (xs : List Int) : bi .sum [.lst (xs.map .int)] = .ok (.int xs.sum) := by
  have e : intsOf (.lst (xs.map .int)) = some xs := ints_map xs
  show (match intsOf (.lst (xs.map .int)) with | some ys => Res.ok (D.int ys.sum) | _ => .bad) = _
  rw [e]
/-- the parts over their sum -/
def qd (ps : List Int) : Row := ps.map fun (p : Int) => (p : Rat) / ((ps.sum : Int) : Rat)
structure POk (ps : List Int) (n : Nat) : Prop where
  len : ps.length = n
  bd : ∀ p ∈ ps, 0 ≤ p ∧ p ≤ 5
  pos : 0 < ps.sum
theorem qd_len {ps : List Int} {n : Nat} (h : POk ps n) : (qd ps).length = n := by unfold qd; rw [List.length_map, h.len]
theorem brow_qd {ps : List Int} {n : Nat} (h : POk ps n) (h6 : n ≤ 6) : BRow 6 (qd ps) := by
  have b := sum_bd h.bd
  have p := h.pos
  have l := h.len
  refine ⟨ps.sum.toNat, by omega, by omega, fun x hx => ?_⟩
  unfold qd at hx
  obtain ⟨z, hz, rfl⟩ := List.mem_map.mp hx
  have := h.bd z hz
  exact ⟨z, by rw [show ((ps.sum.toNat : Nat) : Int) = ps.sum by omega], by omega⟩
def bFillE (c : Nat) : E := .comp .seq [4] [(.var 2)] [] (.call c [(.var 4), (.bi .sum [(.var 2)])])
theorem fill_end {c : Nat} (hc : FrOk Φ c) {ps : List Int} {n : Nat} (h : POk ps n) (h6 : n ≤ 6) (X Y : D) : ev Φ (bFillE c) [some X, some Y, some (.lst (ps.map .int)), none, none] = .ok (fL (qd ps)) := by
  have b := sum_bd h.bd
  have p := h.pos
  have l := h.len
  have so := sum_ok ps
  unfold fL qd
  rw [List.map_map]
  refine comp_ok D.int _ rfl (len_le (by omega)) fun z hz => ⟨_, rfl, ?_⟩
  have zb := h.bd z hz
  have e := hc z ps.sum 6 6 (by omega) (by omega) (by decide) (by omega) (by decide)
  rw [fq_div (by omega)] at e
  show _ = Res.ok (fq ((z : Rat) / ((ps.sum : Int) : Rat)))
  generalize fq ((z : Rat) / ((ps.sum : Int) : Rat)) = R1 at *
  generalize ps.sum = SS at *
  generalize ps.map D.int = PM at *
  simp -implicitDefEqProofs [so, e]
def bFill (c : Nat) : List S := [.ownM 2 (.comp .r1 [3] [(.var 1)] [] (.idx (.lst [(.int 0), (.int 1), (.int 2), (.int 3), (.int 1), (.int 5)]) (.idx (.var 0) (.var 3)))), .ifs (.op .eq (.bi .sum [(.var 2)]) (.int 0)) [.setI 2 (.op .mod (.bi .int [(.bi .sum [(.shi (.var 0) (.var 1))])]) (.var 1)) (.int 1)] [], .ret (bFillE c)]
theorem fill_run {c : Nat} (hc : FrOk Φ c) {row : List Int} {n : Nat} (h0 : 0 < n) (h6 : n ≤ 6) (hrow : ∀ k, k < n → ∃ r, row[k]? = some r ∧ 0 ≤ r ∧ r < 6) :
    ∃ ps : List Int, POk ps n ∧ endR (exSs Φ (bFill c) (enter 5 [.lst (row.map .int), .int (n : Int)])) = .ok (.sh (fL (qd ps))) := by
  obtain ⟨ps, hps⟩ : ∃ ps : List Int, ps = (List.range n).map fun k => tb6 (row.getD k 0) := ⟨_, rfl⟩
  have pl : ps.length = n := by rw [hps]; simp
  have pb : ∀ p ∈ ps, 0 ≤ p ∧ p ≤ 5 := fun p hp => by
    rw [hps] at hp
    obtain ⟨k, hk, rfl⟩ := List.mem_map.mp hp
    obtain ⟨r, e, b1, b2⟩ := hrow k (List.mem_range.mp hk)
    rw [show row.getD k 0 = r by simp [List.getD, e]]
    exact (tab_ok b1 b2).2
  have comp : evO Φ (.comp .r1 [3] [(.var 1)] [] (.idx (.lst [(.int 0), (.int 1), (.int 2), (.int 3), (.int 1), (.int 5)]) (.idx (.var 0) (.var 3)))) [some (.lst (row.map .int)), some (.int (n : Int)), none, none, none] = .ok (ps.map .int) := by
    rw [evO_comp, hps, List.map_map]
    refine evC_rg (n := n) rfl (by omega) fun k hk => ?_
    obtain ⟨r, e, b1, b2⟩ := hrow k hk
    have i1 := ixRow e
    have i2 := (tab_ok b1 b2).1
    have l6 : 6 ≤ LINE := len_le (by decide)
    show _ = Res.ok (D.int (tb6 (row.getD k 0)))
    rw [show row.getD k 0 = r by simp [List.getD, e]]
    unfold tabD at i2
    generalize row.map D.int = RM at *
    generalize tb6 r = TR at *
    simp -implicitDefEqProofs [i1, i2, l6]
  have so := sum_ok ps
  have sn : ∀ qs : List Int, snapO [.ls ((qs.map D.int).map .sh)] (some (.loc 0)) = some (.lst (qs.map .int)) := fun qs => snapO_ls rfl
  have sb := sum_bd pb
  by_cases hs : ps.sum = 0
  · obtain ⟨i, hi⟩ : ∃ i : Nat, (row.take n).sum % (n : Int) = (i : Int) := ⟨((row.take n).sum % (n : Int)).toNat, by have := Int.emod_nonneg (row.take n).sum (show (n : Int) ≠ 0 by omega); omega⟩
    have hi2 : i < n := by
      have := Int.emod_lt_of_pos (row.take n).sum (show 0 < (n : Int) by omega)
      omega
    have P2 : POk (ps.set i 1) n := by
      have bd : ∀ p ∈ ps.set i 1, 0 ≤ p ∧ p ≤ 5 := fun p hp => by
        rcases List.mem_or_eq_of_mem_set hp with hp | rfl
        · exact pb p hp
        · decide
      refine ⟨by simpa using pl, bd, ?_⟩
      have := le_sum bd (List.mem_set (by omega) 1 : (1 : Int) ∈ ps.set i 1)
      omega
    refine ⟨_, P2, ?_⟩
    have fe := fill_end hc P2 h6 (.lst (row.map .int)) (.int (n : Int))
    have md := op2_mod (i := (row.take n).sum) (j := (n : Int)) (by omega)
    rw [hi] at md
    have sl : slR (.lst (row.map D.int)) none (some (n : Int)) = .ok (.lst ((row.take n).map .int)) := by
      show Res.ok (D.lst (cutD _ _ _)) = _
      rw [cut_to, List.map_take]
    have s2 := sum_ok (row.take n)
    have ixn : L2.ixN ((ps.map D.int).map SV.sh).length (i : Int) = some i := ixN_of (by omega) (by rw [List.length_map, List.length_map]; omega)
    have st : ((ps.map D.int).map SV.sh).set i (.sh (.int 1)) = ((ps.set i 1).map D.int).map .sh := by rw [List.map_set, List.map_set]
    have s3 := sn ps
    have s4 := sn (ps.set i 1)
    unfold bFill
    generalize fL (qd (ps.set i 1)) = RES at *
    generalize bFillE c = BE at *
    generalize (ps.set i 1).map D.int = P2M at *
    generalize P2M.map SV.sh = P2S at *
    generalize ps.map D.int = PM at *
    rw [hs] at so
    generalize (row.take n).map D.int = RT at *
    generalize (row.take n).sum = RS at *
    generalize row.map D.int = RM at *
    simp -implicitDefEqProofs [-List.length_map, -p_ev_comp, comp, s3, s4, so, sl, s2, md, ixn, st, fe, cellOf, D.noL]
  · have P2 : POk ps n := ⟨pl, pb, by omega⟩
    refine ⟨_, P2, ?_⟩
    have fe := fill_end hc P2 h6 (.lst (row.map .int)) (.int (n : Int))
    have s3 := sn ps
    unfold bFill
    generalize fL (qd ps) = RES at *
    generalize bFillE c = BE at *
    generalize ps.map D.int = PM at *
    generalize ps.sum = PS at *
    have hs' : (PS == 0) = false := by simp [hs]
    generalize row.map D.int = RM at *
    simp -implicitDefEqProofs [-p_ev_comp, comp, s3, so, hs, hs', fe]
end
end R.N
end

section
set_option Elab.async false
set_option linter.all false
set_option maxRecDepth 100000
/-! N10: fillings as lists of lists; things that are the same; loops that store. -/
namespace R.N
open R R.V
def fqL (q : Rat) : D := .lst [.int q.num, .int (q.den : Int)]
def fLL (r : Row) : D := .lst (r.map fqL)
theorem srcLL (r : Row) : srcR .seq [fLL r] = .ok (r.map fqL) := rfl
theorem lstd_fL (r : Row) : (fL r).lstd = fLL r := by
  unfold fL fLL
  rw [D.lstd, lstds_map, List.map_map]
  rfl
theorem tupd_fL (r : Row) : (fL r).tupd = fT r := by
  unfold fL fT
  rw [D.tupd, tupds_map, List.map_map]
  rfl
theorem tupd_fT (r : Row) : (fT r).tupd = fT r := by
  unfold fT
  rw [D.tupd, tupds_map, List.map_map]
  rfl
theorem sdue_fq (q : Rat) : D.sdue 1 (fq q) = true := rfl
theorem sdue_fqL (q : Rat) : D.sdue 1 (fqL q) = true := rfl
theorem sdue_fL {r : Row} (h : r.length < 1000000) : D.sdue 2 (fL r) = true := by
  unfold fL
  rw [D.sdue, Bool.and_eq_true, List.length_map, List.all_map, List.all_eq_true]
  exact ⟨decide_eq_true h, fun q _ => sdue_fq q⟩
theorem sdue_fLL {r : Row} (h : r.length < 1000000) : D.sdue 2 (fLL r) = true := by
  unfold fLL
  rw [D.sdue, Bool.and_eq_true, List.length_map, List.all_map, List.all_eq_true]
  exact ⟨decide_eq_true h, fun q _ => sdue_fqL q⟩
theorem sdue_iL {ms : List Int} (h : ms.length < 1000000) : D.sdue 2 (.lst (ms.map .int)) = true := by
  rw [D.sdue, Bool.and_eq_true, List.length_map, List.all_map, List.all_eq_true]
  exact ⟨decide_eq_true h, fun _ _ => rfl⟩
theorem sdue_iT {ms : List Int} (h : ms.length < 1000000) : D.sdue 2 (.tup (ms.map .int)) = true := by
  rw [D.sdue, Bool.and_eq_true, List.length_map, List.all_map, List.all_eq_true]
  exact ⟨decide_eq_true h, fun _ _ => rfl⟩
theorem lstd_iT (ms : List Int) : (D.tup (ms.map .int)).lstd = .lst (ms.map .int) := by
  rw [D.lstd, lstds_map, List.map_map]
  rfl
theorem sdue_l3 {x y z : D} (hx : D.sdue 2 x = true) (hy : D.sdue 2 y = true) (hz : D.sdue 2 z = true) : D.sdue 3 (.lst [x, y, z]) = true := by
  rw [D.sdue, List.all_cons, List.all_cons, List.all_cons, List.all_nil, hx, hy, hz]
  rfl
/-! ### equal things -/
mutual
theorem eqv_refl : ∀ (k : Nat) (d : D), D.sdue k d = true → D.eqv d d = true
  | _, .non, _ => rfl
  | _, .bl b, _ => by rw [D.eqv]; simp
  | _, .int i, _ => by rw [D.eqv]; simp
  | k + 1, .tup xs, h => by
    rw [D.sdue, Bool.and_eq_true] at h
    rw [D.eqv]
    exact eqvs_refl k xs h.2
  | k + 1, .lst xs, h => by
    rw [D.sdue, Bool.and_eq_true] at h
    rw [D.eqv]
    exact eqvs_refl k xs h.2
  | 0, .tup _, h => by cases h
  | 0, .lst _, h => by cases h
  | k, .str _, h => by cases k <;> cases h
  | k, .obj _ _, h => by cases k <;> cases h
  | k, .fz _, h => by cases k <;> cases h
theorem eqvs_refl : ∀ (k : Nat) (xs : List D), xs.all (D.sdue k) = true → D.eqv.eqvs xs xs = true
  | _, [], _ => rfl
  | k, x :: xs, h => by
    rw [List.all_cons, Bool.and_eq_true] at h
    rw [D.eqv.eqvs, eqv_refl k x h.1, eqvs_refl k xs h.2]
    rfl
end
theorem plain_sdue : ∀ (k : Nat) (d : D) (n : Nat), k ≤ n → D.sdue k d = true → D.plain n d = true
  | k, .non, n, _, _ => by cases n <;> rfl
  | k, .bl b, n, _, _ => by cases n <;> rfl
  | k, .int i, n, _, _ => by cases n <;> rfl
  | k + 1, .tup xs, n + 1, hn, h => by
    rw [D.sdue, Bool.and_eq_true] at h
    rw [D.plain, List.all_eq_true]
    exact fun x hx => plain_sdue k x n (by omega) (List.all_eq_true.mp h.2 x hx)
  | k + 1, .lst xs, n + 1, hn, h => by
    rw [D.sdue, Bool.and_eq_true] at h
    rw [D.plain, List.all_eq_true]
    exact fun x hx => plain_sdue k x n (by omega) (List.all_eq_true.mp h.2 x hx)
  | 0, .tup _, _, _, h => by cases h
  | 0, .lst _, _, _, h => by cases h
  | k, .str _, _, _, h => by cases k <;> cases h
  | k, .obj _ _, _, _, h => by cases k <;> cases h
  | k, .fz _, _, _, h => by cases k <;> cases h
theorem eq_self {k : Nat} {d : D} (h : D.sdue k d = true) (hk : k ≤ 20) : op2 .eq d d = .ok (.bl true) := by
  show eqR d d false = _
  unfold eqR
  rw [plain_sdue k d 20 hk h, eqv_refl k d h]
  rfl
theorem ne_self {k : Nat} {d : D} (h : D.sdue k d = true) (hk : k ≤ 20) : op2 .ne d d = .ok (.bl false) := by
  show eqR d d true = _
  unfold eqR
  rw [plain_sdue k d 20 hk h, eqv_refl k d h]
  rfl
theorem mul_lst {xs : List D} {k : Nat} (h : xs.length * k ≤ 1000000) (hk : k ≤ 1000000) : op2 .mul (.lst xs) (.int (k : Int)) = .ok (.lst (List.replicate k xs).flatten) := by
  have l := LINE_big
  rw [op2]
  have c : (decide (-(2 ^ 63) ≤ (k : Int)) && (decide ((k : Int) < 2 ^ 63) && decide (xs.length * (k : Int).toNat ≤ LINE))) = true := by
    simp only [Bool.and_eq_true, decide_eq_true_eq, Int.toNat_natCast]
    exact ⟨by omega, by omega, by omega⟩
  simp only [c, if_true]
  rw [Int.toNat_natCast]
theorem cut_lh (xs : List D) {lo hi : Nat} (h1 : lo ≤ hi) (h2 : hi ≤ xs.length) : cutD xs (some (lo : Int)) (some (hi : Int)) = (xs.drop lo).take (hi - lo) := by
  have e1 : HT.sIx xs.length 0 (some (lo : Int)) = lo := by
    show (if (lo : Int) < 0 then ((lo : Int) + (xs.length : Int)).toNat else min (lo : Int).toNat xs.length) = _
    rw [if_neg (by omega), Int.toNat_natCast, Nat.min_eq_left (by omega)]
  have e2 : HT.sIx xs.length xs.length (some (hi : Int)) = hi := by
    show (if (hi : Int) < 0 then ((hi : Int) + (xs.length : Int)).toNat else min (hi : Int).toNat xs.length) = _
    rw [if_neg (by omega), Int.toNat_natCast, Nat.min_eq_left (by omega)]
  unfold cutD
  rw [e1, e2]
theorem sl_ints (row : List Int) {lo hi : Nat} (h1 : lo ≤ hi) (h2 : hi ≤ row.length) : slR (.lst (row.map .int)) (some (lo : Int)) (some (hi : Int)) = .ok (.lst (((row.drop lo).take (hi - lo)).map .int)) := by
  show Res.ok (D.lst (cutD _ _ _)) = _
  rw [cut_lh _ h1 (by simpa using h2), List.map_take, List.map_drop]
section
variable {Φ : R.Or}
def TimL (Φ : R.Or) (i : Nat) : Prop := ∀ (A : Nat) (a b : Rat), Bd A a → Bd A b → A + A < 9000 → Φ i [fqL a, fq b] = .ok (.sh (fq (a * b)))
theorem timL_run {c : Nat} (hc : FrOk Φ c) {A : Nat} {a b : Rat} (ha : Bd A a) (hb : Bd A b) (hA : A + A < 9000) : endR (exSs Φ (bTim c) (enter 2 [fqL a, fq b])) = .ok (.sh (fq (a * b))) := by
  have m1 := opm ha.1 hb.1 (by omega)
  have m3 := opm (natAbs_lt' ha.2) (natAbs_lt' hb.2) (by omega)
  have e := hc _ _ (A + A) (A + A + 1) (Int.mul_pos (den_pos a) (den_pos b)) (natAbs_mul_lt' (natAbs_lt' ha.2) (natAbs_lt' hb.2)) hA (lt_pow (natAbs_mul_lt' ha.1 hb.1) (by omega)) (by omega)
  rw [mul_eq] at e
  have a0 : ixR (fqL a) (.int 0) = .ok (.int a.num) := rfl
  have a1 : ixR (fqL a) (.int 1) = .ok (.int (a.den : Int)) := rfl
  generalize fq (a * b) = R at *
  generalize fqL a = FA at *
  simp -implicitDefEqProofs [bTim, a0, a1, m1, m3, e]
theorem timL_p {ti : Nat} (h : TimL Φ ti) {a b : Int} (hx : XOk a b) {A : Nat} {q : Rat} (hq : Bd A q) (hA : A ≤ 4000) : Φ ti [fqL q, fq (p1 a b)] = .ok (.sh (fq (q * p1 a b))) ∧ Φ ti [fqL q, fq (p2 a b)] = .ok (.sh (fq (q * p2 a b))) := by
  obtain ⟨d1, d2⟩ := hx.bd
  have g : ∀ p, Bd 6 p → Φ ti [fqL q, fq p] = .ok (.sh (fq (q * p))) := fun p hp =>
    h (A + 6) q p ⟨lt_pow hq.1 (by omega), lt_pow hq.2 (by omega)⟩ ⟨lt_pow hp.1 (by omega), lt_pow hp.2 (by omega)⟩ (by omega)
  exact ⟨g _ d1, g _ d2⟩
theorem rsG_run {ra ti : Nat} (hr : FrOk Φ ra) {a b : Int} (hx : XOk a b) {X F : D} (hX : IsX X a b) {r : Row} {i : Rat → D} (src : srcR .seq [F] = .ok (r.map i)) (hl : r.length ≤ 1000) (tm : ∀ q ∈ r, Φ ti [i q, fq (p1 a b)] = .ok (.sh (fq (q * p1 a b))) ∧ Φ ti [i q, fq (p2 a b)] = .ok (.sh (fq (q * p2 a b)))) : endR (exSs Φ (bRS ra ti) (enter 5 [F, X])) = .ok (.sh (fL (shs a b r))) := by
  obtain ⟨f1, f2⟩ := fr_p hr hx
  have i0 := hX.i0
  have i1 := hX.i1
  have comp : ev Φ (.comp2 .seq [3] [(.var 0)] [] .seq [4] [(.var 2)] [] (.call ti [(.var 3), (.var 4)])) [some F, some X, some (.tup [fq (p1 a b), fq (p2 a b)]), none, none] = .ok (fL (shs a b r)) := by
    rw [ev_comp2C]
    unfold evC2
    have e0 : evs Φ [(.var 0)] [some F, some X, some (.tup [fq (p1 a b), fq (p2 a b)]), none, none] = .ok [F] := rfl
    rw [e0, Res.bind_ok, src, Res.bind_ok]
    rw [mapR_all (i := i) (g := fun q => [fq (q * p1 a b), fq (q * p2 a b)])]
    · rw [noEx_ok', Res.bind_ok]
      have e : (r.map fun q => [fq (q * p1 a b), fq (q * p2 a b)]).flatten = (shs a b r).map fq := by
        unfold shs
        rw [List.map_flatMap, List.flatMap_def]
        rfl
      rw [e, if_pos (by rw [List.length_map, shs_len]; exact len_le (by omega))]
      rfl
    · intro q hq
      obtain ⟨t1, t2⟩ := tm q hq
      generalize fq (q * p1 a b) = R1 at *
      generalize fq (q * p2 a b) = R2 at *
      generalize fq (p1 a b) = R3 at *
      generalize fq (p2 a b) = R4 at *
      generalize i q = R5 at *
      simp -implicitDefEqProofs [mapR, t1, t2]
  generalize fL (shs a b r) = FF at *
  generalize fq (p1 a b) = R3 at *
  generalize fq (p2 a b) = R4 at *
  simp -implicitDefEqProofs [-p_ev_comp2, bRS, i0, i1, f1, f2, comp, two_le_LINE]
/-- a loop that stores item by item -/
theorem st_loop {α : Type} {f : List α → Nat → List α} (hf : ∀ acc k, (f acc k).length = acc.length) {N n : Nat} {St : List α → PSt} {tg vs : List Nat} {m : Nat} {body : List S} (step : ∀ k acc, k < n → acc.length = N → ∃ s', frB Φ tg body (.int ((k : Nat) : Int)) (St acc) = .nx s' ∧ tidy vs m s' = some (St (f acc k))) :
    ∀ (ks : List Nat) (acc : List α), (∀ k ∈ ks, k < n) → acc.length = N → forR vs m (frB Φ tg body) (ks.map fun k => D.int ((k : Nat) : Int)) (St acc) = .nx (St (ks.foldl f acc))
  | [], _, _, _ => rfl
  | k :: ks, acc, hk, hl => by
    obtain ⟨s', e1, e2⟩ := step k acc (hk k List.mem_cons_self) hl
    rw [List.map_cons, forR_cons, e1, nextTurn_nx, e2, List.foldl_cons]
    exact st_loop hf step ks _ (fun j hj => hk j (List.mem_cons_of_mem _ hj)) (by rw [hf]; exact hl)
end
/-! ### rows that start with sums -/
theorem brow_pre {A : Nat} {r : Row} (h : BRow A r) : BRow (A + r.length) (pre r) := by
  obtain ⟨M, h0, h1, h2⟩ := h
  refine ⟨M, h0, lt_pow h1 (by omega), fun x hx => ?_⟩
  unfold pre at hx
  obtain ⟨k, hk, rfl⟩ := List.mem_map.mp hx
  have o := ov_sm (a := A) h0 (r := r.take k) fun y hy => h2 y (List.mem_of_mem_take hy)
  exact Ov.mono o (by rw [List.length_take]; omega)
theorem at_pre {r : Row} {k : Nat} (h : k ≤ r.length) : at_ (pre r) k = sm (r.take k) := by
  unfold at_ pre
  simp [List.getD, show k < r.length + 1 by omega]
/-- the k-th of a list of fractions -/
theorem ix_fL {r : Row} {k : Nat} (h : k < r.length) : ixR (fL r) (.int (k : Int)) = .ok (fq (V.at_ r k)) := IsF.ix (.inl rfl) h
theorem SRn_len (a b : Int) : ∀ (k : Nat) (r : Row), (SRn a b k r).length = r.length
  | 0, r => rfl
  | k + 1, r => by rw [SRn, SRn_len a b k, SR_len]
theorem evn_len (n : Nat) : (evn n).length = n := by unfold evn; simp
end R.N
end

section
set_option Elab.async false
set_option linter.all false
set_option maxRecDepth 100000
/-! N11: fillings that rest; ladders. -/
namespace R.N
open R R.V
/-! ### the greatest sums are met by the first ones -/
theorem smx_zero {t : Rat} : ∀ {l : List Rat}, sm (l.map (mx t)) = 0 → ∀ x ∈ l, x ≤ t
  | [], _, x, hx => by cases hx
  | y :: l, h, x, hx => by
    rw [List.map_cons, sm] at h
    have h1 := smx_nn t l
    have h2 := mx_nn t y
    have h3 := mx_le t y
    have e1 : mx t y = 0 := by grind
    have e2 : sm (l.map (mx t)) = 0 := by grind
    rcases List.mem_cons.mp hx with rfl | hx
    · grind
    · exact smx_zero e2 x hx
theorem up_eq (t : Rat) : ∀ (l : List Rat) (k : Nat), k ≤ l.length → sm (l.take k) = (k : Rat) * t + sm (l.map (mx t)) → (∀ x ∈ l.take k, t ≤ x) ∧ ∀ x ∈ l.drop k, x ≤ t
  | l, 0, _, h => by
    have e : sm (l.map (mx t)) = 0 := by
      have z : sm (l.take 0) = 0 := by simp [sm]
      have c : ((0 : Nat) : Rat) = 0 := rfl
      rw [z, c] at h
      grind
    exact ⟨fun x hx => (by simp at hx), fun x hx => smx_zero e x (by simpa using hx)⟩
  | [], k + 1, h, _ => by simp at h
  | x :: l, k + 1, hk, h => by
    have hk' : k ≤ l.length := by simpa using hk
    have u := up t l k hk'
    have m := mx_le t x
    have m0 := mx_nn t x
    have e : ((k + 1 : Nat) : Rat) = (k : Rat) + 1 := by simp
    rw [List.take_succ_cons, sm, List.map_cons, sm, e] at h
    have e1 : sm (l.take k) = (k : Rat) * t + sm (l.map (mx t)) := by grind
    have e2 : x = t + mx t x := by grind
    obtain ⟨i1, i2⟩ := up_eq t l k hk' e1
    refine ⟨fun y hy => ?_, by simpa using i2⟩
    rw [List.take_succ_cons] at hy
    rcases List.mem_cons.mp hy with rfl | hy
    · grind
    · exact i1 y hy
theorem top_first {l : List Rat} {m : Nat} (hm : m < l.length) (h : sm (l.take (m + 1)) = sm ((srt l).take (m + 1))) {x y : Rat} (hx : x ∈ l.take (m + 1)) (hy : y ∈ l.drop (m + 1)) : y ≤ x := by
  have hl : m < (srt l).length := by rw [srt_len]; exact hm
  have e := dsc_at (srt_dsc l) hl
  have e2 : sm ((srt l).map (mx (srt l)[m])) = sm (l.map (mx (srt l)[m])) := sm_perm ((srt_perm l).map _)
  rw [e2] at e
  obtain ⟨i1, i2⟩ := up_eq (srt l)[m] l (m + 1) hm (by rw [h, e])
  have := i1 x hx
  have := i2 y hy
  grind
/-! ### the parts of a round -/
/-- a quotient: above zero, at most 1 -/
structure XR (x : Rat) : Prop where
  pos : 0 < x
  one : x ≤ 1
  ok : XOk x.num (x.den : Int)
theorem XR.p {x : Rat} (h : XR x) : p1 x.num (x.den : Int) + p2 x.num (x.den : Int) = 1 ∧ p2 x.num (x.den : Int) = x * p1 x.num (x.den : Int) ∧ 0 < p1 x.num (x.den : Int) := by
  obtain ⟨h1, h2, h3⟩ := h.ok
  have q := q_eq x
  unfold p1 p2
  generalize hn : x.num = n at *
  generalize hd : (x.den : Int) = d at *
  have e : ((n + d : Int) : Rat) = (n : Rat) + (d : Rat) := by simp
  have s0 : (0 : Rat) < ((n + d : Int) : Rat) := by
    have : ((0 : Int) : Rat) < ((n + d : Int) : Rat) := Rat.intCast_lt_intCast.mpr (by omega)
    simpa using this
  have d0 : (0 : Rat) < (d : Rat) := by
    have : ((0 : Int) : Rat) < (d : Rat) := Rat.intCast_lt_intCast.mpr (by omega)
    simpa using this
  refine ⟨?_, ?_, ?_⟩
  · generalize ((n + d : Int) : Rat) = S at *
    have n1 : S ≠ 0 := by grind
    grind
  · rw [q]
    generalize ((n + d : Int) : Rat) = S at *
    have n1 : S ≠ 0 := by grind
    have n2 : (d : Rat) ≠ 0 := by grind
    grind
  · generalize ((n + d : Int) : Rat) = S at *
    rw [Rat.div_def]
    exact Rat.mul_pos d0 (Rat.inv_pos.mpr s0)
theorem pr_shs {a b : Int} (h : p1 a b + p2 a b = 1) : ∀ r : Row, pr (shs a b r) = r
  | [] => rfl
  | q :: r => by
    rw [shs_cons, pr, pr_shs h r]
    congr 1
    grind
theorem shs_get (a b : Int) : ∀ (r : Row) (k : Nat), (shs a b r)[2 * k]? = (r[k]?).map (· * p1 a b) ∧ (shs a b r)[2 * k + 1]? = (r[k]?).map (· * p2 a b)
  | [], k => by simp [shs]
  | q :: r, 0 => by rw [shs_cons]; exact ⟨rfl, rfl⟩
  | q :: r, k + 1 => by
    obtain ⟨i1, i2⟩ := shs_get a b r k
    rw [shs_cons, show 2 * (k + 1) = 2 * k + 1 + 1 by omega]
    exact ⟨by simpa using i1, by simpa using i2⟩
/-! ### fillings that rest -/
def rst (x : Rat) : Row → Prop
  | a :: b :: r => b ≤ x * a ∧ rst x (b :: r)
  | _ => True
theorem rst_tail {x a : Rat} {r : Row} (h : rst x (a :: r)) : rst x r := by
  cases r with
  | nil => trivial
  | cons b r => exact h.2
theorem rst_iff (x : Rat) : ∀ r : Row, rst x r ↔ ∀ k, k + 1 < r.length → at_ r (k + 1) ≤ x * at_ r k
  | [] => ⟨fun _ k h => by simp at h, fun _ => trivial⟩
  | [_] => ⟨fun _ k h => by simp at h, fun _ => trivial⟩
  | a :: b :: r => by
    have ih := rst_iff x (b :: r)
    rw [rst, ih]
    constructor
    · rintro ⟨h1, h2⟩ k hk
      cases k with
      | zero => exact h1
      | succ k => exact h2 k (by simpa using hk)
    · intro h
      exact ⟨h 0 (by simp), fun k hk => h (k + 1) (by simpa using hk)⟩
theorem rst_le {x : Rat} (h0 : 0 ≤ x) (h1 : x ≤ 1) : ∀ {r : Row} {a : Rat}, (∀ q ∈ a :: r, 0 ≤ q) → rst x (a :: r) → ∀ q ∈ r, q ≤ x * a
  | [], a, _, _, q, hq => by cases hq
  | b :: r, a, nn, h, q, hq => by
    have hb := h.1
    rcases List.mem_cons.mp hq with rfl | hq
    · exact hb
    · have ih := rst_le h0 h1 (r := r) (a := b) (fun y hy => nn y (List.mem_cons_of_mem _ hy)) h.2 q hq
      have nb := nn b (by simp)
      have : x * b ≤ 1 * b := Rat.mul_le_mul_of_nonneg_right h1 nb
      grind
theorem rst_dsc {x : Rat} (h0 : 0 ≤ x) (h1 : x ≤ 1) : ∀ {r : Row}, (∀ q ∈ r, 0 ≤ q) → rst x r → Dsc r
  | [], _, _ => List.Pairwise.nil
  | a :: r, nn, h => by
    refine List.pairwise_cons.mpr ⟨fun q hq => ?_, rst_dsc h0 h1 (fun y hy => nn y (List.mem_cons_of_mem _ hy)) (rst_tail h)⟩
    have := rst_le h0 h1 nn h q hq
    have na := nn a (by simp)
    have : x * a ≤ 1 * a := Rat.mul_le_mul_of_nonneg_right h1 na
    grind
theorem shs_mem {a b : Int} {r : Row} {y : Rat} (h : y ∈ shs a b r) : ∃ q ∈ r, y = q * p1 a b ∨ y = q * p2 a b := by
  unfold shs at h
  obtain ⟨q, hq, h⟩ := List.mem_flatMap.mp h
  refine ⟨q, hq, ?_⟩
  simpa using h
theorem shs_dsc {x : Rat} (X : XR x) : ∀ {r : Row}, (∀ q ∈ r, 0 ≤ q) → rst x r → Dsc (shs x.num (x.den : Int) r)
  | [], _, _ => List.Pairwise.nil
  | a :: r, nn, h => by
    obtain ⟨e1, e2, e3⟩ := X.p
    have x0 : 0 ≤ x := by have := X.pos; grind
    have ih := shs_dsc X (r := r) (fun y hy => nn y (List.mem_cons_of_mem _ hy)) (rst_tail h)
    have le := rst_le x0 X.one nn h
    have na := nn a (by simp)
    have one := X.one
    rw [shs_cons]
    have mem : ∀ y ∈ shs x.num (x.den : Int) r, ∃ q ∈ r, y = q * p1 x.num (x.den : Int) ∨ y = q * p2 x.num (x.den : Int) := fun y hy => shs_mem hy
    generalize p1 x.num (x.den : Int) = P1 at *
    generalize p2 x.num (x.den : Int) = P2 at *
    have p2le : P2 ≤ P1 := by
      have : x * P1 ≤ 1 * P1 := Rat.mul_le_mul_of_nonneg_right one (by grind)
      grind
    have key : ∀ y ∈ shs x.num (x.den : Int) r, y ≤ a * P2 := fun y hy => by
      obtain ⟨q, hq, hy⟩ := mem y hy
      have l1 := le q hq
      have nq := nn q (List.mem_cons_of_mem _ hq)
      have l2 : q * P1 ≤ x * a * P1 := Rat.mul_le_mul_of_nonneg_right l1 (by grind)
      have l3 : q * P2 ≤ q * P1 := Rat.mul_le_mul_of_nonneg_left p2le nq
      have e4 : x * a * P1 = a * P2 := by rw [e2]; grind
      rcases hy with hy | hy
      · grind
      · grind
    have l4 : a * P2 ≤ a * P1 := Rat.mul_le_mul_of_nonneg_left p2le na
    refine List.pairwise_cons.mpr ⟨fun y hy => ?_, List.pairwise_cons.mpr ⟨fun y hy => key y hy, ih⟩⟩
    rcases List.mem_cons.mp hy with rfl | hy
    · exact l4
    · have := key y hy
      grind
/-- a sorted round leaves just the fillings that rest -/
theorem SR_rest {x : Rat} (X : XR x) {r : Row} (nn : ∀ q ∈ r, 0 ≤ q) : SR x.num (x.den : Int) r = r ↔ rst x r := by
  obtain ⟨e1, e2, e3⟩ := X.p
  constructor
  · intro h
    rw [rst_iff]
    intro k hk
    have hl := shs_len x.num (x.den : Int) r
    have t1 := pr_take (shs x.num (x.den : Int) r) (k + 1) (by omega)
    have t2 := pr_take (srt (shs x.num (x.den : Int) r)) (k + 1) (by rw [srt_len]; omega)
    rw [pr_shs e1] at t1
    unfold SR at h
    rw [h] at t2
    obtain ⟨g1, g2⟩ := shs_get x.num (x.den : Int) r k
    obtain ⟨g3, g4⟩ := shs_get x.num (x.den : Int) r (k + 1)
    have a1 : r[k]? = some (at_ r k) := by unfold at_; simp [List.getD, show k < r.length by omega]
    have a2 : r[k + 1]? = some (at_ r (k + 1)) := by unfold at_; simp [List.getD, hk]
    rw [a1] at g2
    rw [a2] at g3
    have f := top_first (l := shs x.num (x.den : Int) r) (m := 2 * k + 1) (by omega) (by
      rw [show 2 * k + 1 + 1 = 2 * (k + 1) by omega, ← t1, ← t2]) (x := at_ r k * p2 x.num (x.den : Int)) (y := at_ r (k + 1) * p1 x.num (x.den : Int)) (List.mem_of_getElem? (i := 2 * k + 1) (by rw [List.getElem?_take_of_lt (by omega)]; exact g2)) (List.mem_of_getElem? (i := 0) (by
        rw [List.getElem?_drop, show 2 * k + 1 + 1 + 0 = 2 * (k + 1) by omega]; exact g3))
    rw [e2] at f
    have f : at_ r (k + 1) * p1 x.num (x.den : Int) ≤ (x * at_ r k) * p1 x.num (x.den : Int) := by grind
    exact Rat.le_of_mul_le_mul_right f e3
  · intro h
    have d := shs_dsc X nn h
    unfold SR
    rw [← srt_uniq d (List.Perm.refl _), pr_shs e1]
/-! ### ladders -/
/-- each x times the one before -/
def geo (x : Rat) : Row → Prop
  | a :: b :: r => b = x * a ∧ geo x (b :: r)
  | _ => True
theorem geo_tail {x a : Rat} {r : Row} (h : geo x (a :: r)) : geo x r := by
  cases r with
  | nil => trivial
  | cons b r => exact h.2
theorem geo_rst {x : Rat} : ∀ {r : Row}, geo x r → rst x r
  | [], _ => trivial
  | [_], _ => trivial
  | a :: b :: r, h => ⟨by rw [h.1]; exact Rat.le_refl, geo_rst h.2⟩
theorem tails {x a c : Rat} (h0 : 0 ≤ x) (hc : 0 ≤ c) : ∀ (f L : Row) (b d : Rat), f.length = L.length → c * b ≤ a * d → rst x (b :: f) → geo x (d :: L) → ∀ j, c * sm (f.drop j) ≤ a * sm (L.drop j)
  | [], [], b, d, _, _, _, _, j => by simp [sm]
  | [], _ :: _, b, d, e, _, _, _, j => by simp at e
  | _ :: _, [], b, d, e, _, _, _, j => by simp at e
  | b' :: f, d' :: L, b, d, e, h, hr, hg, j => by
    have l1 : c * b' ≤ c * (x * b) := Rat.mul_le_mul_of_nonneg_left hr.1 hc
    have l2 : x * (c * b) ≤ x * (a * d) := Rat.mul_le_mul_of_nonneg_left h h0
    have e1 := hg.1
    have l3 : c * b' ≤ a * d' := by rw [e1]; grind
    have ih := tails h0 hc f L b' d' (by simpa using e) l3 hr.2 hg.2
    cases j with
    | zero =>
      have := ih 0
      simp only [List.drop_zero, sm] at this ⊢
      grind
    | succ j => simpa using ih j
theorem sm_split (l : Row) (k : Nat) : sm l = sm (l.take k) + sm (l.drop k) := by
  rw [← sm_app, List.take_append_drop]
/-- no resting filling falls below the ladder's sums -/
theorem above {x : Rat} (h0 : 0 ≤ x) : ∀ (f L : Row), f.length = L.length → (∀ q ∈ L, 0 ≤ q) → rst x f → geo x L → ∀ k, sm f * sm (L.take k) ≤ sm (f.take k) * sm L
  | [], [], _, _, _, _, k => by simp [sm]
  | [], _ :: _, e, _, _, _, k => by simp at e
  | _ :: _, [], e, _, _, _, k => by simp at e
  | a :: f, c :: L, e, nn, hr, hg, 0 => by simp [sm]
  | a :: f, c :: L, e, nn, hr, hg, k + 1 => by
    have e' : f.length = L.length := by simpa using e
    have hc := nn c (by simp)
    have ih := above h0 f L e' (fun q hq => nn q (List.mem_cons_of_mem _ hq)) (rst_tail hr) (geo_tail hg) k
    have t := tails (a := a) h0 hc f L a c e' (by grind) hr hg k
    have s1 := sm_split f k
    have s2 := sm_split L k
    simp only [List.take_succ_cons, sm]
    generalize sm (f.take k) = F1 at *
    generalize sm (f.drop k) = F2 at *
    generalize sm (L.take k) = L1 at *
    generalize sm (L.drop k) = L2 at *
    rw [s1, s2] at ih ⊢
    grind
end R.N
end

section
set_option Elab.async false
set_option linter.all false
set_option maxRecDepth 100000
/-! N12: tests over all items; comparing; fillings that rest; powers, ladders; normed parts; the law's own order once more. -/
namespace R.N
open R R.V
/-! ### loops -/
theorem forR_test {vs : List Nat} {n : Nat} {b : D → PSt → Out} {s : PSt} {t : T} {p : Nat → Bool} {i : Nat → D} : ∀ ks : List Nat, (∀ k ∈ ks, (p k = true → ∃ s', b (i k) s = .nx s' ∧ tidy vs n s' = some s) ∧ (p k = false → b (i k) s = .rt t)) → forR vs n b (ks.map i) s = if ks.all p then .nx s else .rt t
  | [], _ => rfl
  | k :: ks, h => by
    obtain ⟨h1, h2⟩ := h k List.mem_cons_self
    have ih := forR_test ks fun j hj => h j (List.mem_cons_of_mem _ hj)
    rw [List.map_cons, forR_cons, List.all_cons]
    cases hp : p k with
    | true =>
      obtain ⟨s', e1, e2⟩ := h1 hp
      rw [e1, nextTurn_nx, e2, Bool.true_and]
      exact ih
    | false => rw [h2 hp, nextTurn_rt]; rfl
theorem forR_and {vs : List Nat} {n : Nat} {b : D → PSt → Out} {st : Bool → PSt} {p : Nat → Bool} {i : Nat → D} : ∀ (ks : List Nat) (d : Bool), (∀ k ∈ ks, ∀ d, ∃ s', b (i k) (st d) = .nx s' ∧ tidy vs n s' = some (st (d && p k))) → forR vs n b (ks.map i) (st d) = .nx (st (d && ks.all p))
  | [], d, _ => by simp
  | k :: ks, d, h => by
    obtain ⟨s', e1, e2⟩ := h k List.mem_cons_self d
    rw [List.map_cons, forR_cons, e1, nextTurn_nx, e2]
    show forR vs n b (ks.map i) (st (d && p k)) = _
    rw [forR_and ks _ fun j hj => h j (List.mem_cons_of_mem _ hj), List.all_cons, Bool.and_assoc]
theorem forR_app {α : Type} {vs : List Nat} {n : Nat} {b : D → PSt → Out} {st : List α → PSt} {g : Nat → α} {i : Nat → D} {N : Nat} : ∀ (ks : List Nat) (acc : List α), acc.length + ks.length ≤ N → (∀ k ∈ ks, ∀ acc : List α, acc.length ≤ N → ∃ s', b (i k) (st acc) = .nx s' ∧ tidy vs n s' = some (st (acc ++ [g k]))) → forR vs n b (ks.map i) (st acc) = .nx (st (acc ++ ks.map g))
  | [], acc, _, _ => by simp
  | k :: ks, acc, hl, h => by
    rw [List.length_cons] at hl
    obtain ⟨s', e1, e2⟩ := h k List.mem_cons_self acc (by omega)
    rw [List.map_cons, forR_cons, e1, nextTurn_nx, e2]
    show forR vs n b (ks.map i) (st (acc ++ [g k])) = _
    rw [forR_app ks _ (by simp; omega) fun j hj => h j (List.mem_cons_of_mem _ hj), List.append_assoc]
    rfl
theorem rr1 {n : Nat} (h : n ≤ 100000) : srcR .r2 [.int 1, .int (n : Int)] = .ok ((List.range (n - 1)).map fun k => D.int ((k + 1 : Nat) : Int)) := by
  rw [srcR_r2 (rngOk_of (by omega) (by omega) (by omega) (by omega) (by omega))]
  unfold rng
  rw [show ((n : Int) - 1).toNat = n - 1 by omega]
  congr 1
  apply List.map_congr_left
  intro k _
  congr 1
  omega
/-! ### data -/
theorem eq_bl (a b : Bool) : op2 .eq (.bl a) (.bl b) = .ok (.bl (a == b)) := by cases a <;> cases b <;> rfl
theorem ne_bl (a b : Bool) : op2 .ne (.bl a) (.bl b) = .ok (.bl (a != b)) := by cases a <;> cases b <;> rfl
theorem eqv_fq (a b : Rat) : (fq a).eqv (fq b) = decide (a = b) := by
  unfold fq
  rw [D.eqv, D.eqv.eqvs, D.eqv.eqvs, D.eqv.eqvs, D.eqv, D.eqv]
  by_cases h : a = b
  · subst h; simp
  · have : ¬ (a.num = b.num ∧ (a.den : Int) = (b.den : Int)) := fun ⟨h1, h2⟩ => h (Rat.ext h1 (by omega))
    simp only [h, decide_false, Bool.and_true]
    by_cases h1 : a.num = b.num
    · have h2 : ¬ (a.den : Int) = (b.den : Int) := fun q => this ⟨h1, q⟩
      simp [h2]
    · simp [h1]
theorem eqvs_fq : ∀ r s : Row, D.eqv.eqvs (r.map fq) (s.map fq) = decide (r = s)
  | [], [] => rfl
  | [], _ :: _ => rfl
  | _ :: _, [] => rfl
  | a :: r, b :: s => by
    rw [List.map_cons, List.map_cons, D.eqv.eqvs, eqv_fq, eqvs_fq r s]
    by_cases h1 : a = b <;> by_cases h2 : r = s <;> simp [h1, h2]
theorem eq_fL {r s : Row} (hr : r.length < 1000000) (hs : s.length < 1000000) : op2 .eq (fL r) (fL s) = .ok (.bl (decide (r = s))) := by
  show eqR (fL r) (fL s) false = _
  unfold eqR
  rw [plain_sdue 2 (fL r) 20 (by decide) (sdue_fL hr), plain_sdue 2 (fL s) 20 (by decide) (sdue_fL hs)]
  unfold fL
  rw [D.eqv, eqvs_fq]
  simp
/-- a fraction: a tuple or a list -/
structure IsQ (d : D) (q : Rat) : Prop where
  i0 : ixR d (.int 0) = .ok (.int q.num)
  i1 : ixR d (.int 1) = .ok (.int (q.den : Int))
theorem isQ (q : Rat) : IsQ (fq q) q := ⟨rfl, rfl⟩
theorem isQL (q : Rat) : IsQ (fqL q) q := ⟨rfl, rfl⟩
/-- a row of such -/
structure IsR (d : D) (r : Row) : Prop where
  len : bi .len [d] = .ok (.int (r.length : Int))
  ix : ∀ j, j < r.length → ∃ e, ixR d (.int (j : Int)) = .ok e ∧ IsQ e (V.at_ r j)
theorem IsF.isR {d : D} {r : Row} (h : IsF d r) : IsR d r := ⟨h.len, fun j hj => ⟨_, h.ix hj, isQ _⟩⟩
theorem isRL (r : Row) : IsR (fLL r) r := by
  refine ⟨by unfold fLL; rw [bi_lenL, List.length_map], fun j hj => ⟨fqL (V.at_ r j), ?_, isQL _⟩⟩
  exact ix_at (by rw [List.getElem?_map, List.getElem?_eq_getElem hj]; simp [V.at_, List.getD, hj])
theorem bd_mul {A B : Nat} {a b : Rat} (ha : Bd A a) (hb : Bd B b) : Bd (A + B) (a * b) := by
  have d0 : 0 < a.den * b.den := Nat.mul_pos a.den_pos b.den_pos
  have e : a * b = ((a.num * b.num : Int) : Rat) / (((a.den * b.den : Nat) : Int) : Rat) := by
    have h1 := q_eq a
    have h2 := q_eq b
    have h3 := den_ne a
    have h4 := den_ne b
    rw [Int.natCast_mul, Rat.intCast_mul, Rat.intCast_mul]
    grind
  refine Ov.bd ⟨_, e, natAbs_mul_lt' ha.1 hb.1⟩ d0 ?_
  rw [Nat.pow_add]
  exact Nat.mul_lt_mul'' ha.2 hb.2
theorem bd_up {A B : Nat} {a : Rat} (h : Bd A a) (hAB : A ≤ B) : Bd B a := ⟨lt_pow h.1 hAB, lt_pow h.2 hAB⟩
theorem lcs_lt {A : Nat} : ∀ (e : Row) (c B : Nat), 0 < c → c < 2 ^ B → (∀ q ∈ e, Bd A q) → lcs e c < 2 ^ (B + A * e.length)
  | [], c, B, h0, h1, _ => by show c < _; simpa using h1
  | q :: e, c, B, h0, h1, hb => by
    have bq := hb q List.mem_cons_self
    have hl : Nat.lcm c q.den < 2 ^ (B + A) := by
      have : Nat.lcm c q.den ≤ c * q.den := Nat.le_of_dvd (Nat.mul_pos h0 q.den_pos) (Nat.lcm_dvd (Nat.dvd_mul_right _ _) (Nat.dvd_mul_left _ _))
      have h3 : c * q.den < 2 ^ (B + A) := by rw [Nat.pow_add]; exact Nat.mul_lt_mul'' h1 bq.2
      omega
    have ih := lcs_lt e (Nat.lcm c q.den) (B + A) (Nat.lcm_pos h0 q.den_pos) hl fun x hx => hb x (List.mem_cons_of_mem _ hx)
    rw [List.length_cons, Nat.mul_add]
    exact lt_pow ih (by omega)
theorem brow_bd {A : Nat} {r : Row} (h : ∀ q ∈ r, Bd A q) : BRow (1 + A * r.length + A) r := by
  have small := lcs_lt r 1 1 (by decide) (by decide) h
  refine ⟨Lc r, Lc_pos r, lt_pow small (by omega), fun q hq => ⟨q.num * ((Lc r / q.den : Nat) : Int), ?_, ?_⟩⟩
  · have e := wp_q hq
    rw [e]
    have l0 : ((Lc r : Int) : Rat) ≠ 0 := ne0 (Lc_pos r)
    grind
  · have hle : Lc r / q.den < 2 ^ (1 + A * r.length) := Nat.lt_of_le_of_lt (Nat.div_le_self _ _) small
    rw [Nat.add_comm]
    exact natAbs_mul_lt' (h q hq).1 (natAbs_lt' hle)
section
variable {Φ : R.Or}
/-! ### multiplying, comparing, whatever the form -/
def TimQ (Φ : R.Or) (i : Nat) : Prop := ∀ (A : Nat) (a b : Rat) (X Y : D), IsQ X a → IsQ Y b → Bd A a → Bd A b → A + A < 9000 → Φ i [X, Y] = .ok (.sh (fq (a * b)))
theorem timQ_run {c : Nat} (hc : FrOk Φ c) {A : Nat} {a b : Rat} {X Y : D} (hX : IsQ X a) (hY : IsQ Y b) (ha : Bd A a) (hb : Bd A b) (hA : A + A < 9000) : endR (exSs Φ (bTim c) (enter 2 [X, Y])) = .ok (.sh (fq (a * b))) := by
  have m1 := opm ha.1 hb.1 (by omega)
  have m3 := opm (natAbs_lt' ha.2) (natAbs_lt' hb.2) (by omega)
  have e := hc _ _ (A + A) (A + A + 1) (Int.mul_pos (den_pos a) (den_pos b)) (natAbs_mul_lt' (natAbs_lt' ha.2) (natAbs_lt' hb.2)) hA (lt_pow (natAbs_mul_lt' ha.1 hb.1) (by omega)) (by omega)
  rw [mul_eq] at e
  obtain ⟨a0, a1⟩ := hX
  obtain ⟨b0, b1⟩ := hY
  generalize fq (a * b) = R at *
  simp -implicitDefEqProofs [bTim, a0, a1, b0, b1, m1, m3, e]
def bComp : List S := [.set 2 (.op .mul (.idx (.var 0) (.int 0)) (.idx (.var 1) (.int 1))), .set 3 (.op .mul (.idx (.var 1) (.int 0)) (.idx (.var 0) (.int 1))), .ifs (.op .lt (.var 2) (.var 3)) [.ret (.un .neg (.int 1))] [], .ifs (.op .gt (.var 2) (.var 3)) [.ret (.int 1)] [], .ret (.int 0)]
def CmpQ (Φ : R.Or) (f : Nat) : Prop := ∀ (A : Nat) (a b : Rat) (X Y : D), IsQ X a → IsQ Y b → Bd A a → Bd A b → A ≤ 5000 → Φ f [X, Y] = .ok (.sh (.int (cmpI a b)))
theorem comp_run {A : Nat} {a b : Rat} {X Y : D} (hX : IsQ X a) (hY : IsQ Y b) (ha : Bd A a) (hb : Bd A b) (hA : A ≤ 5000) : endR (exSs Φ bComp (enter 4 [X, Y])) = .ok (.sh (.int (cmpI a b))) := by
  have m1 := opm ha.1 (natAbs_lt' hb.2) (by omega)
  have m2 := opm hb.1 (natAbs_lt' ha.2) (by omega)
  obtain ⟨a0, a1⟩ := hX
  obtain ⟨b0, b1⟩ := hY
  have c1 := cmp_num a b
  have c2 := cmp_num b a
  unfold cmpI
  by_cases h1 : a < b
  · have h2 : ¬ b < a := by grind
    have g1 := c2.mpr h1
    have g2 : ¬ _ := fun q => h2 (c1.mp q)
    generalize a.num * (b.den : Int) = U at *
    generalize b.num * (a.den : Int) = V at *
    simp -implicitDefEqProofs [bComp, a0, a1, b0, b1, m1, m2, g1, h1, h2]
  · have g1 : ¬ _ := fun q => h1 (c2.mp q)
    by_cases h2 : b < a
    · have g2 := c1.mpr h2
      generalize a.num * (b.den : Int) = U at *
      generalize b.num * (a.den : Int) = V at *
      simp -implicitDefEqProofs [bComp, a0, a1, b0, b1, m1, m2, g1, g2, h1, h2]
    · have g2 : ¬ _ := fun q => h2 (c1.mp q)
      generalize a.num * (b.den : Int) = U at *
      generalize b.num * (a.den : Int) = V at *
      simp -implicitDefEqProofs [bComp, a0, a1, b0, b1, m1, m2, g1, g2, h1, h2]
/-! ### rests -/
def okB (x : Rat) (r : Row) (k : Nat) : Bool := decide (V.at_ r (k + 1) ≤ x * V.at_ r k)
def rstB (x : Rat) (r : Row) : Bool := (List.range (r.length - 1)).all (okB x r)
theorem rstB_iff (x : Rat) (r : Row) : rstB x r = true ↔ rst x r := by
  unfold rstB okB
  rw [List.all_eq_true, rst_iff]
  constructor
  · intro h k hk
    simpa using h k (List.mem_range.mpr (by omega))
  · intro h k hk
    have := List.mem_range.mp hk
    simpa using h k (by omega)
theorem cmp_le (a b : Rat) : (0 < cmpI a b) ↔ ¬ a ≤ b := by
  rw [cmp_pos]
  exact Rat.not_le.symm
def bRests (co ti : Nat) : List S := [.fr .r2 [2] [(.int 1), (.bi .len [(.var 0)])] [.ifs (.op .gt (.call co [(.idx (.var 0) (.var 2)), (.call ti [(.var 1), (.idx (.var 0) (.op .sub (.var 2) (.int 1)))])]) (.int 0)) [.ret (.bl false)] []] [2], .ret (.bl true)]
theorem rests_run {co ti : Nat} (hc : CmpQ Φ co) (ht : TimQ Φ ti) {A : Nat} {x : Rat} {r : Row} {F X : D} (hF : IsR F r) (hX : IsQ X x) (bx : Bd A x) (hb : ∀ q ∈ r, Bd A q) (hl : r.length ≤ 1000) (hA : A ≤ 2000) : endR (exSs Φ (bRests co ti) (enter 3 [F, X])) = .ok (.sh (.bl (rstB x r))) := by
  have ln := hF.len
  have src := rr1 (n := r.length) (by omega)
  have loop := forR_test (vs := [2]) (n := 0) (b := frB Φ [2] [.ifs (.op .gt (.call co [(.idx (.var 0) (.var 2)), (.call ti [(.var 1), (.idx (.var 0) (.op .sub (.var 2) (.int 1)))])]) (.int 0)) [.ret (.bl false)] []]) (s := ⟨[some (.sh F), some (.sh X), none], []⟩) (t := .sh (.bl false)) (p := okB x r) (i := fun k => D.int ((k + 1 : Nat) : Int)) (List.range (r.length - 1)) fun k hk => by
    have hk := List.mem_range.mp hk
    obtain ⟨e1, i1, q1⟩ := hF.ix (k + 1) (by omega)
    obtain ⟨e2, i2, q2⟩ := hF.ix k (by omega)
    have b1 := hb _ (at_mem (r := r) (j := k + 1) (by omega))
    have b2 := hb _ (at_mem (r := r) (j := k) (by omega))
    have t1 := ht A x (V.at_ r k) X e2 hX q2 bx b2 (by omega)
    have c1 := hc (A + A) _ _ e1 (fq (x * V.at_ r k)) q1 (isQ _) (bd_up b1 (by omega)) (bd_mul bx b2) (by omega)
    have cl := cmp_le (V.at_ r (k + 1)) (x * V.at_ r k)
    have z : ((k + 1 : Nat) : Int) - 1 = (k : Int) := by omega
    have od : okB x r k = decide (V.at_ r (k + 1) ≤ x * V.at_ r k) := rfl
    generalize fq (x * V.at_ r k) = R1 at *
    generalize cmpI (V.at_ r (k + 1)) (x * V.at_ r k) = CI at *
    constructor
    · intro hp
      rw [hp] at od
      have hp := of_decide_eq_true od.symm
      have n0 : ¬ 0 < CI := fun q => (cl.mp q) hp
      refine ⟨⟨[some (.sh F), some (.sh X), some (.sh (.int ((k + 1 : Nat) : Int)))], []⟩, ?_, by simp⟩
      generalize ((k + 1 : Nat) : Int) = K1 at *
      simp -implicitDefEqProofs [frB, i1, z, i2, t1, c1, n0]
    · intro hp
      rw [hp] at od
      have hp := of_decide_eq_false od.symm
      have n0 : 0 < CI := cl.mpr hp
      generalize ((k + 1 : Nat) : Int) = K1 at *
      simp -implicitDefEqProofs [frB, i1, z, i2, t1, c1, n0]
  have fold : (List.range (r.length - 1)).all (okB x r) = rstB x r := rfl
  rw [fold] at loop
  unfold bRests
  generalize (List.range (r.length - 1)).map (fun k => D.int ((k + 1 : Nat) : Int)) = RG at *
  cases hr : rstB x r with
  | true =>
    rw [hr, if_pos rfl] at loop
    simp -implicitDefEqProofs [ln, src, loop]
  | false =>
    rw [hr, if_neg Bool.false_ne_true] at loop
    simp -implicitDefEqProofs [ln, src, loop]
end
end R.N
end

section
set_option Elab.async false
set_option linter.all false
set_option maxRecDepth 100000
set_option exponentiation.threshold 5000
/-! N13: powers, ladders, normed parts, the law's own order once more. -/
namespace R.N
open R R.V
theorem T_d_ow (ds : List D) : (T.ow (ds.map .sh)).d = .lst ds := by
  have e : ∀ ds : List D, T.d.ds (ds.map T.sh) = ds := fun ds => by
    induction ds with
    | nil => rfl
    | cons d ds ih => rw [List.map_cons, T.d.ds, ih]; rfl
  rw [T.d, e]
/-! ### the ladder's weights -/
def wts (a b n : Nat) : List Int := (List.range n).map fun t => ((a ^ t * b ^ (n - 1 - t) : Nat) : Int)
theorem wts_len (a b n : Nat) : (wts a b n).length = n := by unfold wts; simp
theorem wt_bd {a b n t : Nat} (ha : a < 64) (hb : b < 64) (hn : n ≤ 8) (ht : t < n) : a ^ t * b ^ (n - 1 - t) < 2 ^ 50 ∧ a ^ t < 2 ^ 50 ∧ b ^ (n - 1 - t) < 2 ^ 50 := by
  have h1 : a ^ t ≤ (2 ^ 6) ^ t := Nat.pow_le_pow_left (by omega) t
  have h2 : b ^ (n - 1 - t) ≤ (2 ^ 6) ^ (n - 1 - t) := Nat.pow_le_pow_left (by omega) _
  rw [← Nat.pow_mul] at h1 h2
  have h3 : a ^ t * b ^ (n - 1 - t) ≤ 2 ^ (6 * t) * 2 ^ (6 * (n - 1 - t)) := Nat.mul_le_mul h1 h2
  rw [← Nat.pow_add] at h3
  have g : ∀ k, k ≤ 42 → (2 : Nat) ^ k ≤ 2 ^ 42 := fun k hk => Nat.pow_le_pow_right (by decide) hk
  have g1 := g (6 * t + 6 * (n - 1 - t)) (by omega)
  have g2 := g (6 * t) (by omega)
  have g3 := g (6 * (n - 1 - t)) (by omega)
  have c : (2 : Nat) ^ 42 < 2 ^ 50 := by decide
  exact ⟨by omega, by omega, by omega⟩
theorem wts_mem {a b n : Nat} (ha : 0 < a) (hb : 0 < b) (ha2 : a < 64) (hb2 : b < 64) (hn : n ≤ 8) {z : Int} (h : z ∈ wts a b n) : 0 < z ∧ z ≤ 2 ^ 50 := by
  unfold wts at h
  obtain ⟨t, ht, rfl⟩ := List.mem_map.mp h
  have := (wt_bd ha2 hb2 hn (List.mem_range.mp ht)).1
  have p : 0 < a ^ t * b ^ (n - 1 - t) := Nat.mul_pos (Nat.pow_pos ha) (Nat.pow_pos hb)
  generalize a ^ t * b ^ (n - 1 - t) = W at *
  omega
theorem wts_sum {a b n : Nat} (ha : 0 < a) (hb : 0 < b) (ha2 : a < 64) (hb2 : b < 64) (hn : n ≤ 8) (h0 : 0 < n) : 0 < (wts a b n).sum ∧ (wts a b n).sum ≤ 2 ^ 53 := by
  have bd : ∀ z ∈ wts a b n, 0 ≤ z ∧ z ≤ 2 ^ 50 := fun z hz => by have := wts_mem ha hb ha2 hb2 hn hz; omega
  have s := sum_bd bd
  have hl := wts_len a b n
  obtain ⟨z, hz⟩ : ∃ z, z ∈ wts a b n := ⟨_, List.getElem_mem (show 0 < (wts a b n).length by omega)⟩
  have := le_sum bd hz
  have := wts_mem ha hb ha2 hb2 hn hz
  rw [hl] at s
  omega
/-- the ladder -/
def ldr (x : Rat) (n : Nat) : Row := qd (wts x.num.toNat x.den n)
theorem sm_map_div (S : Rat) : ∀ l : List Int, sm (l.map fun (p : Int) => (p : Rat) / S) = ((l.sum : Int) : Rat) / S
  | [] => by simp [sm]; try grind
  | p :: l => by
    rw [List.map_cons, sm, sm_map_div S l, List.sum_cons, Rat.intCast_add]
    grind
theorem sm_qd {ps : List Int} (h : 0 < ps.sum) : sm (qd ps) = 1 := by
  unfold qd
  rw [sm_map_div]
  have : ((0 : Int) : Rat) < ((ps.sum : Int) : Rat) := Rat.intCast_lt_intCast.mpr h
  have : ((ps.sum : Int) : Rat) ≠ 0 := by grind
  grind
theorem ldr_len (x : Rat) (n : Nat) : (ldr x n).length = n := by unfold ldr qd; rw [List.length_map, wts_len]
theorem XR.nat {x : Rat} (h : XR x) : 0 < x.num.toNat ∧ 0 < x.den ∧ x.num.toNat < 64 ∧ x.den < 64 ∧ ((x.num.toNat : Nat) : Int) = x.num := by
  obtain ⟨h1, h2, h3⟩ := h.ok
  omega
theorem qd_nn {ps : List Int} (h : 0 < ps.sum) (hp : ∀ p ∈ ps, 0 ≤ p) : ∀ q ∈ qd ps, 0 ≤ q := fun q hq => by
  unfold qd at hq
  obtain ⟨p, hp', rfl⟩ := List.mem_map.mp hq
  have a : ((0 : Int) : Rat) < ((ps.sum : Int) : Rat) := Rat.intCast_lt_intCast.mpr h
  have b : ((0 : Int) : Rat) ≤ (p : Rat) := Rat.intCast_le_intCast.mpr (hp p hp')
  rw [Rat.div_def]
  have c := Rat.inv_pos.mpr (show (0 : Rat) < ((ps.sum : Int) : Rat) by simpa using a)
  exact Rat.mul_nonneg (by simpa using b) (by grind)
theorem geo_map {x : Rat} {g : Nat → Rat} : ∀ (m k : Nat), (∀ j, k ≤ j → j + 1 < k + m → g (j + 1) = x * g j) → geo x ((List.range' k m).map g)
  | 0, k, _ => trivial
  | 1, k, _ => trivial
  | m + 2, k, h => by
    have ih := geo_map (m + 1) (k + 1) fun j h1 h2 => h j (by omega) (by omega)
    rw [List.range'_succ, List.map_cons]
    rw [List.range'_succ, List.map_cons] at ih ⊢
    exact ⟨h k (Nat.le_refl _) (by omega), ih⟩
theorem ldr_geo {x : Rat} (X : XR x) (n : Nat) (h0 : 0 < n) (hn : n ≤ 8) : geo x (ldr x n) := by
  obtain ⟨a0, b0, a1, b1, ea⟩ := X.nat
  have sp := (wts_sum a0 b0 a1 b1 hn h0).1
  have q := q_eq x
  unfold ldr qd
  have S0 : ((0 : Int) : Rat) < (((wts x.num.toNat x.den n).sum : Int) : Rat) := Rat.intCast_lt_intCast.mpr sp
  generalize (((wts x.num.toNat x.den n).sum : Int) : Rat) = S at *
  unfold wts
  rw [List.map_map, List.range_eq_range']
  refine geo_map n 0 fun j _ hj => ?_
  simp only [Function.comp]
  have e1 : n - 1 - j = (n - 1 - (j + 1)) + 1 := by omega
  rw [e1]
  have d0 := den_ne x
  have en : ((x.num.toNat : Nat) : Rat) = (x.num : Rat) := by
    rw [← Rat.intCast_natCast, ea]
  generalize n - 1 - (j + 1) = m at *
  have c1 : (((x.num.toNat ^ (j + 1) * x.den ^ m : Nat) : Int) : Rat) = (x.num : Rat) * ((x.num.toNat ^ j * x.den ^ m : Nat) : Rat) := by
    rw [← en, Nat.pow_succ, show x.num.toNat ^ j * x.num.toNat * x.den ^ m = x.num.toNat * (x.num.toNat ^ j * x.den ^ m) by simp only [Nat.mul_comm, Nat.mul_left_comm], Rat.intCast_natCast, Rat.natCast_mul]
  have c2 : (((x.num.toNat ^ j * x.den ^ (m + 1) : Nat) : Int) : Rat) = ((x.den : Int) : Rat) * ((x.num.toNat ^ j * x.den ^ m : Nat) : Rat) := by
    rw [Nat.pow_succ, show x.num.toNat ^ j * (x.den ^ m * x.den) = x.den * (x.num.toNat ^ j * x.den ^ m) by rw [Nat.mul_comm (x.den ^ m) x.den, Nat.mul_left_comm], Rat.intCast_natCast, Rat.natCast_mul, Rat.intCast_natCast]
  rw [c1, c2]
  generalize ((x.num.toNat ^ j * x.den ^ m : Nat) : Rat) = W at *
  generalize hN : (x.num : Rat) = N at *
  generalize hD : ((x.den : Int) : Rat) = D at *
  rw [q]
  grind
theorem ldr_sm {x : Rat} (X : XR x) {n : Nat} (h0 : 0 < n) (hn : n ≤ 8) : sm (ldr x n) = 1 := by
  obtain ⟨a0, b0, a1, b1, ea⟩ := X.nat
  exact sm_qd (wts_sum a0 b0 a1 b1 hn h0).1
theorem ldr_nn {x : Rat} (X : XR x) {n : Nat} (h0 : 0 < n) (hn : n ≤ 8) : ∀ q ∈ ldr x n, 0 ≤ q := by
  obtain ⟨a0, b0, a1, b1, ea⟩ := X.nat
  exact qd_nn (wts_sum a0 b0 a1 b1 hn h0).1 fun p hp => by have := wts_mem a0 b0 a1 b1 hn hp; omega
theorem ldr_dsc {x : Rat} (X : XR x) {n : Nat} (h0 : 0 < n) (hn : n ≤ 8) : Dsc (ldr x n) := rst_dsc (by have := X.pos; grind) X.one (ldr_nn X h0 hn) (geo_rst (ldr_geo X n h0 hn))
theorem brow_ldr {x : Rat} (X : XR x) {n : Nat} (h0 : 0 < n) (hn : n ≤ 8) : BRow 54 (ldr x n) := by
  obtain ⟨a0, b0, a1, b1, ea⟩ := X.nat
  have s := wts_sum a0 b0 a1 b1 hn h0
  refine ⟨(wts x.num.toNat x.den n).sum.toNat, by omega, by omega, fun y hy => ?_⟩
  unfold ldr qd at hy
  obtain ⟨z, hz, rfl⟩ := List.mem_map.mp hy
  have := wts_mem a0 b0 a1 b1 hn hz
  exact ⟨z, by rw [show (((wts x.num.toNat x.den n).sum.toNat : Nat) : Int) = (wts x.num.toNat x.den n).sum by omega], by omega⟩
section
variable {Φ : R.Or}
def PowOk (Φ : R.Or) (f : Nat) : Prop := ∀ q l : Nat, 1 ≤ q → q ^ l < 2 ^ 4000 → Φ f [.int (q : Int), .int (l : Int)] = .ok (.sh (.int ((q ^ l : Nat) : Int)))
theorem pow_one {f : Nat} (h : PowOk Φ f) {q l : Nat} (hq : 0 < q) (hb : q ^ l < 2 ^ 50) : Φ f [.int (q : Int), .int (l : Int)] = .ok (.sh (.int ((q ^ l : Nat) : Int))) := h q l hq (lt_pow hb (by decide))
/-! ### the program's weights, its ladder -/
theorem min_ix0 {n : Nat} (h0 : 2 ≤ n) (hn : n ≤ 8) : bi .min1 [.lst ((ix0 n).map .int)] = .ok (.int 0) ∧ bi .max1 [.lst ((ix0 n).map .int)] = .ok (.int ((n : Int) - 1)) := by
  have : n = 2 ∨ n = 3 ∨ n = 4 ∨ n = 5 ∨ n = 6 ∨ n = 7 ∨ n = 8 := by omega
  rcases this with rfl | rfl | rfl | rfl | rfl | rfl | rfl <;> exact ⟨rfl, rfl⟩
def tWw (pw : Nat) : List S := [.set 7 (.op .mul (.var 2) (.var 6)), .appM 5 (.op .mul (.call pw [(.idx (.var 0) (.int 0)), (.op .sub (.var 7) (.var 3))]) (.call pw [(.idx (.var 0) (.int 1)), (.op .sub (.var 4) (.var 7))]))]
def bWw (pw : Nat) : List S := [.set 3 (.op .mul (.var 2) (.bi .min1 [(.var 1)])), .set 4 (.op .mul (.var 2) (.bi .max1 [(.var 1)])), .ownM 5 (.lst []), .fr .seq [6] [(.var 1)] (tWw pw) [6, 7], .ret (.bi .tuple [(.var 5)])]
def WwOk (Φ : R.Or) (f : Nat) : Prop := ∀ (x : Rat) (n : Nat) (X : D), XR x → IsQ X x → 2 ≤ n → n ≤ 8 → Φ f [X, .lst ((ix0 n).map .int), .int 1] = .ok (.sh (.tup ((wts x.num.toNat x.den n).map .int)))
theorem ww_run {pw : Nat} (hp : PowOk Φ pw) {x : Rat} {n : Nat} {X : D} (hx : XR x) (hX : IsQ X x) (h0 : 2 ≤ n) (hn : n ≤ 8) : endR (exSs Φ (bWw pw) (enter 8 [X, .lst ((ix0 n).map .int), .int 1])) = .ok (.sh (.tup ((wts x.num.toNat x.den n).map .int))) := by
  obtain ⟨a0, b0, a1, b1, ea⟩ := hx.nat
  obtain ⟨i0, i1⟩ := hX
  rw [← ea] at i0
  obtain ⟨mn, mxx⟩ := min_ix0 h0 hn
  have m1 : ∀ z : Int, -1000 < z → z < 1000 → op2 .mul (.int 1) (.int z) = .ok (.int z) := fun z h1 h2 => by
    have := op2_mul (i := 1) (j := z) (mul_small (by decide) (by omega))
    rw [Int.one_mul] at this
    exact this
  have loop := forR_app (vs := [6, 7]) (n := 1) (b := frB Φ [6] (tWw pw)) (N := 100) (st := fun acc : List Int => ⟨[some (.sh X), some (.sh (.lst ((ix0 n).map .int))), some (.sh (.int 1)), some (.sh (.int 0)), some (.sh (.int ((n : Int) - 1))), some (.loc 0), none, none], [.ls ((acc.map D.int).map .sh)]⟩) (g := fun t => ((x.num.toNat ^ t * x.den ^ (n - 1 - t) : Nat) : Int)) (i := fun k => D.int ((k : Nat) : Int)) (List.range n) [] (by simp; omega) fun k hk acc hl => by
    have hk := List.mem_range.mp hk
    obtain ⟨w0, w1, w2⟩ := wt_bd a1 b1 hn hk
    have p1 := pow_one hp a0 w1
    have p2 := pow_one hp b0 w2
    have mk := m1 (k : Int) (by omega) (by omega)
    have e0 : (k : Int) - 0 = (k : Int) := by omega
    have e1 : (n : Int) - 1 - (k : Int) = ((n - 1 - k : Nat) : Int) := by omega
    have mm := opm (i := ((x.num.toNat ^ k : Nat) : Int)) (j := ((x.den ^ (n - 1 - k) : Nat) : Int)) (A := 50) (B := 50) (natAbs_lt' w1) (natAbs_lt' w2) (by decide)
    rw [← Int.natCast_mul] at mm
    have lt : ((acc.map D.int).map SV.sh).length < LINE := by rw [List.length_map, List.length_map]; exact len_lt' (by omega)
    have ap : (acc.map D.int).map SV.sh ++ [.sh (.int ((x.num.toNat ^ k * x.den ^ (n - 1 - k) : Nat) : Int))] = ((acc ++ [((x.num.toNat ^ k * x.den ^ (n - 1 - k) : Nat) : Int)]).map D.int).map SV.sh := by rw [List.map_append, List.map_append]; rfl
    refine ⟨⟨[some (.sh X), some (.sh (.lst ((ix0 n).map .int))), some (.sh (.int 1)), some (.sh (.int 0)), some (.sh (.int ((n : Int) - 1))), some (.loc 0), some (.sh (.int (k : Int))), some (.sh (.int (k : Int)))], [.ls (((acc ++ [((x.num.toNat ^ k * x.den ^ (n - 1 - k) : Nat) : Int)]).map D.int).map .sh)]⟩, ?_, rfl⟩
    rw [← ap]
    have ns : ∀ m : List Cell, snapO m (some (.sh X)) = some X := fun _ => rfl
    generalize hW : ((x.num.toNat ^ k * x.den ^ (n - 1 - k) : Nat) : Int) = W at *
    generalize hW1 : ((x.num.toNat ^ k : Nat) : Int) = W1 at *
    generalize hW2 : ((x.den ^ (n - 1 - k) : Nat) : Int) = W2 at *
    generalize (acc.map D.int).map SV.sh = AC at *
    generalize (ix0 n).map D.int = IX at *
    generalize hm : ((n - 1 - k : Nat) : Int) = M at *
    generalize hN : (n : Int) - 1 = N1 at *
    generalize ((x.num.toNat : Nat) : Int) = XN at *
    generalize ((x.den : Nat) : Int) = XD at *
    simp -implicitDefEqProofs [frB, tWw, mk, i0, i1, e0, e1, p1, p2, mm, cellOf, lt]
  rw [List.nil_append] at loop
  have src : srcR .seq [.lst ((ix0 n).map D.int)] = .ok ((List.range n).map fun k => D.int ((k : Nat) : Int)) := by
    show Res.ok _ = _
    unfold ix0; rw [List.map_map]; rfl
  have z0 := m1 0 (by decide) (by decide)
  have z1 := m1 ((n : Int) - 1) (by omega) (by omega)
  have ew : (List.range n).map (fun t => ((x.num.toNat ^ t * x.den ^ (n - 1 - t) : Nat) : Int)) = wts x.num.toNat x.den n := rfl
  rw [ew] at loop
  have s0 : snapO [.ls (((wts x.num.toNat x.den n).map D.int).map .sh)] (some (.loc 0)) = some (.lst ((wts x.num.toNat x.den n).map .int)) := snapO_ls rfl
  have tb : ∀ xs : List D, bi .tuple [.lst xs] = .ok (.tup xs) := fun _ => rfl
  have nil0 : (([] : List Int).map D.int).map SV.sh = [] := rfl
  rw [nil0] at loop
  unfold bWw
  generalize ((wts x.num.toNat x.den n).map D.int).map SV.sh = WS at *
  generalize (wts x.num.toNat x.den n).map D.int = WI at *
  generalize (List.range n).map (fun k => D.int ((k : Nat) : Int)) = RG at *
  generalize (ix0 n).map D.int = IX at *
  generalize (n : Int) - 1 = N1 at *
  generalize tWw pw = TW at *
  simp -implicitDefEqProofs [mn, mxx, z0, z1, evO_nil, src, loop, s0, tb]
theorem sumT_ok (xs : List Int) : bi .sum [.tup (xs.map .int)] = .ok (.int xs.sum) := by
  show (match intsOf (.tup (xs.map .int)) with | some ys => Res.ok (D.int ys.sum) | _ => .bad) = _
  rw [intsOf_tup]
def bLad (ww ra : Nat) : List S := [.set 2 (.call ww [(.var 1), (.bi .listR1 [(.var 0)]), (.int 1)]), .set 3 (.bi .sum [(.var 2)]), .ret (.bi .tuple [(.comp .seq [4] [(.var 2)] [] (.call ra [(.var 4), (.var 3)]))])]
theorem lad_run {ww ra : Nat} (hw : WwOk Φ ww) (hr : FrOk Φ ra) {x : Rat} {n : Nat} {X : D} (hx : XR x) (hX : IsQ X x) (h0 : 2 ≤ n) (hn : n ≤ 8) : endR (exSs Φ (bLad ww ra) (enter 5 [.int (n : Int), X])) = .ok (.sh (fT (ldr x n))) := by
  obtain ⟨a0, b0, a1, b1, ea⟩ := hx.nat
  have w1 := hw x n X hx hX h0 hn
  have rg := rng_ix0 (n := n) (by omega)
  have so := sumT_ok (wts x.num.toNat x.den n)
  have sb := wts_sum a0 b0 a1 b1 hn (by omega)
  have comp : ev Φ (.comp .seq [4] [(.var 2)] [] (.call ra [(.var 4), (.var 3)])) [some (.int (n : Int)), some X, some (.tup ((wts x.num.toNat x.den n).map .int)), some (.int (wts x.num.toNat x.den n).sum), none] = .ok (fL (ldr x n)) := by
    unfold fL ldr qd
    rw [List.map_map]
    refine comp_ok D.int _ rfl (len_le (by rw [wts_len]; omega)) fun z hz => ⟨_, rfl, ?_⟩
    have zb := wts_mem a0 b0 a1 b1 hn hz
    have e := hr z (wts x.num.toNat x.den n).sum 54 54 (by omega) (by omega) (by decide) (by omega) (by decide)
    rw [fq_div (by omega)] at e
    show _ = Res.ok (fq ((z : Rat) / (((wts x.num.toNat x.den n).sum : Int) : Rat)))
    generalize fq ((z : Rat) / (((wts x.num.toNat x.den n).sum : Int) : Rat)) = R1 at *
    generalize (wts x.num.toNat x.den n).map D.int = WI at *
    generalize (wts x.num.toNat x.den n).sum = SS at *
    simp -implicitDefEqProofs [e]
  have tb : bi .tuple [fL (ldr x n)] = .ok (fT (ldr x n)) := rfl
  generalize fL (ldr x n) = FF at *
  generalize fT (ldr x n) = FG at *
  generalize (wts x.num.toNat x.den n).map D.int = WI at *
  generalize (wts x.num.toNat x.den n).sum = SS at *
  generalize (ix0 n).map D.int = IX at *
  simp -implicitDefEqProofs [-p_ev_comp, bLad, w1, rg, so, comp, tb]
/-! ### normed parts -/
def nrm (P : Row) : Row := P.map fun q => q / sm P
def bNorm (su fr : Nat) : List S := [.set 1 (.call su [(.var 0)]), .retO (.comp .seq [2] [(.var 0)] [] (.call fr [(.op .mul (.idx (.var 2) (.int 0)) (.idx (.var 1) (.int 1))), (.op .mul (.idx (.var 2) (.int 1)) (.idx (.var 1) (.int 0)))]))]
theorem num_pos {q : Rat} (h : 0 < q) : 0 < q.num := by
  have := (cmp_num q 0).mpr h
  simpa using this
theorem norm_run {su fr : Nat} (hs : SumOk Φ su) (hf : FrOk Φ fr) {A : Nat} {P : Row} (hP : BRow A P) (h0 : 0 < sm P) (hl : P.length ≤ 100) (hA : A ≤ 2000) : endR (exSs Φ (bNorm su fr) (enter 3 [fL P])) = .ok (.ow (((nrm P).map fq).map .sh)) := by
  have s1 := hs A P (fL P) (.inl rfl) hP (by omega)
  have bs : Bd (A + P.length) (sm P) := by
    obtain ⟨M, h1, h2, h3⟩ := hP
    exact (ov_sm h1 h3).bd h1 (lt_pow h2 (by omega))
  have np := num_pos h0
  have comp : evO Φ (.comp .seq [2] [(.var 0)] [] (.call fr [(.op .mul (.idx (.var 2) (.int 0)) (.idx (.var 1) (.int 1))), (.op .mul (.idx (.var 2) (.int 1)) (.idx (.var 1) (.int 0)))])) [some (fL P), some (fq (sm P)), none] = .ok ((nrm P).map fq) := by
    rw [evO_comp]
    unfold nrm
    rw [List.map_map]
    refine evC_nm (xs := P) (i := fq) (X := fL P) rfl (len_le (by omega)) rfl fun q hq => ?_
    have bq := hP.bd hq
    have m1 := opm bq.1 (natAbs_lt' bs.2) (by omega)
    have m2 := opm (natAbs_lt' bq.2) bs.1 (by omega)
    have e := hf (q.num * ((sm P).den : Int)) ((q.den : Int) * (sm P).num) (A + (A + P.length)) (A + (A + P.length)) (Int.mul_pos (den_pos q) np) (natAbs_mul_lt' (natAbs_lt' bq.2) bs.1) (by omega) (natAbs_mul_lt' bq.1 (natAbs_lt' bs.2)) (by omega)
    rw [fq_div (Int.mul_pos (den_pos q) np)] at e
    have ee : ((q.num * ((sm P).den : Int) : Int) : Rat) / ((((q.den : Int) * (sm P).num : Int)) : Rat) = q / sm P := by
      have h1 := q_eq q
      have h2 := q_eq (sm P)
      have h3 := den_ne q
      have h4 := den_ne (sm P)
      have h5 : ((sm P).num : Rat) ≠ 0 := by
        have : ((0 : Int) : Rat) < ((sm P).num : Rat) := Rat.intCast_lt_intCast.mpr np
        grind
      rw [Rat.intCast_mul, Rat.intCast_mul]
      grind
    rw [ee] at e
    show _ = Res.ok (fq (q / sm P))
    have j0 := ix_fq0 q
    have j1 := ix_fq1 q
    have k0 := ix_fq0 (sm P)
    have k1 := ix_fq1 (sm P)
    generalize fq (q / sm P) = R1 at *
    generalize fq q = R2 at *
    generalize fq (sm P) = R3 at *
    generalize fL P = R4 at *
    simp -implicitDefEqProofs [j0, j1, k0, k1, m1, m2, e]
  unfold bNorm
  generalize (nrm P).map fq = NP at *
  generalize fq (sm P) = R3 at *
  generalize fL P = R4 at *
  simp -implicitDefEqProofs [-p_ev_comp, s1, comp]
theorem nrm_len (P : Row) : (nrm P).length = P.length := by unfold nrm; simp
theorem sm_nrm {P : Row} (h : 0 < sm P) : sm (nrm P) = 1 := by
  have e : ∀ (S : Rat) (l : Row), sm (l.map fun q => q / S) = sm l / S := fun S l => by
    induction l with
    | nil => simp [sm]; try grind
    | cons q l ih => rw [List.map_cons, sm, sm, ih]; grind
  unfold nrm
  rw [e]
  have : sm P ≠ 0 := by grind
  grind
theorem nrm_nn {P : Row} (h : 0 < sm P) (hp : ∀ q ∈ P, 0 ≤ q) : ∀ q ∈ nrm P, 0 ≤ q := fun q hq => by
  unfold nrm at hq
  obtain ⟨p, hp', rfl⟩ := List.mem_map.mp hq
  rw [Rat.div_def]
  have c := Rat.inv_pos.mpr h
  exact Rat.mul_nonneg (hp p hp') (by grind)
theorem brow_nrm {A : Nat} {P : Row} (hP : BRow A P) (h0 : 0 < sm P) (hp : ∀ q ∈ P, 0 ≤ q) : BRow (A + P.length) (nrm P) := by
  obtain ⟨M, h1, h2, h3⟩ := hP
  obtain ⟨Z, hZ, hZ2⟩ := ov_sm h1 h3
  have m0 := ne0 h1
  have Mp : (0 : Rat) < ((M : Int) : Rat) := by
    have : ((0 : Int) : Rat) < ((M : Int) : Rat) := Rat.intCast_lt_intCast.mpr (by omega)
    simpa using this
  have Zp : 0 < Z := by
    have e : sm P * ((M : Int) : Rat) = (Z : Rat) := by rw [hZ]; grind
    have : 0 < (Z : Rat) := by rw [← e]; exact Rat.mul_pos h0 Mp
    exact Rat.intCast_lt_intCast.mp (by simpa using this)
  refine ⟨Z.toNat, by omega, by omega, fun q hq => ?_⟩
  unfold nrm at hq
  obtain ⟨p, hp', rfl⟩ := List.mem_map.mp hq
  obtain ⟨z, e, hz⟩ := h3 p hp'
  refine ⟨z, ?_, lt_pow hz (by omega)⟩
  rw [show ((Z.toNat : Nat) : Int) = Z by omega, hZ, e]
  have z0 : (Z : Rat) ≠ 0 := by
    have : ((0 : Int) : Rat) < (Z : Rat) := Rat.intCast_lt_intCast.mpr Zp
    grind
  grind
end
end R.N
end

section
set_option Elab.async false
set_option linter.all false
set_option maxRecDepth 100000
/-! N14: the law's own sorted round, in one def. -/
namespace R.N
open R R.V
section
variable {Φ : R.Or}
def tWp3 (g : Nat) : List S := [.set 3 (.op .fdiv (.op .mul (.var 3) (.idx (.var 4) (.int 1))) (.call g [(.var 3), (.idx (.var 4) (.int 1))]))]
theorem wp3_loop {g : Nat} (hg : GcdOk Φ g) {A : Nat} (hA : A < 9000) (X0 X1 X2 : D) : ∀ (e : Row) (c B : Nat), 0 < c → c < 2 ^ B → B + A * e.length < 500000 → (∀ q ∈ e, Bd A q) →
    forR [4] 0 (frB Φ [4] (tWp3 g)) (e.map fq) ⟨[some (.sh X0), some (.sh X1), some (.sh X2), some (.sh (.int c)), none, none, none, none], []⟩ = .nx ⟨[some (.sh X0), some (.sh X1), some (.sh X2), some (.sh (.int (lcs e c : Nat))), none, none, none, none], []⟩
  | [], c, B, h0, h1, h2, _ => rfl
  | q :: e, c, B, h0, h1, h2, hb => by
    have bq := hb q List.mem_cons_self
    have hl : Nat.lcm c q.den < 2 ^ (B + A) := by
      have : Nat.lcm c q.den ≤ c * q.den := Nat.le_of_dvd (Nat.mul_pos h0 q.den_pos) (Nat.lcm_dvd (Nat.dvd_mul_right _ _) (Nat.dvd_mul_left _ _))
      have h3 : c * q.den < 2 ^ (B + A) := by rw [Nat.pow_add]; exact Nat.mul_lt_mul'' h1 bq.2
      omega
    rw [List.length_cons, Nat.mul_add] at h2
    have ih := wp3_loop hg hA X0 X1 X2 e (Nat.lcm c q.den) (B + A) (Nat.lcm_pos h0 q.den_pos) hl (by omega) fun x hx => hb x (List.mem_cons_of_mem _ hx)
    have m := opm (natAbs_lt' h1) (natAbs_lt' bq.2) (by omega)
    have gl : Nat.gcd c q.den < 2 ^ A := Nat.lt_of_le_of_lt (Nat.le_of_dvd q.den_pos (Nat.gcd_dvd_right _ _)) bq.2
    have gp : 0 < Nat.gcd c q.den := Nat.gcd_pos_of_pos_left _ h0
    have d := op2_fdiv (i := (c : Int) * (q.den : Int)) (divOk_of (j := ((Nat.gcd c q.den : Nat) : Int)) (a := A) (by omega) (by simpa using gl) hA)
    rw [lcm_eq] at d
    rw [List.map_cons, forR_cons]
    show _ = Out.nx ⟨[some (.sh X0), some (.sh X1), some (.sh X2), some (.sh (.int (lcs e (Nat.lcm c q.den) : Nat))), none, none, none, none], []⟩
    rw [← ih]
    have j1 := ix_fq1 q
    have g1 := hg c q.den
    have e : gcdI (c : Int) (q.den : Int) = ((Nat.gcd c q.den : Nat) : Int) := rfl
    rw [e] at g1
    generalize Nat.lcm c q.den = LL at *
    generalize fq q = FQ at *
    generalize Nat.gcd c q.den = GG at *
    generalize q.den = DD at *
    simp -implicitDefEqProofs [frB, tWp3, j1, m, g1, d]
def bLSoB (sh g pa : Nat) : List S := [.set 2 (.call sh [(.var 0), (.var 1)]), .set 3 (.int 1), .fr .seq [4] [(.var 2)] (tWp3 g) [4], .set 5 (.bi .sorted [(.comp .r1 [6] [(.bi .len [(.var 2)])] [] (.tup [(.op .mul (.un .neg (.idx (.idx (.var 2) (.var 6)) (.int 0))) (.op .fdiv (.var 3) (.idx (.idx (.var 2) (.var 6)) (.int 1)))), (.var 6)]))]), .ret (.call pa [(.comp .seq [7] [(.var 5)] [] (.idx (.var 2) (.idx (.var 7) (.int 1))))])]
theorem ords_ps {q : Row} : (((List.range (wp q).length).map fun k => (-((wp q).getD k 0), ((k : Nat) : Int))).mergeSort pLe).map (fun p => at_ q p.2.toNat) = srt q := by
  rw [← ords_srt, ← ordsP, List.map_map]
  rfl
theorem lsoB_run {sh g pa : Nat} (hs : ShOk Φ sh) (hg : GcdOk Φ g) (hp : PLOk Φ pa) {a b : Int} (hx : XOk a b) {A : Nat} {r : Row} {F X : D} (hX : IsX X a b) (hF : IsF F r) (hr : BRow A r) (hl : r.length ≤ 50) (hA : A ≤ 3000) : endR (exSs Φ (bLSoB sh g pa) (enter 8 [F, X])) = .ok (.sh (fL (SR a b r))) := by
  have s1 := hs a b A r F X hx hX hF (fun q hq => hr.bd hq) (by omega) (by omega)
  have hb := fun x hx' => (brow_shs hx hr).bd (x := x) hx'
  have q1 := hp (A + 6) (srt (shs a b r)) (fL (srt (shs a b r))) (.inl rfl) (fun x hx' => (brow_srt (brow_shs hx hr)).bd hx') (by rw [srt_len, shs_len]; omega) (by omega)
  have e : pr (srt (shs a b r)) = SR a b r := rfl
  rw [e] at q1
  have hl2 : (shs a b r).length ≤ 100 := by rw [shs_len]; omega
  generalize shs a b r = q at *
  have hal : (A + 6) * q.length ≤ 400000 := by
    have : (A + 6) * q.length ≤ 4000 * 100 := Nat.mul_le_mul (by omega) hl2
    omega
  have small := lcs_lt q 1 1 (by decide) (by decide) hb
  have small : Lc q < 2 ^ (1 + (A + 6) * q.length) := small
  have loop := wp3_loop hg (A := A + 6) (by omega) F X (fL q) q 1 1 (by decide) (by decide) (by omega) hb
  have eL : lcs q 1 = Lc q := rfl
  rw [eL, show ((1 : Nat) : Int) = 1 from rfl] at loop
  have src : srcR .seq [fL q] = .ok (q.map fq) := rfl
  have ln : bi .len [fL q] = .ok (.int (q.length : Int)) := IsF.len (.inl rfl)
  have inner : ev Φ (.comp .r1 [6] [(.bi .len [(.var 2)])] [] (.tup [(.op .mul (.un .neg (.idx (.idx (.var 2) (.var 6)) (.int 0))) (.op .fdiv (.var 3) (.idx (.idx (.var 2) (.var 6)) (.int 1)))), (.var 6)])) [some F, some X, some (fL q), some (.int (Lc q : Nat)), none, none, none, none] = .ok (.lst (((List.range (wp q).length).map fun k => (-((wp q).getD k 0), ((k : Nat) : Int))).map pD)) := by
    rw [List.map_map, len_wp]
    refine comp_rg (n := q.length) ?_ (by omega) fun k hk => ?_
    · simp -implicitDefEqProofs [ln]
    · have i := ix_fL (r := q) (k := k) hk
      have hm := at_mem (r := q) (j := k) hk
      obtain ⟨d, _, m⟩ := wp_num (e := q) (L := 1 + (A + 6) * q.length) (A := A + 6) (by omega) hb (by omega) small hm
      have e : (wp q).getD k 0 = (at_ q k).num * ((Lc q / (at_ q k).den : Nat) : Int) := by
        unfold wp at_
        simp [List.getD, hk]
      show _ = Res.ok (pD (-((wp q).getD k 0), (k : Int)))
      rw [e]
      unfold pD
      have j0 := ix_fq0 (at_ q k)
      have j1 := ix_fq1 (at_ q k)
      generalize fq (at_ q k) = FQ at *
      generalize Lc q / (at_ q k).den = GG at *
      generalize (at_ q k).num = NN at *
      generalize (at_ q k).den = DD at *
      generalize fL q = FLQ at *
      simp -implicitDefEqProofs [i, j0, j1, d, m, two_le_LINE]
  have so := sortP_ok ((List.range (wp q).length).map fun k => (-((wp q).getD k 0), ((k : Nat) : Int)))
  have comp : ev Φ (.comp .seq [7] [(.var 5)] [] (.idx (.var 2) (.idx (.var 7) (.int 1)))) [some F, some X, some (fL q), some (.int (Lc q : Nat)), none, some (.lst ((((List.range (wp q).length).map fun k => (-((wp q).getD k 0), ((k : Nat) : Int))).mergeSort pLe).map pD)), none, none] = .ok (fL (srt q)) := by
    have e : fL (srt q) = .lst ((((List.range (wp q).length).map fun k => (-((wp q).getD k 0), ((k : Nat) : Int))).mergeSort pLe).map fun p => fq (at_ q p.2.toNat)) := by
      rw [← ords_ps]
      unfold fL
      rw [List.map_map]
      rfl
    rw [e]
    refine comp_ok pD _ rfl ?_ fun p hp => ⟨_, rfl, ?_⟩
    · rw [List.length_mergeSort, List.length_map, List.length_range, len_wp]; exact len_le (by omega)
    · have hp2 := List.mem_mergeSort.mp hp
      obtain ⟨k, hk, rfl⟩ := List.mem_map.mp hp2
      have hk := List.mem_range.mp hk
      rw [len_wp] at hk
      have i := ix_fL (r := q) (k := k) hk
      have i2 : ixR (pD (-((wp q).getD k 0), ((k : Nat) : Int))) (.int 1) = .ok (.int (k : Int)) := rfl
      show _ = Res.ok (fq (at_ q ((k : Int)).toNat))
      rw [show ((k : Int)).toNat = k from rfl]
      generalize pD (-((wp q).getD k 0), ((k : Nat) : Int)) = PP at *
      generalize fq (at_ q k) = FQ at *
      generalize fL q = FLQ at *
      generalize ((((List.range (wp q).length).map fun k => (-((wp q).getD k 0), ((k : Nat) : Int))).mergeSort pLe).map pD) = LP at *
      simp -implicitDefEqProofs [i, i2]
  unfold bLSoB
  generalize fL (SR a b r) = R1 at *
  generalize fL (srt q) = R2 at *
  generalize fL q = R3 at *
  generalize (((List.range (wp q).length).map fun k => (-((wp q).getD k 0), ((k : Nat) : Int))).map pD) = L1 at *
  generalize ((((List.range (wp q).length).map fun k => (-((wp q).getD k 0), ((k : Nat) : Int))).mergeSort pLe).map pD) = L2 at *
  generalize Lc q = LC at *
  generalize q.map fq = QM at *
  simp -implicitDefEqProofs [-p_ev_comp, s1, src, loop, inner, so, comp, q1]
end
end R.N
end

section
set_option Elab.async false
set_option linter.all false
set_option maxRecDepth 100000
/-! N15: drawn quotients; parts of a row. -/
namespace R.N
open R R.V
theorem xr_frac {t b : Int} (h0 : 0 < t) (h1 : t ≤ b) (xo : XOk (t / gcdI t b) (b / gcdI t b)) : XR ((t : Rat) / (b : Rat)) := by
  have b0 : (0 : Rat) < (b : Rat) := by
    have : ((0 : Int) : Rat) < (b : Rat) := Rat.intCast_lt_intCast.mpr (by omega)
    simpa using this
  have t0 : (0 : Rat) < (t : Rat) := by
    have : ((0 : Int) : Rat) < (t : Rat) := Rat.intCast_lt_intCast.mpr (by omega)
    simpa using this
  have le : (t : Rat) ≤ (b : Rat) := Rat.intCast_le_intCast.mpr h1
  have e := fq_div (t := t) (b := b) (by omega)
  unfold fracD fq at e
  injection e with e
  injection e with e1 e2
  injection e2 with e2 e3
  injection e1 with e1
  injection e2 with e2
  have bi := Rat.inv_pos.mpr b0
  refine ⟨by rw [Rat.div_def]; exact Rat.mul_pos t0 bi, ?_, by rw [← e1, ← e2]; exact xo⟩
  have : (t : Rat) * (b : Rat)⁻¹ ≤ (b : Rat) * (b : Rat)⁻¹ := Rat.mul_le_mul_of_nonneg_right le (by grind)
  have n0 : (b : Rat) ≠ 0 := by grind
  have c : (b : Rat) * (b : Rat)⁻¹ = 1 := by grind
  rw [Rat.div_def]
  grind
theorem xr_lit {t b : Int} (g : gcdI t b = 1) (h0 : 0 < t) (h1 : t ≤ b) (h2 : t + b < 64) : ∃ x : Rat, D.tup [.int t, .int b] = fq x ∧ XR x := by
  have e := fq_div (t := t) (b := b) (by omega)
  unfold fracD at e
  rw [g, Int.ediv_one, Int.ediv_one] at e
  exact ⟨_, e, xr_frac h0 h1 (by rw [g, Int.ediv_one, Int.ediv_one]; exact ⟨h0, by omega, h2⟩)⟩
theorem xok_gcd {t b : Int} (h1 : 1 ≤ t) (h2 : t ≤ 20) (h3 : 1 ≤ b) (h4 : b ≤ 20) : XOk (t / gcdI t b) (b / gcdI t b) := by
  obtain ⟨T, rfl⟩ : ∃ T : Nat, t = (T : Int) := ⟨t.toNat, by omega⟩
  obtain ⟨B, rfl⟩ : ∃ B : Nat, b = (B : Int) := ⟨b.toNat, by omega⟩
  have e : gcdI (T : Int) (B : Int) = ((Nat.gcd T B : Nat) : Int) := rfl
  rw [e, ← Int.natCast_ediv, ← Int.natCast_ediv]
  have g0 : 0 < Nat.gcd T B := Nat.gcd_pos_of_pos_left _ (by omega)
  have d1 := Nat.div_pos (Nat.le_of_dvd (by omega) (Nat.gcd_dvd_left T B)) g0
  have d2 := Nat.div_pos (Nat.le_of_dvd (by omega) (Nat.gcd_dvd_right T B)) g0
  have e1 := Nat.div_le_self T (Nat.gcd T B)
  have e2 := Nat.div_le_self B (Nat.gcd T B)
  exact ⟨by omega, by omega, by omega⟩
def menuD : D := .lst [.tup [.int 1, .int 2], .tup [.int 1, .int 3], .tup [.int 2, .int 3], .tup [.int 1, .int 1], .tup [.int 3, .int 4], .tup [.int 1, .int 10], .tup [.int 4, .int 5], .tup [.int 1, .int 20], .tup [.int 0, .int 1]]
theorem menuX {r : Int} (h0 : 0 ≤ r) (h1 : r < 9) : ∃ d : D, ixR menuD (.int r) = .ok d ∧ (r ≠ 8 → ∃ x : Rat, d = fq x ∧ XR x) := by
  have : r = 0 ∨ r = 1 ∨ r = 2 ∨ r = 3 ∨ r = 4 ∨ r = 5 ∨ r = 6 ∨ r = 7 ∨ r = 8 := by omega
  rcases this with rfl | rfl | rfl | rfl | rfl | rfl | rfl | rfl | rfl
  · exact ⟨_, rfl, fun _ => xr_lit (by decide) (by decide) (by decide) (by decide)⟩
  · exact ⟨_, rfl, fun _ => xr_lit (by decide) (by decide) (by decide) (by decide)⟩
  · exact ⟨_, rfl, fun _ => xr_lit (by decide) (by decide) (by decide) (by decide)⟩
  · exact ⟨_, rfl, fun _ => xr_lit (by decide) (by decide) (by decide) (by decide)⟩
  · exact ⟨_, rfl, fun _ => xr_lit (by decide) (by decide) (by decide) (by decide)⟩
  · exact ⟨_, rfl, fun _ => xr_lit (by decide) (by decide) (by decide) (by decide)⟩
  · exact ⟨_, rfl, fun _ => xr_lit (by decide) (by decide) (by decide) (by decide)⟩
  · exact ⟨_, rfl, fun _ => xr_lit (by decide) (by decide) (by decide) (by decide)⟩
  · exact ⟨_, rfl, fun h => absurd rfl h⟩
theorem XR.bd {x : Rat} (h : XR x) : Bd 6 x := by
  obtain ⟨h1, h2, h3⟩ := h.ok
  exact ⟨by omega, by omega⟩
theorem noLs_fq : ∀ r : Row, D.noL.noLs (r.map fq) = true
  | [] => rfl
  | q :: r => noLs_fq r
theorem sm_nn : ∀ {l : Row}, (∀ q ∈ l, 0 ≤ q) → 0 ≤ sm l
  | [], _ => by simp [sm]
  | q :: l, h => by
    have := sm_nn fun y hy => h y (List.mem_cons_of_mem _ hy)
    have := h q List.mem_cons_self
    rw [sm]; grind
theorem sm_pos : ∀ {l : Row}, (∀ q ∈ l, 0 ≤ q) → (∃ q ∈ l, 0 < q) → 0 < sm l
  | [], _, ⟨q, hq, _⟩ => by cases hq
  | p :: l, h, ⟨q, hq, h0⟩ => by
    have h1 := sm_nn fun y hy => h y (List.mem_cons_of_mem _ hy)
    have h2 := h p List.mem_cons_self
    rw [sm]
    rcases List.mem_cons.mp hq with rfl | hq
    · grind
    · have := sm_pos (fun y hy => h y (List.mem_cons_of_mem _ hy)) ⟨q, hq, h0⟩
      grind
theorem fq_half {t b : Int} (g : gcdI t b = 1) (h : 0 < b) : D.tup [.int t, .int b] = fq ((t : Rat) / (b : Rat)) := by
  have e := fq_div h (t := t)
  unfold fracD at e
  rw [g, Int.ediv_one, Int.ediv_one] at e
  exact e
theorem fq_one : D.tup [.int 1, .int 1] = fq 1 := rfl
/-- parts of 0 to 1 -/
def menuP : D := .lst [.tup [.int 1, .int 1], .tup [.int 1, .int 2], .tup [.int 1, .int 1], .tup [.int 2, .int 3], .tup [.int 0, .int 1]]
theorem lit_ok {t b : Int} (g : gcdI t b = 1) (h0 : 0 ≤ t) (h1 : t < 4) (h2 : 0 < b) (h3 : b < 4) : ∃ y : Rat, D.tup [.int t, .int b] = fq y ∧ 0 ≤ y ∧ Bd 2 y := by
  have e := fq_half g h2
  refine ⟨_, e, ?_, ?_⟩
  · have b0 : ((0 : Int) : Rat) < (b : Rat) := Rat.intCast_lt_intCast.mpr h2
    have t0 : ((0 : Int) : Rat) ≤ (t : Rat) := Rat.intCast_le_intCast.mpr h0
    have bi := Rat.inv_pos.mpr (show (0 : Rat) < (b : Rat) by simpa using b0)
    rw [Rat.div_def]
    exact Rat.mul_nonneg (by simpa using t0) (by grind)
  · unfold fq at e
    injection e with e
    injection e with e1 e2
    injection e2 with e2 e3
    injection e1 with e1
    injection e2 with e2
    exact ⟨by omega, by omega⟩
theorem menuP_ok {r : Int} (h0 : 0 ≤ r) (h1 : r < 5) : ∃ y : Rat, ixR menuP (.int r) = .ok (fq y) ∧ 0 ≤ y ∧ Bd 2 y := by
  have : r = 0 ∨ r = 1 ∨ r = 2 ∨ r = 3 ∨ r = 4 := by omega
  have go : ∀ (t b r : Int), ixR menuP (.int r) = .ok (.tup [.int t, .int b]) → gcdI t b = 1 → 0 ≤ t → t < 4 → 0 < b → b < 4 → ∃ y : Rat, ixR menuP (.int r) = .ok (fq y) ∧ 0 ≤ y ∧ Bd 2 y := fun t b r e g a1 a2 a3 a4 => by
    obtain ⟨y, e1, h⟩ := lit_ok g a1 a2 a3 a4
    exact ⟨y, by rw [e, e1], h⟩
  rcases this with rfl | rfl | rfl | rfl | rfl
  · exact go 1 1 _ rfl (by decide) (by decide) (by decide) (by decide) (by decide)
  · exact go 1 2 _ rfl (by decide) (by decide) (by decide) (by decide) (by decide)
  · exact go 1 1 _ rfl (by decide) (by decide) (by decide) (by decide) (by decide)
  · exact go 2 3 _ rfl (by decide) (by decide) (by decide) (by decide) (by decide)
  · exact go 0 1 _ rfl (by decide) (by decide) (by decide) (by decide) (by decide)
end R.N
end

section
set_option Elab.async false
set_option linter.all false
set_option maxRecDepth 100000
set_option exponentiation.threshold 5000
/-! N16: sorted rounds never pass the ladder; what lacks; bounds that fall. -/
namespace R.N
open R R.V
theorem SRn_succ (a b : Int) : ∀ (k : Nat) (r : Row), SRn a b (k + 1) r = SR a b (SRn a b k r)
  | 0, _ => rfl
  | k + 1, r => by
    rw [SRn, SRn_succ a b k (SR a b r)]
    rfl
theorem SR_dsc (a b : Int) (r : Row) : Dsc (SR a b r) := pr_dsc (srt_dsc _)
theorem evn_dsc (n : Nat) : Dsc (evn n) := by
  unfold Dsc evn
  rw [List.pairwise_replicate]
  exact .inr Rat.le_refl
theorem SRn_dsc (a b : Int) (n : Nat) : ∀ k, Dsc (SRn a b k (evn n))
  | 0 => evn_dsc n
  | k + 1 => by rw [SRn_succ]; exact SR_dsc _ _ _
theorem sm_map_mul (p : Rat) : ∀ l : Row, sm (l.map (· * p)) = sm l * p
  | [] => by simp [sm]
  | q :: l => by rw [List.map_cons, sm, sm, sm_map_mul p l]; grind
theorem sm_shs_mx (a b : Int) (t : Rat) : ∀ r : Row, sm ((shs a b r).map (mx t)) = sm ((r.map (· * p1 a b)).map (mx t)) + sm ((r.map (· * p2 a b)).map (mx t))
  | [] => by simp [shs, sm]; try grind
  | q :: r => by
    rw [shs_cons]
    simp only [List.map_cons, sm]
    rw [sm_shs_mx a b t r]
    grind
/-- the sum of any choice is at most that of the greatest -/
theorem choice {a b : Int} {r : Row} {k i j : Nat} (hk : 2 * k ≤ (shs a b r).length) (h0 : 0 < k) (hi : i ≤ r.length) (hj : j ≤ r.length) (e : i + j = 2 * k) : p1 a b * sm (r.take i) + p2 a b * sm (r.take j) ≤ sm ((SR a b r).take k) := by
  unfold SR
  have hl : 2 * k - 1 < (srt (shs a b r)).length := by rw [srt_len]; omega
  have d := dsc_at (srt_dsc (shs a b r)) hl
  rw [pr_take _ _ (by rw [srt_len]; exact hk)]
  rw [show 2 * k - 1 + 1 = 2 * k by omega] at d
  rw [d]
  have e2 : sm ((srt (shs a b r)).map (mx (srt (shs a b r))[2 * k - 1])) = sm ((shs a b r).map (mx (srt (shs a b r))[2 * k - 1])) := sm_perm ((srt_perm _).map _)
  rw [e2, sm_shs_mx]
  generalize (srt (shs a b r))[2 * k - 1] = t at *
  have u1 := up t (r.map (· * p1 a b)) i (by simpa using hi)
  have u2 := up t (r.map (· * p2 a b)) j (by simpa using hj)
  rw [← List.map_take, sm_map_mul] at u1 u2
  have c : ((2 * k : Nat) : Rat) = (i : Rat) + (j : Rat) := by rw [← e]; simp
  rw [c]
  grind
theorem mx_first {t : Rat} : ∀ {l : Row}, Dsc l → ∃ i, i ≤ l.length ∧ sm (l.map (mx t)) = sm (l.take i) - (i : Rat) * t
  | [], _ => ⟨0, Nat.le_refl _, by simp [sm]; try grind⟩
  | x :: l, h => by
    obtain ⟨h1, h2⟩ := List.pairwise_cons.mp h
    by_cases hx : x ≤ t
    · refine ⟨0, Nat.zero_le _, ?_⟩
      rw [low_zero fun y hy => ?_]
      · simp [sm]; try grind
      · rcases List.mem_cons.mp hy with rfl | hy
        · exact hx
        · have := h1 y hy
          grind
    · obtain ⟨i, hi, e⟩ := mx_first (t := t) h2
      refine ⟨i + 1, by simpa using hi, ?_⟩
      rw [List.map_cons, sm, e, List.take_succ_cons, sm]
      have m : mx t x = x - t := by unfold mx; rw [if_neg hx]
      have c : ((i + 1 : Nat) : Rat) = (i : Rat) + 1 := by simp
      rw [m, c]
      grind
theorem dsc_mul {p : Rat} (h : 0 ≤ p) {l : Row} (d : Dsc l) : Dsc (l.map (· * p)) := by
  unfold Dsc at *
  rw [List.pairwise_map]
  exact d.imp fun h1 => Rat.mul_le_mul_of_nonneg_right h1 h
theorem mx_major {p t : Rat} (hp : 0 ≤ p) {r L : Row} (d : Dsc r) (hl : r.length = L.length) (h : ∀ i, i ≤ r.length → sm (r.take i) ≤ sm (L.take i)) : sm ((r.map (· * p)).map (mx t)) ≤ sm ((L.map (· * p)).map (mx t)) := by
  obtain ⟨i, hi, e⟩ := mx_first (t := t) (dsc_mul hp d)
  rw [List.length_map] at hi
  have u := up t (L.map (· * p)) i (by rw [List.length_map]; omega)
  rw [← List.map_take, sm_map_mul] at u e
  have m := Rat.mul_le_mul_of_nonneg_right (h i hi) hp
  rw [e]
  grind
/-- sorted sums of a round: never past those of the greater filling's round -/
theorem never_past {a b : Int} (h1 : 0 ≤ p1 a b) (h2 : 0 ≤ p2 a b) {r L : Row} (d : Dsc r) (hl : r.length = L.length) (h : ∀ i, i ≤ r.length → sm (r.take i) ≤ sm (L.take i)) {k : Nat} (hk : k ≤ r.length) : sm ((SR a b r).take k) ≤ sm ((SR a b L).take k) := by
  cases k with
  | zero => simp [sm]
  | succ k =>
    have lr := shs_len a b r
    have lL := shs_len a b L
    unfold SR
    rw [pr_take _ _ (by rw [srt_len]; omega), pr_take _ _ (by rw [srt_len]; omega)]
    have hi : 2 * (k + 1) - 1 < (srt (shs a b L)).length := by rw [srt_len]; omega
    have e := dsc_at (srt_dsc (shs a b L)) hi
    rw [show 2 * (k + 1) - 1 + 1 = 2 * (k + 1) by omega] at e
    have e2 : sm ((srt (shs a b L)).map (mx (srt (shs a b L))[2 * (k + 1) - 1])) = sm ((shs a b L).map (mx (srt (shs a b L))[2 * (k + 1) - 1])) := sm_perm ((srt_perm _).map _)
    rw [e, e2]
    generalize (srt (shs a b L))[2 * (k + 1) - 1] = t at *
    have u := up t (srt (shs a b r)) (2 * (k + 1)) (by rw [srt_len]; omega)
    have e3 : sm ((srt (shs a b r)).map (mx t)) = sm ((shs a b r).map (mx t)) := sm_perm ((srt_perm _).map _)
    rw [e3, sm_shs_mx] at u
    rw [sm_shs_mx]
    have m1 := mx_major (t := t) h1 d hl h
    have m2 := mx_major (t := t) h2 d hl h
    grind
/-! ### what lacks -/
/-- the first sums of the one less those of the other -/
def lk (L r : Row) : Row := (List.range (L.length + 1)).map fun k => sm (L.take k) - sm (r.take k)
theorem lk_len (L r : Row) : (lk L r).length = L.length + 1 := by unfold lk; simp
theorem at_lk {L r : Row} {k : Nat} (h : k ≤ L.length) : at_ (lk L r) k = sm (L.take k) - sm (r.take k) := by
  unfold at_ lk
  simp [List.getD, show k < L.length + 1 by omega]
/-- the bounds' step -/
def wk (a b : Int) (w : Row) : Row := 0 :: ((List.range (w.length - 2)).map fun k => p1 a b * at_ w (k + 2) + p2 a b * at_ w k) ++ [0]
theorem wk_len {a b : Int} {w : Row} (h : 2 ≤ w.length) : (wk a b w).length = w.length := by
  unfold wk
  rw [List.cons_append, List.length_cons, List.length_append, List.length_map, List.length_range, List.length_singleton]
  omega
theorem at_wk0 (a b : Int) (w : Row) : at_ (wk a b w) 0 = 0 := rfl
theorem at_wk {a b : Int} {w : Row} {k : Nat} (h : k + 2 < w.length) : at_ (wk a b w) (k + 1) = p1 a b * at_ w (k + 2) + p2 a b * at_ w k := by
  unfold at_ wk
  rw [List.cons_append]
  simp only [List.getD, List.getElem?_cons_succ]
  rw [List.getElem?_append_left (by rw [List.length_map, List.length_range]; omega)]
  simp [at_, List.getD, show k < w.length - 2 by omega]
theorem at_wk_last {a b : Int} {w : Row} (h : 2 ≤ w.length) : at_ (wk a b w) (w.length - 1) = 0 := by
  unfold at_ wk
  rw [List.cons_append, show w.length - 1 = (w.length - 2) + 1 by omega]
  simp only [List.getD, List.getElem?_cons_succ]
  rw [List.getElem?_append_right (by rw [List.length_map, List.length_range]; omega)]
  simp
def wkn (a b : Int) : Nat → Row → Row
  | 0, w => w
  | k + 1, w => wk a b (wkn a b k w)
theorem wkn_len {a b : Int} {w : Row} (h : 2 ≤ w.length) : ∀ k, (wkn a b k w).length = w.length
  | 0 => rfl
  | k + 1 => by rw [wkn, wk_len (by rw [wkn_len h k]; exact h), wkn_len h k]
/-- entry by entry at most -/
def leR (v w : Row) : Prop := ∀ k, k < v.length → at_ v k ≤ at_ w k
section
variable {x : Rat} {n : Nat}
def Lx (x : Rat) (n : Nat) : Row := ldr x n
def Rj (x : Rat) (n j : Nat) : Row := SRn x.num (x.den : Int) j (evn n)
def Dj (x : Rat) (n j : Nat) : Row := lk (Lx x n) (Rj x n j)
def Wj (x : Rat) (n j : Nat) : Row := wkn x.num (x.den : Int) j (Dj x n 0)
theorem Rj_len (x : Rat) (n j : Nat) : (Rj x n j).length = n := by unfold Rj; rw [SRn_len, evn_len]
theorem Rj_succ (x : Rat) (n j : Nat) : Rj x n (j + 1) = SR x.num (x.den : Int) (Rj x n j) := SRn_succ _ _ _ _
theorem Dj_len (x : Rat) (n j : Nat) : (Dj x n j).length = n + 1 := by unfold Dj Lx; rw [lk_len, ldr_len]
theorem Wj_len (x : Rat) (n j : Nat) (h : 1 ≤ n) : (Wj x n j).length = n + 1 := by unfold Wj; rw [wkn_len (by rw [Dj_len]; omega), Dj_len]
theorem Wj_succ (x : Rat) (n j : Nat) : Wj x n (j + 1) = wk x.num (x.den : Int) (Wj x n j) := rfl
theorem sm_evn {n : Nat} (h : 0 < n) : sm (evn n) = 1 := by
  have e : ∀ (q : Rat) (k : Nat), sm (List.replicate k q) = (k : Rat) * q := fun q k => by
    induction k with
    | zero => simp [sm]
    | succ k ih => rw [List.replicate_succ, sm, ih]; have : ((k + 1 : Nat) : Rat) = (k : Rat) + 1 := by simp
                   rw [this]; grind
  unfold evn
  rw [e]
  have h' : ((0 : Int) : Rat) < (((n : Nat) : Int) : Rat) := Rat.intCast_lt_intCast.mpr (by omega)
  have c : (((n : Nat) : Int) : Rat) = (n : Rat) := Rat.intCast_natCast n
  rw [c]
  rw [c] at h'
  have : (n : Rat) ≠ 0 := by grind
  grind
theorem take_evn {n k : Nat} (h : k ≤ n) : (evn n).take k = List.replicate k ((1 : Rat) / ((n : Nat) : Int)) := by
  unfold evn
  rw [List.take_replicate, Nat.min_eq_left h]
theorem sm_shs (a b : Int) : ∀ r : Row, sm (shs a b r) = sm r * (p1 a b + p2 a b)
  | [] => by simp [shs, sm]; try grind
  | q :: r => by rw [shs_cons, sm, sm, sm, sm_shs a b r]; grind
theorem sm_SR {a b : Int} (h : p1 a b + p2 a b = 1) (r : Row) : sm (SR a b r) = sm r := by
  have l := shs_len a b r
  have t := pr_take (srt (shs a b r)) r.length (by rw [srt_len]; omega)
  have l2 : (pr (srt (shs a b r))).length = r.length := SR_len a b r
  rw [List.take_of_length_le (l := pr (srt (shs a b r))) (by omega), List.take_of_length_le (l := srt (shs a b r)) (by rw [srt_len]; omega)] at t
  unfold SR
  rw [t, sm_perm (srt_perm _), sm_shs, h]
  grind
theorem sm_Rj (X : XR x) (h0 : 0 < n) : ∀ j, sm (Rj x n j) = 1
  | 0 => sm_evn h0
  | j + 1 => by rw [Rj_succ, sm_SR X.p.1, sm_Rj X h0 j]
theorem p_nn (X : XR x) : 0 ≤ p1 x.num (x.den : Int) ∧ 0 ≤ p2 x.num (x.den : Int) := by
  obtain ⟨e1, e2, e3⟩ := X.p
  refine ⟨by grind, ?_⟩
  rw [e2]
  exact Rat.mul_nonneg (by have := X.pos; grind) (by grind)
theorem L_fix (X : XR x) (h0 : 0 < n) (hn : n ≤ 8) : SR x.num (x.den : Int) (Lx x n) = Lx x n := (SR_rest X (ldr_nn X h0 hn)).mpr (geo_rst (ldr_geo X n h0 hn))
theorem geo_rep (q : Rat) : ∀ k, geo 1 (List.replicate k q)
  | 0 => trivial
  | 1 => trivial
  | k + 2 => by
    have ih := geo_rep q (k + 1)
    rw [List.replicate_succ, List.replicate_succ]
    rw [List.replicate_succ] at ih
    exact ⟨by grind, ih⟩
theorem dsc_rst1 : ∀ {r : Row}, Dsc r → rst 1 r
  | [], _ => trivial
  | [_], _ => trivial
  | a :: b :: r, h => by
    obtain ⟨h1, h2⟩ := List.pairwise_cons.mp h
    have := h1 b (by simp)
    exact ⟨by grind, dsc_rst1 h2⟩
theorem inv_nn {n : Nat} (h : 0 < n) : (0 : Rat) ≤ (1 : Rat) / ((n : Nat) : Int) := by
  have h' : ((0 : Int) : Rat) < (((n : Nat) : Int) : Rat) := Rat.intCast_lt_intCast.mpr (by omega)
  have c := Rat.inv_pos.mpr (show (0 : Rat) < (((n : Nat) : Int) : Rat) by simpa using h')
  rw [Rat.div_def]
  grind
/-- never past the ladder -/
theorem F_le (X : XR x) (h0 : 0 < n) (hn : n ≤ 8) : ∀ j k, k ≤ n → sm ((Rj x n j).take k) ≤ sm ((Lx x n).take k)
  | 0, k, hk => by
    have ab := above (x := 1) (by decide) (Lx x n) (evn n) (by unfold Lx; rw [ldr_len, evn_len]) (fun q hq => by unfold evn at hq; rw [List.eq_of_mem_replicate hq]; exact inv_nn h0) (dsc_rst1 (ldr_dsc X h0 hn)) (geo_rep _ _) k
    unfold Lx at ab ⊢
    rw [ldr_sm X h0 hn, sm_evn h0] at ab
    show sm ((evn n).take k) ≤ _
    grind
  | j + 1, k, hk => by
    have np := never_past (k := k) (p_nn X).1 (p_nn X).2 (r := Rj x n j) (L := Lx x n) (SRn_dsc _ _ n j) (by rw [Rj_len]; unfold Lx; rw [ldr_len]) (fun i hi => F_le X h0 hn j i (by rw [Rj_len] at hi; exact hi)) (by rw [Rj_len]; exact hk)
    rw [L_fix X h0 hn, ← Rj_succ] at np
    exact np
theorem D_nn (X : XR x) (h0 : 0 < n) (hn : n ≤ 8) (j k : Nat) (hk : k ≤ n) : 0 ≤ at_ (Dj x n j) k := by
  unfold Dj
  rw [at_lk (by unfold Lx; rw [ldr_len]; exact hk)]
  have := F_le X h0 hn j k hk
  grind
theorem D_0 (x : Rat) (n j : Nat) : at_ (Dj x n j) 0 = 0 := by
  unfold Dj
  rw [at_lk (Nat.zero_le _)]
  simp [sm]; try grind
theorem D_n (X : XR x) (h0 : 0 < n) (hn : n ≤ 8) (j : Nat) : at_ (Dj x n j) n = 0 := by
  unfold Dj
  rw [at_lk (by unfold Lx; rw [ldr_len]; exact Nat.le_refl _), List.take_of_length_le (by unfold Lx; rw [ldr_len]; exact Nat.le_refl _), List.take_of_length_le (by rw [Rj_len]; exact Nat.le_refl _), sm_Rj X h0]
  unfold Lx
  rw [ldr_sm X h0 hn]
  grind
theorem D_mono (X : XR x) (h0 : 0 < n) (hn : n ≤ 8) (j k : Nat) (hk : k ≤ n) : at_ (Dj x n (j + 1)) k ≤ at_ (Dj x n j) k := by
  unfold Dj
  have lL : (Lx x n).length = n := ldr_len x n
  rw [at_lk (by omega), at_lk (by omega)]
  cases k with
  | zero => simp [sm]
  | succ k =>
    have c := choice (a := x.num) (b := (x.den : Int)) (r := Rj x n j) (k := k + 1) (i := k + 1) (j := k + 1) (by rw [shs_len, Rj_len]; omega) (by omega) (by rw [Rj_len]; omega) (by rw [Rj_len]; omega) (by omega)
    rw [← Rj_succ] at c
    have e := X.p.1
    generalize p1 x.num (x.den : Int) = P1 at *
    generalize p2 x.num (x.den : Int) = P2 at *
    generalize sm ((Rj x n j).take (k + 1)) = F at *
    generalize sm ((Rj x n (j + 1)).take (k + 1)) = F' at *
    have : F ≤ F' := by
      have g : P1 * F + P2 * F = F := by
        have : (P1 + P2) * F = F := by rw [e, Rat.one_mul]
        grind
      grind
    grind
theorem take_succ_sm {l : Row} {k : Nat} (h : k < l.length) : sm (l.take (k + 1)) = sm (l.take k) + at_ l k := by
  rw [sm_take h]
  unfold at_
  simp [List.getD, h]
theorem geo_at {x : Rat} : ∀ {l : Row}, geo x l → ∀ k, k + 1 < l.length → at_ l (k + 1) = x * at_ l k
  | [], _, k, h => by simp at h
  | [_], _, k, h => by simp at h
  | a :: b :: l, g, 0, _ => g.1
  | a :: b :: l, g, k + 1, h => geo_at (l := b :: l) g.2 k (by simpa using h)
theorem D_step (X : XR x) (h0 : 0 < n) (hn : n ≤ 8) (j k : Nat) (hk : k + 2 ≤ n) : at_ (Dj x n (j + 1)) (k + 1) ≤ p1 x.num (x.den : Int) * at_ (Dj x n j) (k + 2) + p2 x.num (x.den : Int) * at_ (Dj x n j) k := by
  unfold Dj
  have lL : (Lx x n).length = n := ldr_len x n
  rw [at_lk (by omega), at_lk (by omega), at_lk (by omega)]
  have c := choice (a := x.num) (b := (x.den : Int)) (r := Rj x n j) (k := k + 1) (i := k + 2) (j := k) (by rw [shs_len, Rj_len]; omega) (by omega) (by rw [Rj_len]; omega) (by rw [Rj_len]; omega) (by omega)
  rw [← Rj_succ] at c
  obtain ⟨e, e2, _⟩ := X.p
  have g := geo_at (ldr_geo X n h0 hn) k (by rw [ldr_len]; omega)
  have t1 := take_succ_sm (l := Lx x n) (k := k) (by omega)
  have t2 := take_succ_sm (l := Lx x n) (k := k + 1) (by omega)
  have g : at_ (Lx x n) (k + 1) = x * at_ (Lx x n) k := g
  rw [show k + 1 + 1 = k + 2 by omega] at t2
  generalize p1 x.num (x.den : Int) = P1 at *
  generalize p2 x.num (x.den : Int) = P2 at *
  generalize sm ((Rj x n j).take (k + 2)) = F2 at *
  generalize sm ((Rj x n j).take k) = F0 at *
  generalize sm ((Rj x n (j + 1)).take (k + 1)) = F' at *
  generalize sm ((Lx x n).take k) = L0 at *
  generalize sm ((Lx x n).take (k + 1)) = L1 at *
  generalize sm ((Lx x n).take (k + 2)) = L2 at *
  generalize at_ (Lx x n) k = l0 at *
  generalize at_ (Lx x n) (k + 1) = l1 at *
  have : P1 * L2 + P2 * L0 = L1 := by
    rw [t2, t1, g, e2]
    have e' : P1 + x * P1 = 1 := by rw [← e2]; exact e
    have : (P1 + x * P1) * L0 + (P1 + x * P1) * l0 = L0 + l0 := by rw [e', Rat.one_mul, Rat.one_mul]
    grind
  grind
theorem W_ge (X : XR x) (h0 : 0 < n) (hn : n ≤ 8) : ∀ j k, k ≤ n → at_ (Dj x n j) k ≤ at_ (Wj x n j) k
  | 0, k, _ => Rat.le_refl
  | j + 1, k, hk => by
    have wl := Wj_len x n j (by omega)
    rw [Wj_succ]
    rcases Nat.lt_or_ge k 1 with q | q
    · have : k = 0 := by omega
      subst this
      rw [D_0, at_wk0]; exact Rat.le_refl
    · rcases Nat.lt_or_ge k n with q2 | q2
      · obtain ⟨m, rfl⟩ : ∃ m, k = m + 1 := ⟨k - 1, by omega⟩
        have s := D_step X h0 hn j m (by omega)
        rw [at_wk (by omega)]
        have a1 := Rat.mul_le_mul_of_nonneg_left (W_ge X h0 hn j (m + 2) (by omega)) (p_nn X).1
        have a2 := Rat.mul_le_mul_of_nonneg_left (W_ge X h0 hn j m (by omega)) (p_nn X).2
        grind
      · have : k = n := by omega
        subst this
        rw [D_n X h0 hn]
        have e := at_wk_last (a := x.num) (b := (x.den : Int)) (w := Wj x k j) (by omega)
        rw [wl, show k + 1 - 1 = k by omega] at e
        rw [e]; exact Rat.le_refl
theorem D_one (X : XR x) (h0 : 0 < n) (hn : n ≤ 8) (k : Nat) (hk : k ≤ n) : at_ (Dj x n 0) k ≤ 1 := by
  unfold Dj
  have lL : (Lx x n).length = n := ldr_len x n
  rw [at_lk (by omega)]
  have f : 0 ≤ sm ((Rj x n 0).take k) := sm_nn fun q hq => by
    have hq := List.mem_of_mem_take hq
    have hq : q ∈ evn n := hq
    unfold evn at hq
    rw [List.eq_of_mem_replicate hq]; exact inv_nn h0
  have s := sm_split (Lx x n) k
  have d : 0 ≤ sm ((Lx x n).drop k) := sm_nn fun q hq => ldr_nn X h0 hn q (List.mem_of_mem_drop hq)
  have one : sm (Lx x n) = 1 := ldr_sm X h0 hn
  grind
theorem W_01 (X : XR x) (h0 : 0 < n) (hn : n ≤ 8) : ∀ j k, k ≤ n → 0 ≤ at_ (Wj x n j) k ∧ at_ (Wj x n j) k ≤ 1
  | 0, k, hk => ⟨D_nn X h0 hn 0 k hk, D_one X h0 hn k hk⟩
  | j + 1, k, hk => by
    have g := W_ge X h0 hn (j + 1) k hk
    have d := D_nn X h0 hn (j + 1) k hk
    refine ⟨by grind, ?_⟩
    have wl := Wj_len x n j (by omega)
    rw [Wj_succ]
    rcases Nat.lt_or_ge k 1 with q | q
    · have : k = 0 := by omega
      subst this
      rw [at_wk0]; decide
    · rcases Nat.lt_or_ge k n with q2 | q2
      · obtain ⟨m, rfl⟩ : ∃ m, k = m + 1 := ⟨k - 1, by omega⟩
        rw [at_wk (by omega)]
        have a1 := Rat.mul_le_mul_of_nonneg_left (W_01 X h0 hn j (m + 2) (by omega)).2 (p_nn X).1
        have a2 := Rat.mul_le_mul_of_nonneg_left (W_01 X h0 hn j m (by omega)).2 (p_nn X).2
        have e := X.p.1
        grind
      · have : k = n := by omega
        subst this
        have e := at_wk_last (a := x.num) (b := (x.den : Int)) (w := Wj x k j) (by omega)
        rw [wl, show k + 1 - 1 = k by omega] at e
        rw [e]; decide
theorem D_01 (X : XR x) (h0 : 0 < n) (hn : n ≤ 8) (j k : Nat) (hk : k ≤ n) : 0 ≤ at_ (Dj x n j) k ∧ at_ (Dj x n j) k ≤ 1 := by
  have a := D_nn X h0 hn j k hk
  have b := W_ge X h0 hn j k hk
  have c := W_01 X h0 hn j k hk
  exact ⟨a, by grind⟩
/-- the bounds fall -/
theorem W_fall (X : XR x) (h0 : 0 < n) (hn : n ≤ 6) : ∀ j k, k ≤ n → at_ (Wj x n j) k * (11 * 35 ^ j) ≤ 34 ^ j * (36 - (k : Rat) * (k : Rat))
  | 0, k, hk => by
    rcases Nat.lt_or_ge k n with q | q
    · have w := (W_01 X h0 (by omega) 0 k hk).2
      have hk5 : k = 0 ∨ k = 1 ∨ k = 2 ∨ k = 3 ∨ k = 4 ∨ k = 5 := by omega
      have : (11 : Rat) ≤ 36 - (k : Rat) * (k : Rat) := by rcases hk5 with rfl | rfl | rfl | rfl | rfl | rfl <;> decide +kernel
      simp only [Rat.pow_zero]
      grind
    · have : k = n := by omega
      subst this
      have e : at_ (Wj x k 0) k = 0 := D_n X h0 (by omega) 0
      rw [e]
      have hk5 : k = 0 ∨ k = 1 ∨ k = 2 ∨ k = 3 ∨ k = 4 ∨ k = 5 ∨ k = 6 := by omega
      have : (0 : Rat) ≤ 36 - (k : Rat) * (k : Rat) := by rcases hk5 with rfl | rfl | rfl | rfl | rfl | rfl | rfl <;> decide +kernel
      simp only [Rat.pow_zero]
      grind
  | j + 1, k, hk => by
    have wl := Wj_len x n j (by omega)
    have hk5 : k = 0 ∨ k = 1 ∨ k = 2 ∨ k = 3 ∨ k = 4 ∨ k = 5 ∨ k = 6 := by omega
    have k0 : (0 : Rat) ≤ 36 - (k : Rat) * (k : Rat) := by rcases hk5 with rfl | rfl | rfl | rfl | rfl | rfl | rfl <;> decide +kernel
    have pw : (0 : Rat) ≤ 34 ^ (j + 1) := Rat.pow_nonneg (by decide)
    rw [Wj_succ]
    rcases Nat.lt_or_ge k 1 with q | q
    · have : k = 0 := by omega
      subst this
      rw [at_wk0]
      have := Rat.mul_nonneg pw k0
      grind
    · rcases Nat.lt_or_ge k n with q2 | q2
      · obtain ⟨m, rfl⟩ : ∃ m, k = m + 1 := ⟨k - 1, by omega⟩
        rw [at_wk (by omega)]
        have a1 := Rat.mul_le_mul_of_nonneg_left (W_fall X h0 hn j (m + 2) (by omega)) (p_nn X).1
        have a2 := Rat.mul_le_mul_of_nonneg_left (W_fall X h0 hn j m (by omega)) (p_nn X).2
        obtain ⟨e, e2, e3⟩ := X.p
        have one := X.one
        have pq : p2 x.num (x.den : Int) ≤ p1 x.num (x.den : Int) := by
          rw [e2]
          have : x * p1 x.num (x.den : Int) ≤ 1 * p1 x.num (x.den : Int) := Rat.mul_le_mul_of_nonneg_right one (by grind)
          grind
        have c2 : ((m + 2 : Nat) : Rat) = (m : Rat) + 2 := by simp
        have c1 : ((m + 1 : Nat) : Rat) = (m : Rat) + 1 := by simp
        have m0 : (0 : Rat) ≤ (m : Rat) := by
          have : ((0 : Int) : Rat) ≤ ((m : Int) : Rat) := Rat.intCast_le_intCast.mpr (by omega)
          rw [Rat.intCast_natCast] at this
          simpa using this
        rw [c2] at a1
        rw [c1] at k0 ⊢
        have e34 : (34 : Rat) ^ (j + 1) = 34 ^ j * 34 := Rat.pow_succ _ _
        have e35 : (35 : Rat) ^ (j + 1) = 35 ^ j * 35 := Rat.pow_succ _ _
        have pw0 : (0 : Rat) ≤ 34 ^ j := Rat.pow_nonneg (by decide)
        rw [e34, e35]
        generalize (34 : Rat) ^ j = A at *
        generalize (35 : Rat) ^ j = B at *
        generalize p1 x.num (x.den : Int) = P1 at *
        generalize p2 x.num (x.den : Int) = P2 at *
        generalize at_ (Wj x n j) (m + 2) = W2 at *
        generalize at_ (Wj x n j) m = W0 at *
        generalize (m : Rat) = M at *
        have h1 : P1 * (W2 * (11 * B)) + P2 * (W0 * (11 * B)) ≤ A * (P1 * (36 - (M + 2) * (M + 2)) + P2 * (36 - M * M)) := by grind
        have h2 : P1 * (36 - (M + 2) * (M + 2)) + P2 * (36 - M * M) ≤ 36 - (M + 1) * (M + 1) - 1 := by
          have eP2 : P2 = 1 - P1 := by grind
          have : 0 ≤ (P1 - P2) * (M + 1) := Rat.mul_nonneg (by grind) (by grind)
          rw [eP2] at this ⊢
          grind
        have h3 : 35 * (36 - (M + 1) * (M + 1) - 1) ≤ 34 * (36 - (M + 1) * (M + 1)) := by
          have : 0 ≤ M * M := Rat.mul_nonneg m0 m0
          grind
        have h4 : A * (P1 * (36 - (M + 2) * (M + 2)) + P2 * (36 - M * M)) ≤ A * (36 - (M + 1) * (M + 1) - 1) := Rat.mul_le_mul_of_nonneg_left h2 pw0
        have h5 : A * (35 * (36 - (M + 1) * (M + 1) - 1)) ≤ A * (34 * (36 - (M + 1) * (M + 1))) := Rat.mul_le_mul_of_nonneg_left h3 pw0
        grind
      · have : k = n := by omega
        subst this
        have e := at_wk_last (a := x.num) (b := (x.den : Int)) (w := Wj x k j) (by omega)
        rw [wl, show k + 1 - 1 = k by omega] at e
        rw [e]
        have := Rat.mul_nonneg pw k0
        grind
theorem W_300 (X : XR x) (h0 : 0 < n) (hn : n ≤ 6) (k : Nat) (hk : k ≤ n) : at_ (Wj x n 300) k ≤ (1 : Rat) / 1000 := by
  have f := W_fall X h0 hn 300 k hk
  have k2 : (36 : Rat) - (k : Rat) * (k : Rat) ≤ 36 := by
    have hk5 : k = 0 ∨ k = 1 ∨ k = 2 ∨ k = 3 ∨ k = 4 ∨ k = 5 ∨ k = 6 := by omega
    rcases hk5 with rfl | rfl | rfl | rfl | rfl | rfl | rfl <;> decide +kernel
  have n0 : (34 : Nat) ^ 300 * 36 * 1000 ≤ 11 * 35 ^ 300 := by decide +kernel
  have key : ∀ a b : Nat, a * 36 * 1000 ≤ 11 * b → (a : Rat) * 36 * 1000 ≤ 11 * (b : Rat) := fun a b h => by
    have g : (((a * 36 * 1000 : Nat) : Int) : Rat) ≤ (((11 * b : Nat) : Int) : Rat) := Rat.intCast_le_intCast.mpr (by omega)
    rw [Rat.intCast_natCast, Rat.intCast_natCast, Rat.natCast_mul, Rat.natCast_mul, Rat.natCast_mul] at g
    exact g
  have n1 := key _ _ n0
  rw [Rat.natCast_pow, Rat.natCast_pow] at n1
  have n1 : ((34 : Rat) ^ 300 * 36 * 1000) ≤ 11 * 35 ^ 300 := n1
  have p34 : (0 : Rat) ≤ 34 ^ 300 := Rat.pow_nonneg (by decide)
  have p35 : (0 : Rat) < 35 ^ 300 := Rat.pow_pos (by decide)
  generalize (34 : Rat) ^ 300 = A at *
  generalize (35 : Rat) ^ 300 = B at *
  generalize at_ (Wj x n 300) k = W at *
  have a1 : A * (36 - (k : Rat) * (k : Rat)) ≤ A * 36 := Rat.mul_le_mul_of_nonneg_left k2 p34
  generalize (36 : Rat) - (k : Rat) * (k : Rat) = KK at *
  have h1 : (W * 1000) * (11 * B) ≤ 1 * (11 * B) := by grind
  have h2 : W * 1000 ≤ 1 := Rat.le_of_mul_le_mul_right h1 (by grind)
  grind
end
end R.N
end

section
set_option Elab.async false
set_option linter.all false
set_option maxRecDepth 100000
set_option exponentiation.threshold 5000
/-! N17: rounds, lacks, bounds in whole numbers over one bottom. -/
namespace R.N
open R R.V
/-- the whole numbers over v -/
def Sc (v : Int) (N : List Int) (r : Row) : Prop := N.map (fun (z : Int) => (z : Rat)) = r.map (· * (v : Rat))
theorem Sc.len {v : Int} {N : List Int} {r : Row} (h : Sc v N r) : N.length = r.length := by
  have := congrArg List.length h
  simpa using this
theorem Sc.at_ {v : Int} {N : List Int} {r : Row} (h : Sc v N r) {k : Nat} (hk : k < N.length) : ((N.getD k 0 : Int) : Rat) = V.at_ r k * (v : Rat) := by
  have e := congrArg (·[k]?) h
  have l := h.len
  simp only [List.getElem?_map] at e
  unfold V.at_
  simp only [List.getD, List.getElem?_eq_getElem hk, List.getElem?_eq_getElem (show k < r.length by omega), Option.map_some, Option.some.injEq, Option.getD_some] at e ⊢
  exact e
theorem sc_of {v : Int} {N : List Int} {r : Row} (hl : N.length = r.length) (h : ∀ k, k < N.length → ((N.getD k 0 : Int) : Rat) = V.at_ r k * (v : Rat)) : Sc v N r := by
  unfold Sc
  apply List.ext_getElem
  · simpa using hl
  · intro i h1 h2
    rw [List.length_map] at h1 h2
    have e := h i h1
    unfold V.at_ at e
    simp only [List.getD, List.getElem?_eq_getElem h1, List.getElem?_eq_getElem h2, Option.getD_some] at e
    simpa using e
theorem Sc.sum {v : Int} : ∀ {N : List Int} {r : Row}, Sc v N r → ((N.sum : Int) : Rat) = sm r * (v : Rat)
  | [], [], _ => by simp [sm]; try grind
  | z :: N, q :: r, h => by
    unfold Sc at h
    rw [List.map_cons, List.map_cons] at h
    injection h with h1 h2
    have ih := Sc.sum (N := N) (r := r) h2
    rw [List.sum_cons, sm, Rat.intCast_add, ih, h1]
    grind
  | [], _ :: _, h => by have := h.len; simp at this
  | _ :: _, [], h => by have := h.len; simp at this
theorem Sc.take {v : Int} {N : List Int} {r : Row} (h : Sc v N r) (k : Nat) : Sc v (N.take k) (r.take k) := by
  unfold Sc at *
  rw [List.map_take, List.map_take, h]
theorem pos_q {v : Int} (h : 0 < v) : (0 : Rat) < (v : Rat) := by
  have : ((0 : Int) : Rat) < (v : Rat) := Rat.intCast_lt_intCast.mpr h
  simpa using this
theorem Sc.mem {v : Int} {N : List Int} {r : Row} (h : Sc v N r) {z : Int} (hz : z ∈ N) : ∃ q ∈ r, (z : Rat) = q * (v : Rat) := by
  have : ((z : Int) : Rat) ∈ N.map (fun (z : Int) => (z : Rat)) := List.mem_map.mpr ⟨z, hz, rfl⟩
  unfold Sc at h
  rw [h] at this
  obtain ⟨q, hq, e⟩ := List.mem_map.mp this
  exact ⟨q, hq, e.symm⟩
theorem Sc.mem' {v : Int} {N : List Int} {r : Row} (h : Sc v N r) {q : Rat} (hq : q ∈ r) : ∃ z ∈ N, (z : Rat) = q * (v : Rat) := by
  have : q * (v : Rat) ∈ r.map (· * (v : Rat)) := List.mem_map.mpr ⟨q, hq, rfl⟩
  unfold Sc at h
  rw [← h] at this
  obtain ⟨z, hz, e⟩ := List.mem_map.mp this
  exact ⟨z, hz, e⟩
/-- entries of 0 to 1 -/
def I01 (r : Row) : Prop := ∀ q ∈ r, 0 ≤ q ∧ q ≤ 1
theorem i01_of {r : Row} (h : ∀ k, k < r.length → 0 ≤ V.at_ r k ∧ V.at_ r k ≤ 1) : I01 r := fun q hq => by
  obtain ⟨k, hk, rfl⟩ := List.getElem_of_mem hq
  have := h k hk
  unfold V.at_ at this
  simpa [List.getD, hk] using this
theorem Sc.bd {v : Int} {N : List Int} {r : Row} (h : Sc v N r) (i : I01 r) (hv : 0 < v) {z : Int} (hz : z ∈ N) : 0 ≤ z ∧ z ≤ v := by
  obtain ⟨q, hq, e⟩ := h.mem hz
  obtain ⟨q0, q1⟩ := i q hq
  have v0 := pos_q hv
  have a : (0 : Rat) ≤ (z : Rat) := by rw [e]; exact Rat.mul_nonneg q0 (by grind)
  have b : (z : Rat) ≤ (v : Rat) := by
    rw [e]
    have : q * (v : Rat) ≤ 1 * (v : Rat) := Rat.mul_le_mul_of_nonneg_right q1 (by grind)
    grind
  have a : ((0 : Int) : Rat) ≤ (z : Rat) := by simpa using a
  exact ⟨Rat.intCast_le_intCast.mp a, Rat.intCast_le_intCast.mp b⟩
theorem Sc.getD_mem {N : List Int} {k : Nat} (hk : k < N.length) : N.getD k 0 ∈ N := by simp [List.getD, hk]
/-- the fraction of an entry -/
theorem Sc.frac {v : Int} {z : Int} {q : Rat} (hv : 0 < v) (e : (z : Rat) = q * (v : Rat)) : (z : Rat) / (v : Rat) = q := by
  have v0 := pos_q hv
  have : (v : Rat) ≠ 0 := by grind
  rw [e]
  grind
theorem Sc.brow {v : Int} {N : List Int} {r : Row} {A : Nat} (h : Sc v N r) (i : I01 r) (hv : 0 < v) (hA : v.natAbs < 2 ^ A) : BRow A r := by
  refine ⟨v.toNat, by omega, by omega, fun q hq => ?_⟩
  obtain ⟨z, hz, e⟩ := h.mem' hq
  have b := h.bd i hv hz
  refine ⟨z, ?_, by omega⟩
  rw [show ((v.toNat : Nat) : Int) = v by omega]
  exact (Sc.frac hv e).symm
/-! ### a round -/
def shI (a b : Int) (N : List Int) : List Int := N.flatMap fun z => [-z * b, -z * a]
theorem shI_cons (a b z : Int) (N : List Int) : shI a b (z :: N) = -z * b :: -z * a :: shI a b N := rfl
theorem shI_len (a b : Int) : ∀ N : List Int, (shI a b N).length = 2 * N.length
  | [] => rfl
  | z :: N => by rw [shI_cons, List.length_cons, List.length_cons, shI_len a b N, List.length_cons]; omega
def rnd (a b : Int) (N : List Int) : List Int := (List.range N.length).map fun t => -((sortI (shI a b N)).getD (2 * t) 0) - (sortI (shI a b N)).getD (2 * t + 1) 0
theorem sort_len (l : List Int) : (sortI l).length = l.length := (sortI_perm l).length_eq
theorem p_mul {a b : Int} (h : 0 < a + b) : p1 a b * ((a + b : Int) : Rat) = (b : Rat) ∧ p2 a b * ((a + b : Int) : Rat) = (a : Rat) := by
  have s := pos_q h
  have : ((a + b : Int) : Rat) ≠ 0 := by grind
  unfold p1 p2
  generalize ((a + b : Int) : Rat) = S at *
  exact ⟨by grind, by grind⟩
theorem sc_shI {a b v : Int} (h : 0 < a + b) : ∀ {N : List Int} {r : Row}, Sc v N r → (shI a b N).map (fun (z : Int) => (z : Rat)) = (shs a b r).map (· * (-((v * (a + b) : Int) : Rat)))
  | [], [], _ => rfl
  | z :: N, q :: r, hs => by
    unfold Sc at hs
    rw [List.map_cons, List.map_cons] at hs
    injection hs with h1 h2
    have ih := sc_shI h (N := N) (r := r) h2
    obtain ⟨e1, e2⟩ := p_mul h
    rw [shI_cons, shs_cons]
    simp only [List.map_cons]
    rw [ih, Rat.intCast_mul, Rat.intCast_mul, Rat.intCast_mul, Rat.intCast_neg, h1, ← e1, ← e2]
    congr 1
    · grind
    · congr 1
      grind
  | [], _ :: _, h => by have := h.len; simp at this
  | _ :: _, [], h => by have := h.len; simp at this
theorem sc_sort {a b v : Int} (h : 0 < a + b) (hv : 0 < v) {N : List Int} {r : Row} (hs : Sc v N r) : (sortI (shI a b N)).map (fun (z : Int) => (z : Rat)) = (srt (shs a b r)).map (· * (-((v * (a + b) : Int) : Rat))) := by
  have w := pos_q (Int.mul_pos hv h)
  refine List.Perm.eq_of_pairwise (le := fun (a b : Rat) => a ≤ b) (fun x y _ _ h1 h2 => by grind) ?_ ?_ ?_
  · rw [List.pairwise_map]
    exact (sortI_sorted _).imp fun h => Rat.intCast_le_intCast.mpr h
  · rw [List.pairwise_map]
    refine (srt_dsc (shs a b r)).imp fun {y z} h1 => ?_
    have := Rat.mul_le_mul_of_nonneg_right h1 (show 0 ≤ ((v * (a + b) : Int) : Rat) by grind)
    grind
  · have p1 := (sortI_perm (shI a b N)).map (fun (z : Int) => (z : Rat))
    have p2 := (srt_perm (shs a b r)).map (· * (-((v * (a + b) : Int) : Rat)))
    rw [sc_shI h hs] at p1
    exact p1.trans p2.symm
theorem sc_rnd {a b v : Int} (h : 0 < a + b) (hv : 0 < v) {N : List Int} {r : Row} (hs : Sc v N r) : Sc (v * (a + b)) (rnd a b N) (SR a b r) := by
  have e := sc_sort h hv hs
  have l := hs.len
  have sl := shs_len a b r
  refine sc_of (by unfold rnd; rw [List.length_map, List.length_range, SR_len]; exact l) fun k hk => ?_
  have hk : k < N.length := by unfold rnd at hk; simpa using hk
  have g : ∀ j, j < (shI a b N).length → (((sortI (shI a b N)).getD j 0 : Int) : Rat) = V.at_ (srt (shs a b r)) j * (-((v * (a + b) : Int) : Rat)) := fun j hj => by
    have e2 := congrArg (·[j]?) e
    simp only [List.getElem?_map] at e2
    have h1 : j < (sortI (shI a b N)).length := by rw [sort_len]; exact hj
    have h2 : j < (srt (shs a b r)).length := by rw [srt_len, sl]; rw [shI_len] at hj; omega
    unfold V.at_
    simp only [List.getD, List.getElem?_eq_getElem h1, List.getElem?_eq_getElem h2, Option.map_some, Option.some.injEq, Option.getD_some] at e2 ⊢
    exact e2
  have g1 := g (2 * k) (by rw [shI_len]; omega)
  have g2 := g (2 * k + 1) (by rw [shI_len]; omega)
  have r1 : (rnd a b N).getD k 0 = -((sortI (shI a b N)).getD (2 * k) 0) - (sortI (shI a b N)).getD (2 * k + 1) 0 := by
    unfold rnd
    simp [List.getD, hk]
  obtain ⟨u, w, e1, e2, e3⟩ := pr_get (l := srt (shs a b r)) (k := k) (by rw [srt_len]; omega)
  have v1 : V.at_ (srt (shs a b r)) (2 * k) = u := by unfold V.at_; simp [List.getD, e1]
  have v2 : V.at_ (srt (shs a b r)) (2 * k + 1) = w := by unfold V.at_; simp [List.getD, e2]
  have v3 : V.at_ (SR a b r) k = u + w := by unfold V.at_ SR; simp [List.getD, e3]
  rw [r1, v3, Rat.intCast_sub, Rat.intCast_neg, g1, g2, v1, v2]
  grind
section
variable {Φ : R.Or}
def bRound : List S := [.set 2 (.lst []), .fr .seq [3] [(.var 0)] [.set 2 (.op .add (.var 2) (.lst [(.op .mul (.un .neg (.var 3)) (.idx (.var 1) (.int 1))), (.op .mul (.un .neg (.var 3)) (.idx (.var 1) (.int 0)))]))] [3], .set 4 (.bi .sorted [(.var 2)]), .ret (.comp .r1 [5] [(.bi .len [(.var 0)])] [] (.op .sub (.un .neg (.idx (.var 4) (.op .mul (.int 2) (.var 5)))) (.idx (.var 4) (.op .add (.op .mul (.int 2) (.var 5)) (.int 1)))))]
theorem rd_loop {a b : Int} (xo : XOk a b) {X : D} (hX : IsX X a b) (U : Option SV) {A : Nat} (hA : A ≤ 900000) : ∀ (N t : List Int), (∀ z ∈ N, z.natAbs < 2 ^ A) → t.length + 2 * N.length ≤ 1000000 →
    forR [3] 0 (frB Φ [3] [.set 2 (.op .add (.var 2) (.lst [(.op .mul (.un .neg (.var 3)) (.idx (.var 1) (.int 1))), (.op .mul (.un .neg (.var 3)) (.idx (.var 1) (.int 0)))]))]) (N.map .int) ⟨[U, some (.sh X), some (.sh (.lst (t.map .int))), none, none, none], []⟩ = .nx ⟨[U, some (.sh X), some (.sh (.lst ((t ++ shI a b N).map .int))), none, none, none], []⟩
  | [], t, _, _ => by rw [show shI a b [] = [] from rfl, List.append_nil]; rfl
  | z :: N, t, hb, hl => by
    rw [List.length_cons] at hl
    obtain ⟨x1, x2, x3⟩ := xo
    have bz := hb z List.mem_cons_self
    have m1 := opm (i := -z) (j := b) (A := A) (B := 6) (by rw [Int.natAbs_neg]; exact bz) (by omega) (by omega)
    have m2 := opm (i := -z) (j := a) (A := A) (B := 6) (by rw [Int.natAbs_neg]; exact bz) (by omega) (by omega)
    have ih := rd_loop ⟨x1, x2, x3⟩ hX U hA N (t ++ [-z * b, -z * a]) (fun y hy => hb y (List.mem_cons_of_mem _ hy)) (by simp only [List.length_append, List.length_cons, List.length_nil]; omega)
    have e : t ++ [-z * b, -z * a] ++ shI a b N = t ++ shI a b (z :: N) := by rw [shI_cons, List.append_assoc]; rfl
    rw [e] at ih
    have ap : op2 .add (.lst (t.map D.int)) (.lst [.int (-z * b), .int (-z * a)]) = .ok (.lst ((t ++ [-z * b, -z * a]).map .int)) := by
      rw [op_app (by simp only [List.length_map, List.length_cons, List.length_nil]; omega), List.map_append]
      rfl
    have i0 := hX.i0
    have i1 := hX.i1
    rw [List.map_cons, forR_cons, ← ih]
    generalize (t ++ [-z * b, -z * a]).map D.int = T1 at *
    generalize t.map D.int = T0 at *
    generalize -z * b = ZB at *
    generalize -z * a = ZA at *
    simp -implicitDefEqProofs [frB, i0, i1, m1, m2, ap, two_le_LINE]
def IsXr (X : D) (x : Rat) : Prop := IsX X x.num (x.den : Int)
theorem round_run {a b : Int} (xo : XOk a b) {X : D} (hX : IsX X a b) {A : Nat} (hA : A ≤ 900000) {N : List Int} (hb : ∀ z ∈ N, z.natAbs < 2 ^ A) (hl : N.length ≤ 1000) : endR (exSs Φ bRound (enter 6 [.lst (N.map .int), X])) = .ok (.sh (.lst ((rnd a b N).map .int))) := by
  have loop := rd_loop (Φ := Φ) xo hX (some (.sh (.lst (N.map .int)))) hA N [] hb (by simp; omega)
  rw [List.nil_append] at loop
  have so : bi .sorted [.lst ((shI a b N).map D.int)] = .ok (.lst ((sortI (shI a b N)).map .int)) := by
    simp only [bi, ints_map]
  have ln : bi .len [.lst (N.map D.int)] = .ok (.int (N.length : Int)) := by rw [bi_lenL, List.length_map]
  have comp : ∀ Δ : List (Option D), Δ[0]? = some (some (.lst (N.map .int))) → Δ[4]? = some (some (.lst ((sortI (shI a b N)).map .int))) → 5 < Δ.length → ev Φ (.comp .r1 [5] [(.bi .len [(.var 0)])] [] (.op .sub (.un .neg (.idx (.var 4) (.op .mul (.int 2) (.var 5)))) (.idx (.var 4) (.op .add (.op .mul (.int 2) (.var 5)) (.int 1))))) Δ = .ok (.lst ((rnd a b N).map .int)) := fun Δ d0 d4 hl5 => by
    unfold rnd
    rw [List.map_map]
    refine comp_rg (n := N.length) ?_ (by omega) fun k hk => ?_
    · simp -implicitDefEqProofs [d0, ln]
    · have c4 : (Δ.set 5 (some (.int (k : Int))))[4]? = some (some (.lst ((sortI (shI a b N)).map .int))) := by rw [List.getElem?_set_ne (by decide)]; exact d4
      have c5 : (Δ.set 5 (some (.int (k : Int))))[5]? = some (some (.int (k : Int))) := by rw [List.getElem?_set_self hl5]
      have mm := op2_mul (i := 2) (j := (k : Int)) (mul_small (by decide) (by omega))
      have j1 : ixR (.lst ((sortI (shI a b N)).map .int)) (.int ((2 * k : Nat) : Int)) = .ok (.int ((sortI (shI a b N)).getD (2 * k) 0)) := IsI.ix (.inl rfl) (by rw [sort_len, shI_len]; omega)
      have j2 : ixR (.lst ((sortI (shI a b N)).map .int)) (.int ((2 * k + 1 : Nat) : Int)) = .ok (.int ((sortI (shI a b N)).getD (2 * k + 1) 0)) := IsI.ix (.inl rfl) (by rw [sort_len, shI_len]; omega)
      rw [show ((2 * k : Nat) : Int) = 2 * (k : Int) by omega] at j1
      rw [show ((2 * k + 1 : Nat) : Int) = 2 * (k : Int) + 1 by omega] at j2
      show _ = Res.ok (D.int (-((sortI (shI a b N)).getD (2 * k) 0) - (sortI (shI a b N)).getD (2 * k + 1) 0))
      generalize (sortI (shI a b N)).getD (2 * k) 0 = Z1 at *
      generalize (sortI (shI a b N)).getD (2 * k + 1) 0 = Z2 at *
      generalize (sortI (shI a b N)).map D.int = SI at *
      simp -implicitDefEqProofs [c4, c5, mm, j1, j2]
  have src : srcR .seq [.lst (N.map D.int)] = .ok (N.map .int) := rfl
  have e0 : D.lst (([] : List Int).map D.int) = .lst [] := rfl
  rw [e0] at loop
  generalize (rnd a b N).map D.int = RN at *
  generalize (sortI (shI a b N)).map D.int = SI at *
  generalize (shI a b N).map D.int = SH at *
  generalize N.map D.int = NI at *
  simp -implicitDefEqProofs [-p_ev_comp, bRound, src, loop, so, comp]
/-! ### the bounds' step -/
def wkI (a b : Int) (B : List Int) : List Int := 0 :: ((List.range (B.length - 2)).map fun k => b * B.getD (k + 2) 0 + a * B.getD k 0) ++ [0]
theorem sc_wkI {a b v : Int} (h : 0 < a + b) {B : List Int} {w : Row} (hs : Sc v B w) (h2 : 2 ≤ w.length) : Sc (v * (a + b)) (wkI a b B) (wk a b w) := by
  have l := hs.len
  obtain ⟨e1, e2⟩ := p_mul h
  unfold Sc wkI wk
  rw [l]
  simp only [List.map_append, List.map_cons, List.map_nil, List.map_map]
  congr 1
  · congr 1
    · simp; try grind
    · apply List.map_congr_left
      intro k hk
      have hk := List.mem_range.mp hk
      simp only [Function.comp]
      rw [Rat.intCast_add, Rat.intCast_mul, Rat.intCast_mul, hs.at_ (by omega), hs.at_ (by omega), Rat.intCast_mul, ← e1, ← e2]
      grind
  · simp; try grind
def tWk : List S := [.appM 2 (.op .add (.op .mul (.idx (.var 1) (.int 1)) (.idx (.var 0) (.op .add (.var 3) (.int 1)))) (.op .mul (.idx (.var 1) (.int 0)) (.idx (.var 0) (.op .sub (.var 3) (.int 1)))))]
def bWalk : List S := [.ownM 2 (.lst [(.int 0)]), .fr .r2 [3] [(.int 1), (.op .sub (.bi .len [(.var 0)]) (.int 1))] tWk [3], .ret (.op .add (.var 2) (.lst [(.int 0)]))]
theorem rr1' {n : Nat} (h0 : 1 ≤ n) (h : n ≤ 100000) : srcR .r2 [.int 1, .int ((n : Int) - 1)] = .ok ((List.range (n - 2)).map fun k => D.int ((k + 1 : Nat) : Int)) := by
  have := rr1 (n := n - 1) (by omega)
  rw [show ((n - 1 : Nat) : Int) = (n : Int) - 1 by omega, show n - 1 - 1 = n - 2 by omega] at this
  exact this
theorem walk_run {a b : Int} (xo : XOk a b) {X : D} (hX : IsX X a b) {A : Nat} (hA : A ≤ 900000) {B : List Int} (hb : ∀ z ∈ B, z.natAbs < 2 ^ A) (h2 : 2 ≤ B.length) (hl : B.length ≤ 1000) : endR (exSs Φ bWalk (enter 4 [.lst (B.map .int), X])) = .ok (.sh (.lst ((wkI a b B).map .int))) := by
  have i0 := hX.i0
  have i1 := hX.i1
  obtain ⟨x1, x2, x3⟩ := xo
  have loop := forR_app (vs := [3]) (n := 1) (b := frB Φ [3] tWk) (N := 2000) (st := fun acc : List Int => ⟨[some (.sh (.lst (B.map .int))), some (.sh X), some (.loc 0), none], [.ls (((0 :: acc).map D.int).map .sh)]⟩) (g := fun k => b * B.getD (k + 2) 0 + a * B.getD k 0) (i := fun k => D.int ((k + 1 : Nat) : Int)) (List.range (B.length - 2)) [] (by simp; omega) fun k hk acc hl2 => by
    have hk := List.mem_range.mp hk
    have j1 : ixR (.lst (B.map .int)) (.int ((k + 2 : Nat) : Int)) = .ok (.int (B.getD (k + 2) 0)) := IsI.ix (.inl rfl) (by omega)
    have j2 : ixR (.lst (B.map .int)) (.int ((k : Nat) : Int)) = .ok (.int (B.getD k 0)) := IsI.ix (.inl rfl) (by omega)
    have b1 := hb _ (Sc.getD_mem (N := B) (k := k + 2) (by omega))
    have b2 := hb _ (Sc.getD_mem (N := B) (k := k) (by omega))
    have m1 := opm (i := b) (j := B.getD (k + 2) 0) (A := 6) (B := A) (by omega) b1 (by omega)
    have m2 := opm (i := a) (j := B.getD k 0) (A := 6) (B := A) (by omega) b2 (by omega)
    have z1 : ((k + 1 : Nat) : Int) + 1 = (k : Int) + 2 := by omega
    rw [show ((k + 2 : Nat) : Int) = (k : Int) + 2 by omega] at j1
    have z2 : ((k + 1 : Nat) : Int) - 1 = ((k : Nat) : Int) := by omega
    have lt : (((0 :: acc).map D.int).map SV.sh).length < LINE := by rw [List.length_map, List.length_map, List.length_cons]; exact len_lt' (by omega)
    have ap : ((0 :: acc).map D.int).map SV.sh ++ [.sh (.int (b * B.getD (k + 2) 0 + a * B.getD k 0))] = ((0 :: (acc ++ [b * B.getD (k + 2) 0 + a * B.getD k 0])).map D.int).map SV.sh := by rw [← List.cons_append, List.map_append, List.map_append]; rfl
    refine ⟨⟨[some (.sh (.lst (B.map .int))), some (.sh X), some (.loc 0), some (.sh (.int ((k + 1 : Nat) : Int)))], [.ls (((0 :: (acc ++ [b * B.getD (k + 2) 0 + a * B.getD k 0])).map D.int).map .sh)]⟩, ?_, rfl⟩
    rw [← ap]
    generalize ((0 :: acc).map D.int).map SV.sh = AC at *
    generalize B.getD (k + 2) 0 = B2 at *
    generalize B.getD k 0 = B0 at *
    generalize b * B2 = BB at *
    generalize a * B0 = AA at *
    generalize B.map D.int = BI at *
    generalize ((k + 1 : Nat) : Int) = K1 at *
    simp -implicitDefEqProofs [frB, tWk, i0, i1, z1, z2, j1, j2, m1, m2, cellOf, lt]
  rw [List.nil_append] at loop
  have src := rr1' (n := B.length) (by omega) (by omega)
  have ln : bi .len [.lst (B.map D.int)] = .ok (.int (B.length : Int)) := by rw [bi_lenL, List.length_map]
  have ew : (0 :: (List.range (B.length - 2)).map fun k => b * B.getD (k + 2) 0 + a * B.getD k 0) ++ [0] = wkI a b B := rfl
  have s0 : ∀ L : List Int, snapO [.ls ((L.map D.int).map .sh)] (some (.loc 0)) = some (.lst (L.map .int)) := fun L => snapO_ls rfl
  have s1 := s0 (0 :: (List.range (B.length - 2)).map fun k => b * B.getD (k + 2) 0 + a * B.getD k 0)
  have ap : op2 .add (.lst ((0 :: (List.range (B.length - 2)).map fun k => b * B.getD (k + 2) 0 + a * B.getD k 0).map D.int)) (.lst [.int 0]) = .ok (.lst ((wkI a b B).map .int)) := by
    rw [op_app (by simp; omega), ← ew, List.map_append]
    rfl
  have e0 : (([0] : List Int).map D.int).map SV.sh = [.sh (.int 0)] := rfl
  rw [e0] at loop
  have o1 : (1 : Nat) ≤ LINE := len_le (by decide)
  unfold bWalk
  generalize (0 :: (List.range (B.length - 2)).map fun k => b * B.getD (k + 2) 0 + a * B.getD k 0).map D.int = WW at *
  generalize WW.map SV.sh = WS at *
  generalize (wkI a b B).map D.int = WI at *
  generalize (List.range (B.length - 2)).map (fun k => D.int ((k + 1 : Nat) : Int)) = RG at *
  generalize B.map D.int = BI at *
  generalize (B.length : Int) = BL at *
  generalize tWk = TW at *
  simp -implicitDefEqProofs [evO, ln, src, loop, s1, ap, o1]
end
end R.N
end

section
set_option Elab.async false
set_option linter.all false
set_option maxRecDepth 100000
set_option exponentiation.threshold 5000
/-! N18: lacks in whole numbers; the greatest of a row; the first that holds; fractions that are told. -/
namespace R.N
open R R.V
/-! ### the lacks' tops -/
def tops (Wt N : List Int) (u : Int) : List Int := (List.range (Wt.length + 1)).map fun k => (Wt.take k).sum * u - (N.take k).sum * Wt.sum
theorem tops_len (Wt N : List Int) (u : Int) : (tops Wt N u).length = Wt.length + 1 := by unfold tops; simp
theorem sc_qd {ps : List Int} (h : 0 < ps.sum) : Sc ps.sum ps (qd ps) := by
  have s := pos_q h
  have n0 : ((ps.sum : Int) : Rat) ≠ 0 := by grind
  unfold Sc qd
  rw [List.map_map]
  apply List.map_congr_left
  intro z _
  simp only [Function.comp]
  generalize ((ps.sum : Int) : Rat) = S at *
  grind
theorem sc_tops {Wt N : List Int} {u : Int} {r : Row} (hw : 0 < Wt.sum) (hs : Sc u N r) : Sc (u * Wt.sum) (tops Wt N u) (lk (qd Wt) r) := by
  have hq := sc_qd hw
  refine sc_of (by rw [tops_len, lk_len]; unfold qd; rw [List.length_map]) fun k hk => ?_
  rw [tops_len] at hk
  have e : (tops Wt N u).getD k 0 = (Wt.take k).sum * u - (N.take k).sum * Wt.sum := by
    unfold tops
    simp [List.getD, hk]
  rw [e, at_lk (by unfold qd; rw [List.length_map]; omega), Rat.intCast_sub, Rat.intCast_mul, Rat.intCast_mul, (hq.take k).sum, (hs.take k).sum, Rat.intCast_mul]
  grind
/-! ### the greatest -/
def gm : Row → Rat
  | [] => 0
  | q :: r => if gm r ≤ q then q else gm r
theorem gm_nn : ∀ r : Row, (∀ q ∈ r, 0 ≤ q) → 0 ≤ gm r
  | [], _ => by decide
  | q :: r, h => by
    have := gm_nn r fun y hy => h y (List.mem_cons_of_mem _ hy)
    have := h q List.mem_cons_self
    unfold gm
    split <;> assumption
theorem gm_ge : ∀ (r : Row), ∀ q ∈ r, q ≤ gm r
  | [], q, h => by cases h
  | p :: r, q, h => by
    unfold gm
    rcases List.mem_cons.mp h with rfl | h
    · split <;> grind
    · have := gm_ge r q h
      split <;> grind
theorem gm_mem : ∀ {r : Row}, r ≠ [] → (∀ q ∈ r, 0 ≤ q) → gm r ∈ r
  | [], h, _ => absurd rfl h
  | [q], _, nn => by
    have := nn q (by simp)
    have e : gm [q] = q := by
      show (if (0 : Rat) ≤ q then q else 0) = q
      rw [if_pos this]
    rw [e]; simp
  | p :: q :: r, _, nn => by
    have := gm_mem (r := q :: r) (by simp) fun y hy => nn y (List.mem_cons_of_mem _ hy)
    rw [gm]
    split
    · simp
    · exact List.mem_cons_of_mem _ this
theorem maxL_mem : ∀ {l : List Int}, l ≠ [] → maxL l ∈ l
  | [], h => absurd rfl h
  | [x], _ => by simp [maxL]
  | x :: y :: l, _ => by
    have := maxL_mem (l := y :: l) (by simp)
    rw [maxL]
    · rcases Int.le_total x (maxL (y :: l)) with h | h
      · rw [Int.max_eq_right h]; exact List.mem_cons_of_mem _ this
      · rw [Int.max_eq_left h]; simp
    · simp
theorem maxL_ge : ∀ {l : List Int}, ∀ z ∈ l, z ≤ maxL l
  | [], z, h => by cases h
  | [x], z, h => by
    rw [List.mem_singleton.mp h]
    simp [maxL]
  | x :: y :: l, z, h => by
    rw [maxL]
    · rcases List.mem_cons.mp h with rfl | h
      · exact Int.le_max_left _ _
      · have := maxL_ge (l := y :: l) z h
        have := Int.le_max_right x (maxL (y :: l))
        omega
    · simp
theorem sc_max {v : Int} {N : List Int} {r : Row} (hs : Sc v N r) (hv : 0 < v) (h0 : N ≠ []) (nn : ∀ q ∈ r, 0 ≤ q) : ((maxL N : Int) : Rat) = gm r * (v : Rat) := by
  have v0 := pos_q hv
  have r0 : r ≠ [] := fun e => h0 (List.length_eq_zero_iff.mp (by rw [hs.len, e]; rfl))
  obtain ⟨q, hq, e1⟩ := hs.mem (maxL_mem h0)
  obtain ⟨z, hz, e2⟩ := hs.mem' (gm_mem r0 nn)
  have a : q * (v : Rat) ≤ gm r * (v : Rat) := Rat.mul_le_mul_of_nonneg_right (gm_ge r q hq) (by grind)
  have b : (z : Rat) ≤ ((maxL N : Int) : Rat) := Rat.intCast_le_intCast.mpr (maxL_ge z hz)
  grind
/-- z over v is at most l -/
theorem le_cross {z v : Int} {m l : Rat} (hv : 0 < v) (e : (z : Rat) = m * (v : Rat)) : z * (l.den : Int) ≤ l.num * v ↔ m ≤ l := by
  have v0 := pos_q hv
  have d0 := pos_q (den_pos l)
  have ql := q_eq l
  have c : ((z * (l.den : Int) : Int) : Rat) ≤ ((l.num * v : Int) : Rat) ↔ m ≤ l := by
    rw [Rat.intCast_mul, Rat.intCast_mul, e]
    have e2 : (l.num : Rat) = l * ((l.den : Int) : Rat) := by
      have n0 : ((l.den : Int) : Rat) ≠ 0 := by grind
      generalize ((l.den : Int) : Rat) = D at *
      generalize (l.num : Rat) = NN at *
      grind
    rw [e2]
    have w := Rat.mul_pos v0 d0
    constructor
    · intro h
      have h : m * ((v : Rat) * ((l.den : Int) : Rat)) ≤ l * ((v : Rat) * ((l.den : Int) : Rat)) := by grind
      exact Rat.le_of_mul_le_mul_right h w
    · intro h
      have := Rat.mul_le_mul_of_nonneg_right h (show 0 ≤ (v : Rat) * ((l.den : Int) : Rat) by grind)
      grind
  rw [← c]
  exact Rat.intCast_le_intCast.symm
theorem filter_head {p : Nat → Bool} {n : Nat} : ∀ (m k : Nat), k + m = n → (∀ j, j < k → p j = false) → (∃ j, j < n ∧ p j = true) → ∃ h, ((List.range' k m).filter p)[0]? = some h ∧ h < n ∧ p h = true ∧ ∀ j, j < h → p j = false
  | 0, k, e, hk, ⟨j, hj, pj⟩ => by
    have := hk j (by omega)
    rw [this] at pj; cases pj
  | m + 1, k, e, hk, ex => by
    rw [List.range'_succ, List.filter_cons]
    cases hp : p k with
    | true => exact ⟨k, by simp, by omega, hp, hk⟩
    | false =>
      obtain ⟨h, h1, h2⟩ := filter_head (p := p) m (k + 1) (by omega) (fun j hj => by
        by_cases q : j = k
        · subst q; exact hp
        · exact hk j (by omega)) ex
      exact ⟨h, by simpa using h1, h2⟩
section
variable {Φ : R.Or}
theorem shi_ints (row : List Int) (k : Nat) : slR (.lst (row.map .int)) none (some (k : Int)) = .ok (.lst ((row.take k).map .int)) := by
  show Res.ok (D.lst (cutD _ _ _)) = _
  rw [cut_to, List.map_take]
def bTops : List S := [.set 3 (.bi .sum [(.var 0)]), .ret (.comp .r1 [4] [(.op .add (.bi .len [(.var 0)]) (.int 1))] [] (.op .sub (.op .mul (.bi .sum [(.shi (.var 0) (.var 4))]) (.var 2)) (.op .mul (.bi .sum [(.shi (.var 1) (.var 4))]) (.var 3))))]
theorem tops_run {Wt N : List Int} {u : Int} {A : Nat} (hA : A ≤ 400000) (hw : ∀ k, (Wt.take k).sum.natAbs < 2 ^ A) (hn : ∀ k, (N.take k).sum.natAbs < 2 ^ A) (hu : u.natAbs < 2 ^ A) (hl : Wt.length ≤ 1000) : endR (exSs Φ bTops (enter 5 [.lst (Wt.map .int), .lst (N.map .int), .int u])) = .ok (.sh (.lst ((tops Wt N u).map .int))) := by
  have so := sum_ok Wt
  have ws := hw Wt.length
  rw [List.take_of_length_le (Nat.le_refl _)] at ws
  have ln : bi .len [.lst (Wt.map D.int)] = .ok (.int (Wt.length : Int)) := by rw [bi_lenL, List.length_map]
  have comp : ev Φ (.comp .r1 [4] [(.op .add (.bi .len [(.var 0)]) (.int 1))] [] (.op .sub (.op .mul (.bi .sum [(.shi (.var 0) (.var 4))]) (.var 2)) (.op .mul (.bi .sum [(.shi (.var 1) (.var 4))]) (.var 3)))) [some (.lst (Wt.map .int)), some (.lst (N.map .int)), some (.int u), some (.int Wt.sum), none] = .ok (.lst ((tops Wt N u).map .int)) := by
    unfold tops
    rw [List.map_map]
    refine comp_rg (n := Wt.length + 1) ?_ (by omega) fun k hk => ?_
    · generalize Wt.map D.int = WI at *
      simp -implicitDefEqProofs [ln]
    · have c1 := shi_ints Wt k
      have c2 := shi_ints N k
      have s1 := sum_ok (Wt.take k)
      have s2 := sum_ok (N.take k)
      have m1 := opm (hw k) hu (by omega)
      have m2 := opm (hn k) ws (by omega)
      show _ = Res.ok (D.int ((Wt.take k).sum * u - (N.take k).sum * Wt.sum))
      generalize (Wt.take k).map D.int = T1 at *
      generalize (N.take k).map D.int = T2 at *
      generalize (Wt.take k).sum = S1 at *
      generalize (N.take k).sum = S2 at *
      generalize Wt.sum = S3 at *
      generalize Wt.map D.int = WI at *
      generalize N.map D.int = NI at *
      simp -implicitDefEqProofs [c1, c2, s1, s2, m1, m2]
  generalize (tops Wt N u).map D.int = TI at *
  generalize Wt.map D.int = WI at *
  generalize N.map D.int = NI at *
  simp -implicitDefEqProofs [-p_ev_comp, bTops, so, comp]
/-! ### the first that holds -/
def eD (z v : Nat → Int) (j : Nat) : D := .tup [.int (z j), .int (v j)]
def bFirst : List S := [.ret (.idx (.comp .r1 [2] [(.bi .len [(.var 0)])] [(.op .le (.op .mul (.idx (.idx (.var 0) (.var 2)) (.int 0)) (.idx (.var 1) (.int 1))) (.op .mul (.idx (.var 1) (.int 0)) (.idx (.idx (.var 0) (.var 2)) (.int 1))))] (.var 2)) (.int 0))]
theorem first_run {z v : Nat → Int} {m : Nat → Rat} {T A : Nat} {l : Rat} {Ld : D} (hl : IsQ Ld l) (hT : T ≤ 1000) (hv : ∀ j, 0 < v j) (hz : ∀ j, ((z j : Int) : Rat) = m j * (v j : Rat)) (bz : ∀ j, j ≤ T → (z j).natAbs < 2 ^ A) (bv : ∀ j, j ≤ T → (v j).natAbs < 2 ^ A) (bl : Bd A l) (hA : A ≤ 400000) (ex : ∃ j, j ≤ T ∧ m j ≤ l) :
    ∃ h : Nat, h ≤ T ∧ m h ≤ l ∧ (∀ j, j < h → ¬ m j ≤ l) ∧ endR (exSs Φ bFirst (enter 3 [.lst ((List.range (T + 1)).map (eD z v)), Ld])) = .ok (.sh (.int (h : Int))) := by
  obtain ⟨l0, l1⟩ := hl
  obtain ⟨h, e0, h1, h2, h3⟩ := filter_head (p := fun j => decide (m j ≤ l)) (n := T + 1) (T + 1) 0 (by omega) (fun j hj => absurd hj (by omega)) (by
    obtain ⟨j, hj, pj⟩ := ex
    exact ⟨j, by omega, by simpa using pj⟩)
  rw [← List.range_eq_range'] at e0
  refine ⟨h, by omega, by simpa using h2, fun j hj => by simpa using h3 j hj, ?_⟩
  have ln : bi .len [.lst ((List.range (T + 1)).map (eD z v))] = .ok (.int ((T : Int) + 1)) := by
    rw [bi_lenL, List.length_map, List.length_range]
    rfl
  have comp : ev Φ (.comp .r1 [2] [(.bi .len [(.var 0)])] [(.op .le (.op .mul (.idx (.idx (.var 0) (.var 2)) (.int 0)) (.idx (.var 1) (.int 1))) (.op .mul (.idx (.var 1) (.int 0)) (.idx (.idx (.var 0) (.var 2)) (.int 1))))] (.var 2)) [some (.lst ((List.range (T + 1)).map (eD z v))), some Ld, none] = .ok (.lst (((List.range (T + 1)).filter fun j => decide (m j ≤ l)).map fun j => D.int ((j : Nat) : Int))) := by
    refine comp_rgF (n := T + 1) (g := fun j => D.int ((j : Nat) : Int)) ?_ (by omega) fun k hk => ⟨?_, ?_⟩
    · rw [show ((T + 1 : Nat) : Int) = (T : Int) + 1 by omega]
      generalize (List.range (T + 1)).map (eD z v) = EL at *
      simp -implicitDefEqProofs [ln]
    · have i1 : ixR (.lst ((List.range (T + 1)).map (eD z v))) (.int (k : Int)) = .ok (.tup [.int (z k), .int (v k)]) := ix_at (by rw [List.getElem?_map, List.getElem?_range hk]; rfl)
      have m1 := opm (bz k (by omega)) (natAbs_lt' bl.2) (by omega)
      have m2 := opm bl.1 (bv k (by omega)) (by omega)
      have c := le_cross (z := z k) (v := v k) (m := m k) (l := l) (hv k) (hz k)
      have j0 : ixR (.tup [.int (z k), .int (v k)]) (.int 0) = .ok (.int (z k)) := rfl
      have j1 : ixR (.tup [.int (z k), .int (v k)]) (.int 1) = .ok (.int (v k)) := rfl
      have cc : decide (z k * (l.den : Int) ≤ l.num * v k) = decide (m k ≤ l) := by simp only [c]
      generalize decide (m k ≤ l) = dd at *
      generalize (List.range (T + 1)).map (eD z v) = EL at *
      generalize D.tup [.int (z k), .int (v k)] = EK at *
      generalize z k * (l.den : Int) = Z1 at *
      generalize l.num * v k = Z2 at *
      simp -implicitDefEqProofs [l0, l1, i1, j0, j1, m1, m2, cc]
    · generalize (List.range (T + 1)).map (eD z v) = EL at *
      simp -implicitDefEqProofs
  have ix : ixR (.lst (((List.range (T + 1)).filter fun j => decide (m j ≤ l)).map fun j => D.int ((j : Nat) : Int))) (.int 0) = .ok (.int (h : Int)) := ix_at (k := 0) (by rw [List.getElem?_map, e0]; rfl)
  generalize (((List.range (T + 1)).filter fun j => decide (m j ≤ l)).map fun j => D.int ((j : Nat) : Int)) = FL at *
  generalize (List.range (T + 1)).map (eD z v) = EL at *
  simp -implicitDefEqProofs [-p_ev_comp, bFirst, comp, ix]
/-! ### fractions that are told -/
def bIsFrac (w g : Nat) : List S := [.ifs (.or (.not (.bi (.isinst .tuple) [(.var 0)])) (.op .ne (.bi .len [(.var 0)]) (.int 2))) [.ret (.bl false)] [], .ifs (.or (.not (.call w [(.idx (.var 0) (.int 0))])) (.or (.not (.call w [(.idx (.var 0) (.int 1))])) (.op .lt (.idx (.var 0) (.int 1)) (.int 1)))) [.ret (.bl false)] [], .ret (.op .eq (.call g [(.idx (.var 0) (.int 0)), (.idx (.var 0) (.int 1))]) (.int 1))]
theorem isfrac_run {w g : Nat} (hw : ∀ i : Int, Φ w [.int i] = .ok (.sh (.bl true))) (hg : GcdOk Φ g) (q : Rat) : endR (exSs Φ (bIsFrac w g) (enter 1 [fq q])) = .ok (.sh (.bl true)) := by
  have w1 := hw q.num
  have w2 := hw (q.den : Int)
  have g := hg q.num (q.den : Int)
  have e : gcdI q.num (q.den : Int) = 1 := by
    have := q.reduced
    unfold gcdI
    rw [Nat.Coprime] at this
    simp [this]
  rw [e] at g
  have p := den_pos q
  have n1 : ¬ ((q.den : Int) < 1) := by omega
  have i0 := ix_fq0 q
  have i1 := ix_fq1 q
  have ty : bi (.isinst .tuple) [fq q] = .ok (.bl true) := rfl
  have ln : bi .len [fq q] = .ok (.int 2) := rfl
  generalize fq q = FQ at *
  generalize hd : (q.den : Int) = DD at *
  generalize q.num = NN at *
  simp -implicitDefEqProofs [bIsFrac, ty, ln, i0, i1, w1, w2, n1, g]
def tMt (isf : Nat) : List S := [.ifs (.or (.not (.call isf [(.var 4)])) (.op .gt (.op .mul (.idx (.var 4) (.int 0)) (.idx (.var 2) (.int 1))) (.op .mul (.idx (.var 2) (.int 0)) (.idx (.var 4) (.int 1))))) [.ret (.bl false)] [], .set 3 (.or (.var 3) (.op .eq (.op .mul (.idx (.var 4) (.int 0)) (.idx (.var 2) (.int 1))) (.op .mul (.idx (.var 2) (.int 0)) (.idx (.var 4) (.int 1)))))]
def bMt (isf : Nat) : List S := [.ifs (.or (.not (.bi (.isinst .tuple) [(.var 0)])) (.op .ne (.bi .len [(.var 0)]) (.op .add (.var 1) (.int 1)))) [.ret (.bl false)] [], .set 3 (.bl false), .fr .seq [4] [(.var 0)] (tMt isf) [4], .ret (.var 3)]
theorem eq_cross {z v : Int} {m q : Rat} (hv : 0 < v) (e : (z : Rat) = m * (v : Rat)) : (q.num * v ≤ z * (q.den : Int) ↔ q ≤ m) ∧ (q.num * v = z * (q.den : Int) ↔ q = m) := by
  have v0 := pos_q hv
  have d0 := pos_q (den_pos q)
  have e2 : (q.num : Rat) = q * ((q.den : Int) : Rat) := by
    have ql := q_eq q
    have n0 : ((q.den : Int) : Rat) ≠ 0 := by grind
    generalize ((q.den : Int) : Rat) = D at *
    generalize (q.num : Rat) = NN at *
    grind
  have w := Rat.mul_pos v0 d0
  have a : ((q.num * v : Int) : Rat) = q * ((v : Rat) * ((q.den : Int) : Rat)) := by rw [Rat.intCast_mul, e2]; grind
  have b : ((z * (q.den : Int) : Int) : Rat) = m * ((v : Rat) * ((q.den : Int) : Rat)) := by rw [Rat.intCast_mul, e]; grind
  have le : q.num * v ≤ z * (q.den : Int) ↔ q ≤ m := by
    rw [← Rat.intCast_le_intCast, a, b]
    exact ⟨fun h => Rat.le_of_mul_le_mul_right h w, fun h => Rat.mul_le_mul_of_nonneg_right h (by grind)⟩
  refine ⟨le, ?_⟩
  have inj : q.num * v = z * (q.den : Int) ↔ ((q.num * v : Int) : Rat) = ((z * (q.den : Int) : Int) : Rat) := ⟨fun h => by rw [h], fun h => by exact_mod_cast h⟩
  rw [inj, a, b]
  generalize (v : Rat) * ((q.den : Int) : Rat) = W at *
  constructor
  · intro h
    have n0 : W ≠ 0 := by grind
    grind
  · intro h; rw [h]
theorem mt_loop {isf : Nat} (hf : ∀ q : Rat, Φ isf [fq q] = .ok (.sh (.bl true))) {z v : Int} {m : Rat} {A : Nat} (hv : 0 < v) (hz : (z : Rat) = m * (v : Rat)) (bz : z.natAbs < 2 ^ A) (bv : v.natAbs < 2 ^ A) (hA : A ≤ 400000) (X Y : Option SV) : ∀ (w : Row) (d : Bool), (∀ q ∈ w, Bd A q ∧ q ≤ m) →
    forR [4] 0 (frB Φ [4] (tMt isf)) (w.map fq) ⟨[X, Y, some (.sh (.tup [.int z, .int v])), some (.sh (.bl d)), none], []⟩ = .nx ⟨[X, Y, some (.sh (.tup [.int z, .int v])), some (.sh (.bl (d || w.any fun q => decide (q = m)))), none], []⟩
  | [], d, _ => by simp
  | q :: w, d, h => by
    obtain ⟨bq, le⟩ := h q List.mem_cons_self
    have ih := mt_loop hf hv hz bz bv hA X Y w (d || decide (q = m)) fun y hy => h y (List.mem_cons_of_mem _ hy)
    rw [Bool.or_assoc] at ih
    have ea : (q :: w).any (fun q => decide (q = m)) = (decide (q = m) || w.any fun q => decide (q = m)) := rfl
    rw [← ea] at ih
    have f1 := hf q
    have m1 := opm bq.1 bv (by omega)
    have m2 := opm bz (natAbs_lt' bq.2) (by omega)
    obtain ⟨c1, c2⟩ := eq_cross (q := q) hv hz
    have c1 := c1.mpr le
    have n1 : ¬ z * (q.den : Int) < q.num * v := by omega
    have cc : (q.num * v == z * (q.den : Int)) = decide (q = m) := by
      by_cases g : q = m
      · have := c2.mpr g
        simp [g] at this ⊢
        exact this
      · have : ¬ q.num * v = z * (q.den : Int) := fun h => g (c2.mp h)
        simp [g, this]
    have i0 := ix_fq0 q
    have i1 := ix_fq1 q
    have j0 : ixR (.tup [.int z, .int v]) (.int 0) = .ok (.int z) := rfl
    have j1 : ixR (.tup [.int z, .int v]) (.int 1) = .ok (.int v) := rfl
    rw [List.map_cons, forR_cons, ← ih]
    generalize fq q = FQ at *
    generalize D.tup [.int z, .int v] = E at *
    generalize decide (q = m) = dd at *
    generalize q.num * v = Z1 at *
    generalize z * (q.den : Int) = Z2 at *
    generalize q.num = QN at *
    generalize (q.den : Int) = QD at *
    cases d
    · simp -implicitDefEqProofs [frB, tMt, f1, i0, i1, j0, j1, m1, m2, n1, cc]
    · simp -implicitDefEqProofs [frB, tMt, f1, i0, i1, j0, j1, m1, m2, n1]
theorem mt_run {isf : Nat} (hf : ∀ q : Rat, Φ isf [fq q] = .ok (.sh (.bl true))) {z v : Int} {n A : Nat} {w : Row} (hw : w.length = n + 1) (nn : ∀ q ∈ w, 0 ≤ q) (hv : 0 < v) (hz : (z : Rat) = gm w * (v : Rat)) (bz : z.natAbs < 2 ^ A) (bv : v.natAbs < 2 ^ A) (bw : ∀ q ∈ w, Bd A q) (hA : A ≤ 400000) : endR (exSs Φ (bMt isf) (enter 5 [fT w, .int (n : Int), .tup [.int z, .int v]])) = .ok (.sh (.bl true)) := by
  have loop := mt_loop (Φ := Φ) hf hv hz bz bv hA (some (.sh (fT w))) (some (.sh (.int (n : Int)))) w false fun q hq => ⟨bw q hq, gm_ge w q hq⟩
  have any : (w.any fun q => decide (q = gm w)) = true := List.any_eq_true.mpr ⟨gm w, gm_mem (by intro e; rw [e] at hw; simp at hw) nn, by simp⟩
  rw [any] at loop
  have src : srcR .seq [fT w] = .ok (w.map fq) := rfl
  have ty : bi (.isinst .tuple) [fT w] = .ok (.bl true) := rfl
  have ln := len_fT w
  rw [hw, show ((n + 1 : Nat) : Int) = (n : Int) + 1 by omega] at ln
  unfold bMt
  generalize fT w = FW at *
  generalize w.map fq = WM at *
  generalize D.tup [.int z, .int v] = E at *
  generalize tMt isf = TM at *
  simp -implicitDefEqProofs [ty, ln, src, loop]
end
end R.N
end

section
set_option Elab.async false
set_option linter.all false
set_option maxRecDepth 100000
set_option exponentiation.threshold 5000
/-! N19: lacks, walked bounds, rounds needed, in any text. -/
namespace R.N
open R R.V
theorem brow_wk {a b : Int} (h : XOk a b) {A : Nat} {w : Row} (hw : BRow A w) : BRow (A + 7) (wk a b w) := by
  obtain ⟨N, n0, n1, o1, o2⟩ := h.ov
  obtain ⟨M, h0, h1, h2⟩ := hw
  have mn := Nat.mul_pos h0 n0
  refine ⟨M * N, mn, lt_pow (a := A + 6) (by rw [Nat.pow_add]; exact Nat.mul_lt_mul'' h1 n1) (by omega), fun y hy => ?_⟩
  have g : ∀ k, Ov M A (V.at_ w k) := fun k => by
    by_cases hk : k < w.length
    · exact h2 _ (at_mem hk)
    · have : V.at_ w k = 0 := by unfold V.at_; simp [List.getD, hk]
      rw [this]; exact ov_zero h0
  unfold wk at hy
  rcases List.mem_append.mp hy with hy | hy
  · rcases List.mem_cons.mp hy with rfl | hy
    · exact ov_zero mn
    · obtain ⟨k, _, rfl⟩ := List.mem_map.mp hy
      have a1 := ov_mul (g (k + 2)) o1 h0 n0
      have a2 := ov_mul (g k) o2 h0 n0
      have s := ov_add a1 a2 mn (c := A + 6) (Nat.le_refl _) (Nat.le_refl _)
      have e : p1 a b * V.at_ w (k + 2) + p2 a b * V.at_ w k = V.at_ w (k + 2) * p1 a b + V.at_ w k * p2 a b := by grind
      rw [e]
      exact s
  · rw [List.mem_singleton.mp hy]; exact ov_zero mn
section
variable {Φ : R.Or}
def SubOk (Φ : R.Or) (i : Nat) : Prop := ∀ (A : Nat) (a b : Rat), Bd A a → Bd A b → A + A < 9000 → Φ i [fq a, fq b] = .ok (.sh (fq (a - b)))
def DivOk (Φ : R.Or) (i : Nat) : Prop := ∀ (A : Nat) (a b : Rat), Bd A a → Bd A b → 0 < b → A + A < 9000 → Φ i [fq a, fq b] = .ok (.sh (fq (a / b)))
def bDivd (c : Nat) : List S := [.ifs (.op .eq (.idx (.var 1) (.int 0)) (.int 0)) [.never] [], .ret (.call c [(.op .mul (.idx (.var 0) (.int 0)) (.idx (.var 1) (.int 1))), (.op .mul (.idx (.var 0) (.int 1)) (.idx (.var 1) (.int 0)))])]
theorem div_run {c : Nat} (hc : FrOk Φ c) {A : Nat} {a b : Rat} (ha : Bd A a) (hb : Bd A b) (b0 : 0 < b) (hA : A + A < 9000) : endR (exSs Φ (bDivd c) (enter 2 [fq a, fq b])) = .ok (.sh (fq (a / b))) := by
  have np := num_pos b0
  have m1 := opm ha.1 (natAbs_lt' hb.2) (by omega)
  have m2 := opm (natAbs_lt' ha.2) hb.1 (by omega)
  have e := hc (a.num * (b.den : Int)) ((a.den : Int) * b.num) (A + A) (A + A) (Int.mul_pos (den_pos a) np) (natAbs_mul_lt' (natAbs_lt' ha.2) hb.1) hA (natAbs_mul_lt' ha.1 (natAbs_lt' hb.2)) (by omega)
  rw [fq_div (Int.mul_pos (den_pos a) np)] at e
  have ee : ((a.num * (b.den : Int) : Int) : Rat) / ((((a.den : Int) * b.num : Int)) : Rat) = a / b := by
    have h1 := q_eq a
    have h2 := q_eq b
    have h3 := den_ne a
    have h4 := den_ne b
    have h5 : (b.num : Rat) ≠ 0 := by
      have : ((0 : Int) : Rat) < (b.num : Rat) := Rat.intCast_lt_intCast.mpr np
      grind
    rw [Rat.intCast_mul, Rat.intCast_mul]
    grind
  rw [ee] at e
  have z' : ¬ b.num = 0 := by omega
  have z : (b.num == 0) = false := by rw [beq_eq_false_iff_ne]; exact z'
  have a0 := ix_fq0 a
  have a1 := ix_fq1 a
  have b0 := ix_fq0 b
  have b1 := ix_fq1 b
  generalize fq (a / b) = R1 at *
  generalize fq a = R2 at *
  generalize fq b = R3 at *
  generalize b.num = BN at *
  simp -implicitDefEqProofs [bDivd, a0, a1, b0, b1, m1, m2, e, z, z']
/-! ### lacks -/
def LadOk (Φ : R.Or) (f : Nat) : Prop := ∀ (x : Rat) (n : Nat) (X : D), XR x → IsQ X x → 2 ≤ n → n ≤ 8 → Φ f [.int (n : Int), X] = .ok (.sh (fT (ldr x n)))
def bLof (ss la su : Nat) : List S := [.set 2 (.call ss [(.call la [(.bi .len [(.var 0)]), (.var 1)])]), .ret (.bi .tuple [(.comp .zip [3, 4] [(.var 2), (.call ss [(.var 0)])] [] (.call su [(.var 3), (.var 4)]))])]
theorem srt_self {l : Row} (h : Dsc l) : srt l = l := (srt_uniq h (List.Perm.refl _)).symm
theorem bd_pre {A : Nat} {r : Row} (h : BRow A r) (k : Nat) : Bd (A + r.length) (sm (r.take k)) := by
  obtain ⟨M, h1, h2, h3⟩ := h
  have o := ov_sm (a := A) h1 (r := r.take k) fun y hy => h3 y (List.mem_of_mem_take hy)
  exact bd_up (o.bd h1 (lt_pow h2 (by omega))) (by rw [List.length_take]; omega)
theorem lof_run {ss la su : Nat} (hs : SumsOk Φ ss) (hl : LadOk Φ la) (hu : SubOk Φ su) {x : Rat} (X : XR x) {n : Nat} (n2 : 2 ≤ n) (n8 : n ≤ 8) {Xd : D} (hX : IsQ Xd x) {A : Nat} {r : Row} (hr : BRow A r) (hd : Dsc r) (rl : r.length = n) (hA : A ≤ 4000) : endR (exSs Φ (bLof ss la su) (enter 5 [fT r, Xd])) = .ok (.sh (fT (lk (Lx x n) r))) := by
  have ln := len_fT r
  rw [rl] at ln
  have l1 := hl x n Xd X hX n2 n8
  have lb := brow_ldr X (show 0 < n by omega) n8
  have ll := ldr_len x n
  have s1 := hs 54 (ldr x n) (fT (ldr x n)) (.inr rfl) lb (by omega) (by decide)
  have s2 := hs A r (fT r) (.inr rfl) hr (by omega) hA
  rw [srt_self (ldr_dsc X (by omega) n8)] at s1
  rw [srt_self hd] at s2
  have zp : srcR .zip [fT (pre (ldr x n)), fT (pre r)] = .ok ((List.range (n + 1)).map fun k => D.tup [fq (sm ((ldr x n).take k)), fq (sm (r.take k))]) := by
    show Res.ok (List.zipWith (fun x y => D.tup [x, y]) ((pre (ldr x n)).map fq) ((pre r).map fq)) = _
    unfold pre
    rw [ll, rl, List.map_map, List.map_map]
    congr 1
    rw [List.zipWith_map, List.zipWith_self]
    rfl
  have comp : ev Φ (.comp .zip [3, 4] [(.var 2), (.call ss [(.var 0)])] [] (.call su [(.var 3), (.var 4)])) [some (fT r), some Xd, some (fT (pre (ldr x n))), none, none] = .ok (fL (lk (Lx x n) r)) := by
    have e : fL (lk (Lx x n) r) = .lst ((List.range (n + 1)).map fun k => fq (sm ((ldr x n).take k) - sm (r.take k))) := by
      unfold fL lk Lx
      rw [ll, List.map_map]
      rfl
    rw [e]
    refine comp_ok (fun k : Nat => D.tup [fq (sm ((ldr x n).take k)), fq (sm (r.take k))]) _ ?_ (len_le (by rw [List.length_range]; omega)) fun k hk => ⟨_, rfl, ?_⟩
    · generalize fT (pre (ldr x n)) = P1 at *
      generalize fT (pre r) = P2 at *
      generalize fT r = FR at *
      simp -implicitDefEqProofs [s2, zp]
    · have b1 := bd_pre lb k
      have b2 := bd_pre hr k
      have su1 := hu (4400) _ _ (bd_up b1 (by omega)) (bd_up b2 (by omega)) (by decide)
      generalize fq (sm ((ldr x n).take k) - sm (r.take k)) = R1 at *
      generalize fq (sm ((ldr x n).take k)) = R2 at *
      generalize fq (sm (r.take k)) = R3 at *
      generalize fT (pre (ldr x n)) = P1 at *
      generalize fT r = FR at *
      simp -implicitDefEqProofs [su1]
  have tb : bi .tuple [fL (lk (Lx x n) r)] = .ok (fT (lk (Lx x n) r)) := rfl
  generalize fL (lk (Lx x n) r) = LL at *
  generalize fT (lk (Lx x n) r) = LT at *
  generalize fT (pre (ldr x n)) = P1 at *
  generalize fT (pre r) = P2 at *
  generalize fT (ldr x n) = P3 at *
  generalize fT r = FR at *
  simp -implicitDefEqProofs [-p_ev_comp, bLof, ln, l1, s1, comp, tb]
theorem brow_Rj {x : Rat} (X : XR x) {n : Nat} (n2 : 2 ≤ n) (n7 : n < 8) : ∀ j, BRow (3 + 7 * j) (Rj x n j)
  | 0 => brow_evn (by omega) n7
  | j + 1 => by
    rw [Rj_succ]
    exact (brow_SR X.ok (brow_Rj X n2 n7 j)).mono (by omega)
def AfOk (Φ : R.Or) (f : Nat) : Prop := ∀ (x : Rat) (n k : Nat) (X : D), XR x → IsX X x.num (x.den : Int) → 2 ≤ n → n < 8 → k ≤ 400 → Φ f [.int (n : Int), X, .int (k : Int)] = .ok (.sh (fT (Rj x n k)))
def LofOk (Φ : R.Or) (f : Nat) : Prop := ∀ (x : Rat) (n A : Nat) (X : D) (r : Row), XR x → IsQ X x → 2 ≤ n → n ≤ 8 → BRow A r → Dsc r → r.length = n → A ≤ 4000 → Φ f [fT r, X] = .ok (.sh (fT (lk (Lx x n) r)))
/-- a quotient as a pair: a tuple or a list -/
structure IsXQ (X : D) (x : Rat) : Prop where
  px : IsX X x.num (x.den : Int)
  pq : IsQ X x
theorem isXQ (x : Rat) : IsXQ (fq x) x := ⟨.inr rfl, isQ x⟩
theorem isXQL (x : Rat) : IsXQ (fqL x) x := ⟨.inl rfl, isQL x⟩
def bLks (lo af : Nat) : List S := [.ret (.call lo [(.call af [(.var 0), (.var 1), (.var 2)]), (.var 1)])]
def LksOk (Φ : R.Or) (f : Nat) : Prop := ∀ (x : Rat) (n k : Nat) (X : D), XR x → IsXQ X x → 2 ≤ n → n < 8 → k ≤ 400 → Φ f [.int (n : Int), X, .int (k : Int)] = .ok (.sh (fT (Dj x n k)))
theorem lks_run {lo af : Nat} (hl : LofOk Φ lo) (ha : AfOk Φ af) {x : Rat} (X : XR x) {n k : Nat} {Xd : D} (hX : IsXQ Xd x) (n2 : 2 ≤ n) (n7 : n < 8) (hk : k ≤ 400) : endR (exSs Φ (bLks lo af) (enter 3 [.int (n : Int), Xd, .int (k : Int)])) = .ok (.sh (fT (Dj x n k))) := by
  have a1 := ha x n k Xd X hX.px n2 n7 hk
  have l1 := hl x n (3 + 7 * k) Xd (Rj x n k) X hX.pq n2 (by omega) (brow_Rj X n2 n7 k) (SRn_dsc _ _ n k) (Rj_len x n k) (by omega)
  have e : lk (Lx x n) (Rj x n k) = Dj x n k := rfl
  rw [e] at l1
  generalize fT (Dj x n k) = DD at *
  generalize fT (Rj x n k) = RR at *
  simp -implicitDefEqProofs [bLks, a1, l1]
/-! ### walked -/
def tWd (ad ti di : Nat) : List S := [.set 4 (.call ad [(.idx (.var 0) (.op .add (.var 3) (.int 1))), (.call ti [(.var 1), (.idx (.var 0) (.op .sub (.var 3) (.int 1)))])]), .appM 2 (.call di [(.var 4), (.call ad [(.tup [(.int 1), (.int 1)]), (.var 1)])])]
def bWd (ad ti di : Nat) : List S := [.ownM 2 (.lst [(.tup [(.int 0), (.int 1)])]), .fr .r2 [3] [(.int 1), (.op .sub (.bi .len [(.var 0)]) (.int 1))] (tWd ad ti di) [3, 4], .appM 2 (.tup [(.int 0), (.int 1)]), .ret (.bi .tuple [(.var 2)])]
def WdOk (Φ : R.Or) (f : Nat) : Prop := ∀ (x : Rat) (A : Nat) (w : Row), XR x → BRow A w → 2 ≤ w.length → w.length ≤ 100 → A ≤ 3000 → Φ f [fT w, fq x] = .ok (.sh (fT (wk x.num (x.den : Int) w)))
theorem wd_run {ad ti di : Nat} (ha : AddOk Φ ad) (ht : TimOk Φ ti) (hd : DivOk Φ di) {x : Rat} (X : XR x) {A : Nat} {w : Row} (hw : BRow A w) (h2 : 2 ≤ w.length) (hl : w.length ≤ 100) (hA : A ≤ 3000) : endR (exSs Φ (bWd ad ti di) (enter 5 [fT w, fq x])) = .ok (.sh (fT (wk x.num (x.den : Int) w))) := by
  obtain ⟨e1, e2, e3⟩ := X.p
  have xb := X.bd
  have xp := X.pos
  have one1 : Bd 1 (1 : Rat) := ⟨by decide, by decide⟩
  have b1x : Bd 8 (1 + x) := bd_up (by
    have d0 : 0 < (1 : Rat).den * x.den := Nat.mul_pos (Rat.den_pos _) (Rat.den_pos _)
    obtain ⟨a1, a2, a3⟩ := X.ok
    refine Ov.bd (M := x.den) (a := 7) ⟨x.num + (x.den : Int), ?_, by omega⟩ x.den_pos (lt_pow xb.2 (by decide))
    have q := q_eq x
    have n0 := den_ne x
    rw [Rat.intCast_add]
    generalize ((x.den : Int) : Rat) = DD at *
    generalize (x.num : Rat) = NN at *
    grind) (by decide)
  have a1x := ha 8 1 x (bd_up one1 (by decide)) (bd_up xb (by decide)) (by decide)
  rw [← fq_one] at a1x
  have loop := forR_app (vs := [3, 4]) (n := 1) (b := frB Φ [3] (tWd ad ti di)) (N := 2000) (st := fun acc : Row => ⟨[some (.sh (fT w)), some (.sh (fq x)), some (.loc 0), none, none], [.ls (qS (0 :: acc))]⟩) (g := fun k => p1 x.num (x.den : Int) * V.at_ w (k + 2) + p2 x.num (x.den : Int) * V.at_ w k) (i := fun k => D.int ((k + 1 : Nat) : Int)) (List.range (w.length - 2)) [] (by simp; omega) fun k hk acc hl2 => by
    have hk := List.mem_range.mp hk
    have j1 := IsF.ix (d := fT w) (r := w) (.inr rfl) (j := k + 2) (by omega)
    have j2 := IsF.ix (d := fT w) (r := w) (.inr rfl) (j := k) (by omega)
    have b1 := hw.bd (at_mem (r := w) (j := k + 2) (by omega))
    have b2 := hw.bd (at_mem (r := w) (j := k) (by omega))
    have t1 := ht (A + 6) x (V.at_ w k) (bd_up xb (by omega)) (bd_up b2 (by omega)) (by omega)
    have bt := bd_mul xb b2
    have a1 := ha (A + 6) (V.at_ w (k + 2)) (x * V.at_ w k) (bd_up b1 (by omega)) (bd_up bt (by omega)) (by omega)
    have bs : Bd (A + 14) (V.at_ w (k + 2) + x * V.at_ w k) := by
      obtain ⟨M, h0, h1, h3⟩ := hw
      obtain ⟨N, n0, n1, o1, o2⟩ := (show ∃ N : Nat, 0 < N ∧ N < 2 ^ 6 ∧ Ov N 6 x ∧ Ov N 6 1 from by
        obtain ⟨a1, a2, a3⟩ := X.ok
        refine ⟨x.den, x.den_pos, xb.2, ⟨x.num, q_eq x, xb.1⟩, ⟨(x.den : Int), ?_, by omega⟩⟩
        have n0 := den_ne x
        generalize ((x.den : Int) : Rat) = DD at *
        grind)
      have u1 := ov_mul (h3 _ (at_mem (r := w) (j := k + 2) (by omega))) o2 h0 n0
      have u2 := ov_mul o1 (h3 _ (at_mem (r := w) (j := k) (by omega))) n0 h0
      rw [Nat.mul_comm N M, Nat.add_comm 6 A] at u2
      rw [Rat.mul_one] at u1
      have s := ov_add u1 u2 (Nat.mul_pos h0 n0) (c := A + 6) (Nat.le_refl _) (Nat.le_refl _)
      exact bd_up (s.bd (Nat.mul_pos h0 n0) (lt_pow (a := A + 6) (by rw [Nat.pow_add]; exact Nat.mul_lt_mul'' h1 n1) (by omega))) (by omega)
    have d1 := hd (A + 14) (V.at_ w (k + 2) + x * V.at_ w k) (1 + x) bs (bd_up b1x (by omega)) (by grind) (by omega)
    have ee : (V.at_ w (k + 2) + x * V.at_ w k) / (1 + x) = p1 x.num (x.den : Int) * V.at_ w (k + 2) + p2 x.num (x.den : Int) * V.at_ w k := by
      rw [e2]
      generalize p1 x.num (x.den : Int) = P at *
      have s : P * (1 + x) = 1 := by grind
      have n0 : (1 + x) ≠ 0 := by grind
      have : P = 1 / (1 + x) := by grind
      rw [this]
      grind
    rw [ee] at d1
    have z1 : ((k + 1 : Nat) : Int) + 1 = (k : Int) + 2 := by omega
    rw [show ((k + 2 : Nat) : Int) = (k : Int) + 2 by omega] at j1
    have z2 : ((k + 1 : Nat) : Int) - 1 = (k : Int) := by omega
    have lt : (qS (0 :: acc)).length < LINE := by rw [qS_len, List.length_cons]; exact len_lt' (by omega)
    have ap : qS (0 :: acc) ++ [.sh (fq (p1 x.num (x.den : Int) * V.at_ w (k + 2) + p2 x.num (x.den : Int) * V.at_ w k))] = qS (0 :: (acc ++ [p1 x.num (x.den : Int) * V.at_ w (k + 2) + p2 x.num (x.den : Int) * V.at_ w k])) := by unfold qS; rw [← List.cons_append, List.map_append, List.map_append]; rfl
    refine ⟨⟨[some (.sh (fT w)), some (.sh (fq x)), some (.loc 0), some (.sh (.int ((k + 1 : Nat) : Int))), some (.sh (fq (V.at_ w (k + 2) + x * V.at_ w k)))], [.ls (qS (0 :: (acc ++ [p1 x.num (x.den : Int) * V.at_ w (k + 2) + p2 x.num (x.den : Int) * V.at_ w k])))]⟩, ?_, rfl⟩
    rw [← ap]
    generalize fq (p1 x.num (x.den : Int) * V.at_ w (k + 2) + p2 x.num (x.den : Int) * V.at_ w k) = R1 at *
    generalize fq (V.at_ w (k + 2) + x * V.at_ w k) = R2 at *
    generalize fq (x * V.at_ w k) = R3 at *
    generalize fq (V.at_ w (k + 2)) = R4 at *
    generalize fq (V.at_ w k) = R5 at *
    generalize fq (1 + x) = R6 at *
    generalize fq x = R7 at *
    generalize fT w = FW at *
    generalize qS (0 :: acc) = QA at *
    generalize ((k + 1 : Nat) : Int) = K1 at *
    simp -implicitDefEqProofs [frB, tWd, z1, z2, j1, j2, t1, a1, a1x, d1, cellOf, lt, two_le_LINE]
  rw [List.nil_append] at loop
  have src := rr1' (n := w.length) (by omega) (by omega)
  have ln := len_fT w
  have q0 : qS [0] = [.sh (.tup [.int 0, .int 1])] := rfl
  rw [q0] at loop
  have ap : qS (0 :: (List.range (w.length - 2)).map fun k => p1 x.num (x.den : Int) * V.at_ w (k + 2) + p2 x.num (x.den : Int) * V.at_ w k) ++ [.sh (.tup [.int 0, .int 1])] = qS (wk x.num (x.den : Int) w) := by
    unfold wk qS
    rw [List.map_append, List.map_append]; rfl
  have lt : (qS (0 :: (List.range (w.length - 2)).map fun k => p1 x.num (x.den : Int) * V.at_ w (k + 2) + p2 x.num (x.den : Int) * V.at_ w k)).length < LINE := by
    rw [qS_len]; exact len_lt' (by simp; omega)
  have s1 : snapO [.ls (qS (wk x.num (x.den : Int) w))] (some (.loc 0)) = some (fL (wk x.num (x.den : Int) w)) := snapO_ls rfl
  have tb : bi .tuple [fL (wk x.num (x.den : Int) w)] = .ok (fT (wk x.num (x.den : Int) w)) := rfl
  have o1 : (1 : Nat) ≤ LINE := len_le (by decide)
  unfold bWd
  generalize fL (wk x.num (x.den : Int) w) = WL at *
  generalize fT (wk x.num (x.den : Int) w) = WT at *
  generalize qS (wk x.num (x.den : Int) w) = WS at *
  generalize qS (0 :: (List.range (w.length - 2)).map fun k => p1 x.num (x.den : Int) * V.at_ w (k + 2) + p2 x.num (x.den : Int) * V.at_ w k) = WQ at *
  generalize (List.range (w.length - 2)).map (fun k => D.int ((k + 1 : Nat) : Int)) = RG at *
  generalize fT w = FW at *
  generalize fq x = FX at *
  generalize (w.length : Int) = LW at *
  generalize tWd ad ti di = TW at *
  simp -implicitDefEqProofs [evO, ln, src, loop, cellOf, lt, ap, s1, tb, o1, two_le_LINE]
/-! ### the bounds after many rounds -/
def bWb (lk wd : Nat) : List S := [.set 3 (.call lk [(.var 0), (.var 1), (.int 0)]), .fr .r1 [4] [(.var 2)] [.set 3 (.call wd [(.var 3), (.var 1)])] [4], .ret (.var 3)]
theorem wkn_succ' (a b : Int) : ∀ (k : Nat) (w : Row), wkn a b (k + 1) w = wkn a b k (wk a b w)
  | 0, _ => rfl
  | k + 1, w => by
    rw [wkn, wkn_succ' a b k w]
    rfl
theorem wb_loop {wd : Nat} (hd : WdOk Φ wd) {x : Rat} (X : XR x) (N K : Option SV) : ∀ (ks : List D) (w : Row) (A : Nat), BRow A w → 2 ≤ w.length → w.length ≤ 100 → A + 7 * ks.length ≤ 3000 →
    forR [4] 0 (frB Φ [4] [.set 3 (.call wd [(.var 3), (.var 1)])]) ks ⟨[N, some (.sh (fq x)), K, some (.sh (fT w)), none], []⟩ = .nx ⟨[N, some (.sh (fq x)), K, some (.sh (fT (wkn x.num (x.den : Int) ks.length w))), none], []⟩
  | [], w, A, _, _, _, _ => rfl
  | k :: ks, w, A, hw, h2, hl, hA => by
    rw [List.length_cons] at hA
    have s1 := hd x A w X hw h2 hl (by omega)
    have ih := wb_loop hd X N K ks (wk x.num (x.den : Int) w) (A + 7) (brow_wk X.ok hw) (by rw [wk_len h2]; exact h2) (by rw [wk_len h2]; exact hl) (by omega)
    rw [forR_cons, List.length_cons, wkn_succ', ← ih]
    generalize fT (wk x.num (x.den : Int) w) = R1 at *
    generalize fT w = R2 at *
    generalize fq x = R3 at *
    simp -implicitDefEqProofs [frB, s1]
theorem wb_run {lk wd : Nat} (hk : LksOk Φ lk) (hd : WdOk Φ wd) {x : Rat} (X : XR x) {n k : Nat} (n2 : 2 ≤ n) (n7 : n < 8) (hb : BRow 200 (Dj x n 0)) (hk4 : k ≤ 400) : endR (exSs Φ (bWb lk wd) (enter 5 [.int (n : Int), fq x, .int (k : Int)])) = .ok (.sh (fT (Wj x n k))) := by
  have l1 := hk x n 0 (fq x) X (isXQ x) n2 n7 (by decide)
  rw [show ((0 : Nat) : Int) = 0 from rfl] at l1
  have rg := rr0 (n := k) (by omega)
  have loop := wb_loop hd X (some (.sh (.int (n : Int)))) (some (.sh (.int (k : Int)))) ((List.range k).map fun j => D.int (j : Nat)) (Dj x n 0) 200 hb (by rw [Dj_len]; omega) (by rw [Dj_len]; omega) (by simp; omega)
  rw [List.length_map, List.length_range] at loop
  have e : wkn x.num (x.den : Int) k (Dj x n 0) = Wj x n k := rfl
  rw [e] at loop
  generalize fT (Wj x n k) = R1 at *
  generalize fT (Dj x n 0) = R2 at *
  generalize (List.range k).map (fun j => D.int (j : Nat)) = RG at *
  generalize fq x = R3 at *
  simp -implicitDefEqProofs [bWb, l1, rg, loop]
/-! ### rounds needed -/
def cRn (lo co : Nat) : E := .op .gt (.bi .max1 [(.comp .seq [5] [(.call lo [(.var 3), (.var 1)])] [] (.call co [(.var 5), (.var 2)]))]) (.int 0)
def tRn (sr : Nat) : List S := [.set 3 (.call sr [(.var 3), (.var 1)]), .aug 4 .add (.int 1)]
def bRn (ev lo co sr : Nat) : List S := [.set 3 (.call ev [(.var 0)]), .set 4 (.int 0), .whl (cRn lo co) (tRn sr) [], .ret (.var 4)]
theorem rn_cnd {lo co : Nat} (hl : LofOk Φ lo) (hc : CmpQ Φ co) {x l : Rat} (X : XR x) {n j : Nat} (n2 : 2 ≤ n) (n7 : n < 8) (hj : j ≤ 500) {Xd Ld : D} (hX : IsXQ Xd x) (hL : IsQ Ld l) {A : Nat} (bl : Bd A l) (bD : BRow A (Dj x n j)) (hA : A ≤ 4000) (M : Option SV) (z : Int) :
    cnd Φ (cRn lo co) ⟨[M, some (.sh Xd), some (.sh Ld), some (.sh (fT (Rj x n j))), some (.sh (.int z)), none], []⟩ = .ok (decide (¬ gm (Dj x n j) ≤ l)) := by
  have nn : ∀ q ∈ Dj x n j, 0 ≤ q := fun q hq => by
    obtain ⟨k, hk, rfl⟩ := List.getElem_of_mem hq
    have hk' := hk
    rw [Dj_len] at hk'
    have := D_nn X (show 0 < n by omega) (by omega) j k (by omega)
    unfold V.at_ at this
    simpa [List.getD, hk] using this
  have l1 := hl x n (3 + 7 * j) Xd (Rj x n j) X hX.pq n2 (by omega) (brow_Rj X n2 n7 j) (SRn_dsc _ _ n j) (Rj_len x n j) (by omega)
  have e : lk (Lx x n) (Rj x n j) = Dj x n j := rfl
  rw [e] at l1
  have comp : ∀ Δ : List (Option D), Δ[1]? = some (some Xd) → Δ[3]? = some (some (fT (Rj x n j))) → Δ[2]? = some (some Ld) → 5 < Δ.length → ev Φ (.comp .seq [5] [(.call lo [(.var 3), (.var 1)])] [] (.call co [(.var 5), (.var 2)])) Δ = .ok (.lst (((Dj x n j).map fun q => N.cmpI q l).map .int)) := fun Δ d1 d3 d2 h5 => by
    rw [List.map_map]
    refine comp_ok fq _ ?_ (len_le (by rw [Dj_len]; omega)) fun q hq => ⟨(Δ.set 5 none).set 5 (some (fq q)), rfl, ?_⟩
    · have src : srcR .seq [fT (Dj x n j)] = .ok ((Dj x n j).map fq) := rfl
      generalize fT (Dj x n j) = DD at *
      generalize fT (Rj x n j) = RR at *
      simp -implicitDefEqProofs [d1, d3, l1, src]
    · rw [List.set_set]
      have c2 : (Δ.set 5 (some (fq q)))[2]? = some (some Ld) := by rw [List.getElem?_set_ne (by decide)]; exact d2
      have c5 : (Δ.set 5 (some (fq q)))[5]? = some (some (fq q)) := by rw [List.getElem?_set_self h5]
      have c := hc A q l (fq q) Ld (isQ q) hL (bD.bd hq) bl (by omega)
      show _ = Res.ok (D.int (N.cmpI q l))
      generalize fq q = FQ at *
      simp -implicitDefEqProofs [c2, c5, c]
  have ne : (Dj x n j).map (fun q => N.cmpI q l) ≠ [] := fun e => by
    have := congrArg List.length e
    rw [List.length_map, Dj_len] at this
    simp at this
  obtain ⟨c, cs, ecs⟩ : ∃ c cs, (Dj x n j).map (fun q => N.cmpI q l) = c :: cs := by
    cases h : (Dj x n j).map (fun q => N.cmpI q l) with
    | nil => exact absurd h ne
    | cons c cs => exact ⟨c, cs, rfl⟩
  have mx : bi .max1 [.lst (((Dj x n j).map fun q => N.cmpI q l).map .int)] = .ok (.int (maxL ((Dj x n j).map fun q => N.cmpI q l))) := by
    rw [ecs]
    have i : intsOf (.lst ((c :: cs).map .int)) = some (c :: cs) := ints_map _
    show (match intsOf (.lst ((c :: cs).map .int)) with | some (x :: xs) => Res.ok (D.int (maxL (x :: xs))) | _ => .bad) = _
    rw [i]
  have key : decide (0 < maxL ((Dj x n j).map fun q => N.cmpI q l)) = decide (¬ gm (Dj x n j) ≤ l) := by
    have : (0 < maxL ((Dj x n j).map fun q => N.cmpI q l)) ↔ ¬ gm (Dj x n j) ≤ l := by
      constructor
      · intro h
        obtain ⟨q, hq, e⟩ := List.mem_map.mp (maxL_mem ne)
        rw [← e] at h
        have h := (cmp_pos q l).mp h
        have := gm_ge _ q hq
        grind
      · intro h
        have d0 : Dj x n j ≠ [] := fun e => ne (by rw [e]; rfl)
        have gmm := gm_mem d0 nn
        have h : l < gm (Dj x n j) := by grind
        have c := (cmp_pos (gm (Dj x n j)) l).mpr h
        have := maxL_ge (l := (Dj x n j).map fun q => N.cmpI q l) (N.cmpI (gm (Dj x n j)) l) (List.mem_map.mpr ⟨_, gmm, rfl⟩)
        omega
    simp only [this]
  unfold cnd cRn
  generalize decide (¬ gm (Dj x n j) ≤ l) = dd at *
  generalize maxL ((Dj x n j).map fun q => N.cmpI q l) = ML at *
  generalize ((Dj x n j).map fun q => N.cmpI q l).map D.int = CI at *
  generalize fT (Rj x n j) = RR at *
  simp -implicitDefEqProofs [-p_ev_comp, comp, mx, key]
theorem rn_loop {lo co sr : Nat} (hl : LofOk Φ lo) (hc : CmpQ Φ co) (hs : SROk Φ sr) {x l : Rat} (X : XR x) {n : Nat} (n2 : 2 ≤ n) (n7 : n < 8) {Xd Ld : D} (hX : IsXQ Xd x) (hL : IsQ Ld l) {A : Nat} (bl : Bd A l) (bD : ∀ j, j ≤ 300 → BRow A (Dj x n j)) (hA : A ≤ 4000) (M : Option SV) {h : Nat} (hh : h ≤ 300) (h1 : gm (Dj x n h) ≤ l) (h2 : ∀ j, j < h → ¬ gm (Dj x n j) ≤ l) : ∀ (m j : Nat), j + m = h →
    whlO [] 0 (cnd Φ (cRn lo co)) (exSs Φ (tRn sr)) ⟨[M, some (.sh Xd), some (.sh Ld), some (.sh (fT (Rj x n j))), some (.sh (.int (j : Int))), none], []⟩ = .nx ⟨[M, some (.sh Xd), some (.sh Ld), some (.sh (fT (Rj x n h))), some (.sh (.int (h : Int))), none], []⟩
  | 0, j, e => by
    have e : j = h := by omega
    subst e
    have c := rn_cnd hl hc X n2 n7 (j := j) (by omega) hX hL bl (bD j (by omega)) hA M (j : Int)
    rw [show decide (¬ gm (Dj x n j) ≤ l) = false by simp [h1]] at c
    rw [whlO_eq, c]
    rfl
  | m + 1, j, e => by
    have c := rn_cnd hl hc X n2 n7 (j := j) (by omega) hX hL bl (bD j (by omega)) hA M (j : Int)
    rw [show decide (¬ gm (Dj x n j) ≤ l) = true by simp [h2 j (by omega)]] at c
    have ih := rn_loop hl hc hs X n2 n7 hX hL bl bD hA M hh h1 h2 m (j + 1) (by omega)
    have s1 := hs x.num (x.den : Int) (3 + 7 * j) (Rj x n j) (fT (Rj x n j)) Xd X.ok hX.px (.inr rfl) (brow_Rj X n2 n7 j) (by rw [Rj_len]; omega) (by omega)
    rw [← Rj_succ] at s1
    rw [whlO_eq, c, ← ih]
    have z : (j : Int) + 1 = ((j + 1 : Nat) : Int) := by omega
    generalize fT (Rj x n (j + 1)) = R1 at *
    generalize fT (Rj x n j) = R2 at *
    generalize ((j + 1 : Nat) : Int) = J1 at *
    generalize cRn lo co = CR at *
    simp -implicitDefEqProofs [tRn, s1, isInt, z]
theorem rn_run {ev lo co sr : Nat} (he : EvOk Φ ev) (hl : LofOk Φ lo) (hc : CmpQ Φ co) (hs : SROk Φ sr) {x l : Rat} (X : XR x) {n : Nat} (n2 : 2 ≤ n) (n7 : n < 8) {Xd Ld : D} (hX : IsXQ Xd x) (hL : IsQ Ld l) {A : Nat} (bl : Bd A l) (bD : ∀ j, j ≤ 300 → BRow A (Dj x n j)) (hA : A ≤ 4000) {h : Nat} (hh : h ≤ 300) (h1 : gm (Dj x n h) ≤ l) (h2 : ∀ j, j < h → ¬ gm (Dj x n j) ≤ l) :
    endR (exSs Φ (bRn ev lo co sr) (enter 6 [.int (n : Int), Xd, Ld])) = .ok (.sh (.int (h : Int))) := by
  have e1 := he n (by omega) (by omega)
  have loop := rn_loop hl hc hs X n2 n7 hX hL bl bD hA (some (.sh (.int (n : Int)))) hh h1 h2 h 0 (by omega)
  have r0 : Rj x n 0 = evn n := rfl
  rw [r0, show ((0 : Nat) : Int) = 0 from rfl] at loop
  unfold bRn
  generalize fT (Rj x n h) = R1 at *
  generalize fT (evn n) = R2 at *
  generalize cRn lo co = CR at *
  generalize tRn sr = TR at *
  simp -implicitDefEqProofs [e1, loop]
end
end R.N
end

section
set_option Elab.async false
set_option linter.all false
set_option maxRecDepth 100000
set_option exponentiation.threshold 5000
/-! N20: the course of the lacks in whole numbers. -/
namespace R.N
open R R.V
theorem SR_nn {x : Rat} (X : XR x) {r : Row} (nn : ∀ q ∈ r, 0 ≤ q) : ∀ q ∈ SR x.num (x.den : Int) r, 0 ≤ q := fun q hq => by
  unfold SR at hq
  obtain ⟨a, ha, b, hb, rfl⟩ := pr_mem hq
  have g : ∀ y ∈ srt (shs x.num (x.den : Int) r), 0 ≤ y := fun y hy => by
    have hy := (srt_perm _).mem_iff.mp hy
    obtain ⟨z, hz, e⟩ := shs_mem hy
    rcases e with rfl | rfl
    · exact Rat.mul_nonneg (nn z hz) (p_nn X).1
    · exact Rat.mul_nonneg (nn z hz) (p_nn X).2
  have := g a ha
  have := g b hb
  grind
theorem Rj_nn {x : Rat} (X : XR x) {n : Nat} (h0 : 0 < n) : ∀ j, ∀ q ∈ Rj x n j, 0 ≤ q
  | 0 => fun q hq => by
    have hq : q ∈ evn n := hq
    unfold evn at hq
    rw [List.eq_of_mem_replicate hq]; exact inv_nn h0
  | j + 1 => by rw [Rj_succ]; exact SR_nn X (Rj_nn X h0 j)
theorem mem_le_sm : ∀ {l : Row}, (∀ q ∈ l, 0 ≤ q) → ∀ q ∈ l, q ≤ sm l
  | [], _, q, h => by cases h
  | p :: l, nn, q, h => by
    have a := sm_nn fun y hy => nn y (List.mem_cons_of_mem _ hy)
    have b := nn p List.mem_cons_self
    rw [sm]
    rcases List.mem_cons.mp h with rfl | h
    · grind
    · have := mem_le_sm (fun y hy => nn y (List.mem_cons_of_mem _ hy)) q h
      grind
theorem Rj_01 {x : Rat} (X : XR x) {n : Nat} (h0 : 0 < n) (j : Nat) : I01 (Rj x n j) := fun q hq => by
  refine ⟨Rj_nn X h0 j q hq, ?_⟩
  have := mem_le_sm (Rj_nn X h0 j) q hq
  rw [sm_Rj X h0 j] at this
  exact this
theorem Dj_01 {x : Rat} (X : XR x) {n : Nat} (h0 : 0 < n) (hn : n ≤ 8) (j : Nat) : I01 (Dj x n j) := i01_of fun k hk => by
  rw [Dj_len] at hk
  exact D_01 X h0 hn j k (by omega)
theorem Wj_01 {x : Rat} (X : XR x) {n : Nat} (h0 : 0 < n) (hn : n ≤ 8) (j : Nat) : I01 (Wj x n j) := i01_of fun k hk => by
  rw [Wj_len x n j (by omega)] at hk
  exact W_01 X h0 hn j k (by omega)
/-! ### in whole numbers -/
def sx (x : Rat) : Int := x.num + (x.den : Int)
def uj (x : Rat) (n j : Nat) : Int := (n : Int) * sx x ^ j
def wh (x : Rat) (n : Nat) : Int := (wts x.num.toNat x.den n).sum
def vj (x : Rat) (n j : Nat) : Int := uj x n j * wh x n
def Nj (x : Rat) (n : Nat) : Nat → List Int
  | 0 => List.replicate n 1
  | j + 1 => rnd x.num (x.den : Int) (Nj x n j)
def Tj (x : Rat) (n j : Nat) : List Int := tops (wts x.num.toNat x.den n) (Nj x n j) (uj x n j)
def Bj (x : Rat) (n : Nat) : Nat → List Int
  | 0 => Tj x n 0
  | j + 1 => wkI x.num (x.den : Int) (Bj x n j)
section
variable {x : Rat} {n : Nat}
theorem sx_pos (X : XR x) : 0 < sx x ∧ sx x < 64 := by
  obtain ⟨h1, h2, h3⟩ := X.ok
  unfold sx
  omega
theorem uj_succ (x : Rat) (n j : Nat) : uj x n (j + 1) = uj x n j * sx x := by unfold uj; rw [Int.pow_succ, Int.mul_assoc]
theorem uj_pos (X : XR x) (h0 : 0 < n) (j : Nat) : 0 < uj x n j := Int.mul_pos (by omega) (Int.pow_pos (sx_pos X).1)
theorem uj_bd (X : XR x) (hn : n < 8) : ∀ j, (uj x n j).natAbs < 2 ^ (3 + 6 * j)
  | 0 => by unfold uj; simp; omega
  | j + 1 => by
    rw [uj_succ, show 3 + 6 * (j + 1) = 3 + 6 * j + 6 by omega]
    have := sx_pos X
    exact natAbs_mul_lt' (uj_bd X hn j) (by omega)
theorem wh_bd (X : XR x) (h0 : 0 < n) (hn : n ≤ 8) : 0 < wh x n ∧ (wh x n).natAbs < 2 ^ 54 := by
  obtain ⟨a0, b0, a1, b1, ea⟩ := X.nat
  have s := wts_sum a0 b0 a1 b1 hn h0
  unfold wh
  omega
theorem vj_pos (X : XR x) (h0 : 0 < n) (hn : n ≤ 8) (j : Nat) : 0 < vj x n j := Int.mul_pos (uj_pos X h0 j) (wh_bd X h0 hn).1
theorem vj_bd (X : XR x) (h0 : 0 < n) (hn : n < 8) (j : Nat) : (vj x n j).natAbs < 2 ^ (57 + 6 * j) := by
  have := natAbs_mul_lt' (uj_bd X hn j) (wh_bd X h0 (by omega)).2
  rw [show 3 + 6 * j + 54 = 57 + 6 * j by omega] at this
  exact this
theorem vj_succ (x : Rat) (n j : Nat) : vj x n (j + 1) = vj x n j * sx x := by
  unfold vj
  rw [uj_succ]
  simp only [Int.mul_assoc, Int.mul_comm (sx x)]
theorem sc_N (X : XR x) (h0 : 0 < n) : ∀ j, Sc (uj x n j) (Nj x n j) (Rj x n j)
  | 0 => by
    unfold Sc Nj uj
    show _ = (evn n).map _
    unfold evn
    rw [List.map_replicate, List.map_replicate, Int.pow_zero, Int.mul_one]
    congr 1
    have h' : ((0 : Int) : Rat) < (((n : Nat) : Int) : Rat) := Rat.intCast_lt_intCast.mpr (by omega)
    have : (((n : Nat) : Int) : Rat) ≠ 0 := by grind
    generalize (((n : Nat) : Int) : Rat) = NN at *
    have e : ((1 : Int) : Rat) = 1 := rfl
    rw [e]
    grind
  | j + 1 => by
    rw [Rj_succ, uj_succ]
    exact sc_rnd (sx_pos X).1 (uj_pos X h0 j) (sc_N X h0 j)
theorem Nj_len (X : XR x) (h0 : 0 < n) (j : Nat) : (Nj x n j).length = n := by rw [(sc_N X h0 j).len, Rj_len]
theorem sc_T (X : XR x) (h0 : 0 < n) (hn : n ≤ 8) (j : Nat) : Sc (vj x n j) (Tj x n j) (Dj x n j) := sc_tops (wh_bd X h0 hn).1 (sc_N X h0 j)
theorem sc_B (X : XR x) (h0 : 0 < n) (hn : n ≤ 8) : ∀ j, Sc (vj x n j) (Bj x n j) (Wj x n j)
  | 0 => sc_T X h0 hn 0
  | j + 1 => by
    rw [Wj_succ, vj_succ]
    exact sc_wkI (sx_pos X).1 (sc_B X h0 hn j) (by rw [Wj_len x n j (by omega)]; omega)
theorem Tj_len (j : Nat) : (Tj x n j).length = n + 1 := by unfold Tj; rw [tops_len, wts_len]
theorem Bj_len (X : XR x) (h0 : 0 < n) (hn : n ≤ 8) (j : Nat) : (Bj x n j).length = n + 1 := by rw [(sc_B X h0 hn j).len, Wj_len x n j (by omega)]
theorem bd_of {v z : Int} {A : Nat} (h : 0 ≤ z ∧ z ≤ v) (hv : v.natAbs < 2 ^ A) : z.natAbs < 2 ^ A := by omega
theorem Nj_bd (X : XR x) (h0 : 0 < n) (hn : n < 8) (j : Nat) : ∀ z ∈ Nj x n j, z.natAbs < 2 ^ (3 + 6 * j) := fun z hz => bd_of ((sc_N X h0 j).bd (Rj_01 X h0 j) (uj_pos X h0 j) hz) (uj_bd X hn j)
theorem Bj_bd (X : XR x) (h0 : 0 < n) (hn : n < 8) (j : Nat) : ∀ z ∈ Bj x n j, z.natAbs < 2 ^ (57 + 6 * j) := fun z hz => bd_of ((sc_B X h0 (by omega) j).bd (Wj_01 X h0 (by omega) j) (vj_pos X h0 (by omega) j) hz) (vj_bd X h0 hn j)
theorem Tj_bd (X : XR x) (h0 : 0 < n) (hn : n < 8) (j : Nat) : ∀ z ∈ Tj x n j, z.natAbs < 2 ^ (57 + 6 * j) := fun z hz => bd_of ((sc_T X h0 (by omega) j).bd (Dj_01 X h0 (by omega) j) (vj_pos X h0 (by omega) j) hz) (vj_bd X h0 hn j)
theorem brow_D (X : XR x) (h0 : 0 < n) (hn : n < 8) (j : Nat) : BRow (57 + 6 * j) (Dj x n j) := (sc_T X h0 (by omega) j).brow (Dj_01 X h0 (by omega) j) (vj_pos X h0 (by omega) j) (vj_bd X h0 hn j)
theorem brow_W (X : XR x) (h0 : 0 < n) (hn : n < 8) (j : Nat) : BRow (57 + 6 * j) (Wj x n j) := (sc_B X h0 (by omega) j).brow (Wj_01 X h0 (by omega) j) (vj_pos X h0 (by omega) j) (vj_bd X h0 hn j)
theorem take_sum_bd {c : Int} {l : List Int} (h : ∀ z ∈ l, 0 ≤ z ∧ z ≤ c) (k : Nat) : 0 ≤ (l.take k).sum ∧ (l.take k).sum ≤ c * (l.length : Int) ∨ c < 0 := by
  by_cases hc : c < 0
  · exact .inr hc
  · have s := sum_bd (l := l.take k) fun z hz => h z (List.mem_of_mem_take hz)
    refine .inl ⟨s.1, Int.le_trans s.2 (Int.mul_le_mul_of_nonneg_left ?_ (by omega))⟩
    rw [List.length_take]
    omega
theorem N_sum_bd (X : XR x) (h0 : 0 < n) (hn : n < 8) (j k : Nat) : ((Nj x n j).take k).sum.natAbs < 2 ^ (57 + 6 * j) := by
  have up := uj_pos X h0 j
  have s := take_sum_bd (fun z hz => (sc_N X h0 j).bd (Rj_01 X h0 j) up hz) k
  rw [Nj_len X h0 j] at s
  have b := natAbs_mul_lt' (uj_bd X hn j) (show ((n : Nat) : Int).natAbs < 2 ^ 3 by omega)
  rcases s with s | s
  · exact lt_pow (bd_of s b) (by omega)
  · omega
theorem W_sum_bd (X : XR x) (h0 : 0 < n) (hn : n < 8) (k : Nat) : ((wts x.num.toNat x.den n).take k).sum.natAbs < 2 ^ 57 := by
  obtain ⟨a0, b0, a1, b1, ea⟩ := X.nat
  have s := take_sum_bd (c := 2 ^ 50) (l := wts x.num.toNat x.den n) (fun z hz => by have := wts_mem a0 b0 a1 b1 (by omega) hz; omega) k
  rw [wts_len] at s
  rcases s with s | s
  · have : (2 : Int) ^ 50 * (n : Int) ≤ 2 ^ 50 * 8 := by omega
    omega
  · omega
/-! ### when it holds -/
theorem gm_of_W300 (X : XR x) (h0 : 0 < n) (hn : n ≤ 6) {l : Rat} (hl : (1 : Rat) / 1000 ≤ l) : gm (Wj x n 300) ≤ l := by
  have ne : Wj x n 300 ≠ [] := fun e => by
    have := Wj_len x n 300 (by omega)
    rw [e] at this
    simp at this
  have m := gm_mem ne fun q hq => (Wj_01 X h0 (by omega) 300 q hq).1
  obtain ⟨k, hk, e⟩ := List.getElem_of_mem m
  have hk' := hk
  rw [Wj_len x n 300 (by omega)] at hk'
  have w := W_300 X h0 hn k (by omega)
  have : V.at_ (Wj x n 300) k = gm (Wj x n 300) := by rw [← e]; unfold V.at_; simp [List.getD, hk]
  grind
theorem gm_D_W (X : XR x) (h0 : 0 < n) (hn : n ≤ 8) (j : Nat) : gm (Dj x n j) ≤ gm (Wj x n j) := by
  have ne : Dj x n j ≠ [] := fun e => by
    have := Dj_len x n j
    rw [e] at this
    simp at this
  have m := gm_mem ne fun q hq => (Dj_01 X h0 hn j q hq).1
  obtain ⟨k, hk, e⟩ := List.getElem_of_mem m
  have hk' := hk
  rw [Dj_len] at hk'
  have w := W_ge X h0 hn j k (by omega)
  have a : V.at_ (Dj x n j) k = gm (Dj x n j) := by rw [← e]; unfold V.at_; simp [List.getD, hk]
  have g := gm_ge (Wj x n j) _ (at_mem (r := Wj x n j) (j := k) (by rw [Wj_len x n j (by omega)]; exact hk'))
  grind
def zD (x : Rat) (n j : Nat) : Int := maxL (Tj x n j)
def zW (x : Rat) (n j : Nat) : Int := maxL (Bj x n j)
theorem zD_eq (X : XR x) (h0 : 0 < n) (hn : n ≤ 8) (j : Nat) : ((zD x n j : Int) : Rat) = gm (Dj x n j) * (vj x n j : Rat) := sc_max (sc_T X h0 hn j) (vj_pos X h0 hn j) (fun e => by have := Tj_len (x := x) (n := n) j; rw [e] at this; simp at this) fun q hq => (Dj_01 X h0 hn j q hq).1
theorem zW_eq (X : XR x) (h0 : 0 < n) (hn : n ≤ 8) (j : Nat) : ((zW x n j : Int) : Rat) = gm (Wj x n j) * (vj x n j : Rat) := sc_max (sc_B X h0 hn j) (vj_pos X h0 hn j) (fun e => by have := Bj_len X h0 hn j; rw [e] at this; simp at this) fun q hq => (Wj_01 X h0 hn j q hq).1
theorem zD_bd (X : XR x) (h0 : 0 < n) (hn : n < 8) (j : Nat) : (zD x n j).natAbs < 2 ^ (57 + 6 * j) := Tj_bd X h0 hn j _ (maxL_mem fun e => by have := Tj_len (x := x) (n := n) j; rw [e] at this; simp at this)
theorem zW_bd (X : XR x) (h0 : 0 < n) (hn : n < 8) (j : Nat) : (zW x n j).natAbs < 2 ^ (57 + 6 * j) := Bj_bd X h0 hn j _ (maxL_mem fun e => by have := Bj_len X h0 (by omega) j; rw [e] at this; simp at this)
end
/-! ### the course -/
section
variable {Φ : R.Or}
theorem max_ok {l : List Int} (h : l ≠ []) : bi .max1 [.lst (l.map .int)] = .ok (.int (maxL l)) := by
  cases l with
  | nil => exact absurd rfl h
  | cons c cs =>
    have i : intsOf (.lst ((c :: cs).map .int)) = some (c :: cs) := ints_map _
    show (match intsOf (.lst ((c :: cs).map .int)) with | some (x :: xs) => Res.ok (D.int (maxL (x :: xs))) | _ => .bad) = _
    rw [i]
theorem ix_neg1 {xs : List D} {d : D} {k : Nat} (hl : xs.length = k + 1) (h : xs[k]? = some d) : ixR (.lst xs) (.int (-1)) = .ok d := by
  have e : L2.atI xs (-1) = some d := by
    unfold L2.atI L2.ixN
    have h1 : ¬ ((0 : Int) ≤ -1) := by decide
    have h2 : (0 : Int) ≤ -1 + (xs.length : Int) := by omega
    have h3 : (-1 + (xs.length : Int)).toNat = k := by omega
    rw [if_neg h1, if_pos (by omega), h3]
    exact h
  show (match L2.atI xs (-1) with | some d => Res.ok d | none => .bad) = _
  rw [e]
def TpOk (Φ : R.Or) (f : Nat) : Prop := ∀ (x : Rat) (n j : Nat), XR x → 2 ≤ n → n < 8 → j ≤ 600 → Φ f [.lst ((wts x.num.toNat x.den n).map .int), .lst ((Nj x n j).map .int), .int (uj x n j)] = .ok (.sh (.lst ((Tj x n j).map .int)))
theorem tp_run {x : Rat} (X : XR x) {n j : Nat} (n2 : 2 ≤ n) (n7 : n < 8) (hj : j ≤ 600) : endR (exSs Φ bTops (enter 5 [.lst ((wts x.num.toNat x.den n).map .int), .lst ((Nj x n j).map .int), .int (uj x n j)])) = .ok (.sh (.lst ((Tj x n j).map .int))) :=
  tops_run (A := 57 + 6 * j) (by omega) (fun k => lt_pow (W_sum_bd X (by omega) n7 k) (by omega)) (fun k => N_sum_bd X (by omega) n7 j k) (lt_pow (uj_bd X n7 j) (by omega)) (by rw [wts_len]; omega)
def RdOk (Φ : R.Or) (f : Nat) : Prop := ∀ (x : Rat) (n j : Nat), XR x → 2 ≤ n → n < 8 → j ≤ 600 → Φ f [.lst ((Nj x n j).map .int), fq x] = .ok (.sh (.lst ((Nj x n (j + 1)).map .int)))
theorem rd_run {x : Rat} (X : XR x) {n j : Nat} (n2 : 2 ≤ n) (n7 : n < 8) (hj : j ≤ 600) : endR (exSs Φ bRound (enter 6 [.lst ((Nj x n j).map .int), fq x])) = .ok (.sh (.lst ((Nj x n (j + 1)).map .int))) :=
  round_run X.ok (.inr rfl) (A := 3 + 6 * j) (by omega) (Nj_bd X (by omega) n7 j) (by rw [Nj_len X (by omega) j]; omega)
def WiOk (Φ : R.Or) (f : Nat) : Prop := ∀ (x : Rat) (n j : Nat), XR x → 2 ≤ n → n < 8 → j ≤ 600 → Φ f [.lst ((Bj x n j).map .int), fq x] = .ok (.sh (.lst ((Bj x n (j + 1)).map .int)))
theorem wi_run {x : Rat} (X : XR x) {n j : Nat} (n2 : 2 ≤ n) (n7 : n < 8) (hj : j ≤ 600) : endR (exSs Φ bWalk (enter 4 [.lst ((Bj x n j).map .int), fq x])) = .ok (.sh (.lst ((Bj x n (j + 1)).map .int))) :=
  walk_run X.ok (.inr rfl) (A := 57 + 6 * j) (by omega) (Bj_bd X (by omega) n7 j) (by rw [Bj_len X (by omega) (by omega) j]; omega) (by rw [Bj_len X (by omega) (by omega) j]; omega)
def eHold (s : Nat) : E := .op .le (.op .mul (.idx (.idx (.var s) (.un .neg (.int 1))) (.int 0)) (.idx (.var 2) (.int 1))) (.op .mul (.idx (.var 2) (.int 0)) (.idx (.idx (.var s) (.un .neg (.int 1))) (.int 1)))
def tCo (tp rd wd : Nat) : List S := [.setc 12 (eHold 9), .ifs (.and (.var 12) (.and (eHold 10) (.op .ge (.var 11) (.var 3)))) [.brk] [], .set 6 (.call rd [(.var 6), (.var 1)]), .set 7 (.op .mul (.var 7) (.op .add (.idx (.var 1) (.int 0)) (.idx (.var 1) (.int 1)))), .set 8 (.call wd [(.var 8), (.var 1)]), .appM 9 (.tup [(.bi .max1 [(.call tp [(.var 4), (.var 6), (.var 7)])]), (.op .mul (.var 7) (.var 5))]), .appM 10 (.tup [(.bi .max1 [(.var 8)]), (.op .mul (.var 7) (.var 5))])]
def eWts (pw : Nat) : E := .comp .r1 [13] [(.var 0)] [] (.op .mul (.call pw [(.idx (.var 1) (.int 0)), (.var 13)]) (.call pw [(.idx (.var 1) (.int 1)), (.op .sub (.op .sub (.var 0) (.int 1)) (.var 13))]))
def bCo (pw tp rd wd : Nat) : List S := [.set 4 (eWts pw), .set 5 (.bi .sum [(.var 4)]), .set 6 (.comp .r1 [14] [(.var 0)] [] (.int 1)), .set 7 (.var 0), .set 8 (.call tp [(.var 4), (.var 6), (.var 7)]), .ownM 9 (.lst [(.tup [(.bi .max1 [(.var 8)]), (.op .mul (.var 7) (.var 5))])]), .ownM 10 (.lst [(.tup [(.bi .max1 [(.var 8)]), (.op .mul (.var 7) (.var 5))])]), .fr .r1 [11] [(.int 500)] (tCo tp rd wd) [11, 12], .ret (.lst [(.var 9), (.var 10)])]
def cE (x : Rat) (n t : Nat) (z : Rat → Nat → Nat → Int) : List D := (List.range (t + 1)).map (eD (z x n) (vj x n))
theorem cE_len (x : Rat) (n t : Nat) (z : Rat → Nat → Nat → Int) : (cE x n t z).length = t + 1 := by unfold cE; simp
theorem cE_last (x : Rat) (n t : Nat) (z : Rat → Nat → Nat → Int) : ixR (.lst (cE x n t z)) (.int (-1)) = .ok (eD (z x n) (vj x n) t) := ix_neg1 (k := t) (cE_len x n t z) (by unfold cE; rw [List.getElem?_map, List.getElem?_range (by omega)]; rfl)
theorem cE_succ (x : Rat) (n t : Nat) (z : Rat → Nat → Nat → Int) : cE x n (t + 1) z = cE x n t z ++ [eD (z x n) (vj x n) (t + 1)] := by unfold cE; rw [List.range_succ, List.map_append]; rfl
def sCo (x : Rat) (n t : Nat) (l : Rat) (m : Int) (s11 s12 : Option SV) : PSt := ⟨[some (.sh (.int (n : Int))), some (.sh (fq x)), some (.sh (fq l)), some (.sh (.int m)), some (.sh (.lst ((wts x.num.toNat x.den n).map .int))), some (.sh (.int (wh x n))), some (.sh (.lst ((Nj x n t).map .int))), some (.sh (.int (uj x n t))), some (.sh (.lst ((Bj x n t).map .int))), some (.loc 0), some (.loc 1), s11, s12, none, none], [.ls ((cE x n t zD).map .sh), .ls ((cE x n t zW).map .sh)]⟩
theorem hold_ev {s : Nat} {z : Rat → Nat → Nat → Int} {g : Nat → Rat} {x : Rat} {n t A : Nat} {l : Rat} (X : XR x) (h0 : 0 < n) (hn : n < 8) (ht : t ≤ 600) (bz : (z x n t).natAbs < 2 ^ (57 + 6 * t)) (ez : ((z x n t : Int) : Rat) = g t * (vj x n t : Rat)) (bl : Bd A l) (hA : A ≤ 4000) {Δ : List (Option D)} (d2 : Δ[2]? = some (some (fq l))) (ds : Δ[s]? = some (some (.lst (cE x n t z)))) : ev Φ (eHold s) Δ = .ok (.bl (decide (g t ≤ l))) := by
  have i := cE_last x n t z
  have m1 := opm bz (natAbs_lt' bl.2) (by omega)
  have m2 := opm bl.1 (vj_bd X h0 hn t) (by omega)
  have c := le_cross (z := z x n t) (v := vj x n t) (m := g t) (l := l) (vj_pos X h0 (by omega) t) ez
  have cc : decide (z x n t * (l.den : Int) ≤ l.num * vj x n t) = decide (g t ≤ l) := by simp only [c]
  have j0 : ixR (eD (z x n) (vj x n) t) (.int 0) = .ok (.int (z x n t)) := rfl
  have j1 : ixR (eD (z x n) (vj x n) t) (.int 1) = .ok (.int (vj x n t)) := rfl
  have l0 := ix_fq0 l
  have l1 := ix_fq1 l
  unfold eHold
  generalize decide (g t ≤ l) = dd at *
  generalize cE x n t z = CE at *
  generalize eD (z x n) (vj x n) t = ED at *
  generalize fq l = FL at *
  generalize z x n t * (l.den : Int) = Z1 at *
  generalize l.num * vj x n t = Z2 at *
  simp -implicitDefEqProofs [d2, ds, i, j0, j1, l0, l1, m1, m2, cc]
theorem co_loop {tp rd wd : Nat} (htp : TpOk Φ tp) (hrd : RdOk Φ rd) (hwd : WiOk Φ wd) {x l : Rat} (X : XR x) {n : Nat} (n2 : 2 ≤ n) (n6 : n ≤ 6) {A : Nat} (bl : Bd A l) (hA : A ≤ 4000) (hl : (1 : Rat) / 1000 ≤ l) {m : Nat} (hm : m ≤ 6) : ∀ (k t : Nat), t + k = 500 → t ≤ 300 →
    ∃ T s11 s12, T ≤ 300 ∧ m ≤ T ∧ gm (Wj x n T) ≤ l ∧ forR [11, 12] 2 (frB Φ [11] (tCo tp rd wd)) ((List.range' t k).map fun j => D.int ((j : Nat) : Int)) (sCo x n t l (m : Int) none none) = .nx (sCo x n T l (m : Int) s11 s12)
  | 0, t, e, ht => by omega
  | k + 1, t, e, ht => by
    have h0 : 0 < n := by omega
    have n8 : n < 8 := by omega
    have sn0 : snapO [.ls ((cE x n t zD).map .sh), .ls ((cE x n t zW).map .sh)] (some (.loc 0)) = some (.lst (cE x n t zD)) := snapO_ls rfl
    have sn1 : snapO [.ls ((cE x n t zD).map .sh), .ls ((cE x n t zW).map .sh)] (some (.loc 1)) = some (.lst (cE x n t zW)) := snapO_ls rfl
    have hD : ∀ {Δ : List (Option D)}, Δ[2]? = some (some (fq l)) → Δ[9]? = some (some (.lst (cE x n t zD))) → ev Φ (eHold 9) Δ = .ok (.bl (decide (gm (Dj x n t) ≤ l))) := fun d2 ds => hold_ev (z := zD) (g := fun t => gm (Dj x n t)) X h0 n8 (by omega) (zD_bd X h0 n8 t) (zD_eq X h0 (by omega) t) bl hA d2 ds
    have hW : ∀ {Δ : List (Option D)}, Δ[2]? = some (some (fq l)) → Δ[10]? = some (some (.lst (cE x n t zW))) → ev Φ (eHold 10) Δ = .ok (.bl (decide (gm (Wj x n t) ≤ l))) := fun d2 ds => hold_ev (z := zW) (g := fun t => gm (Wj x n t)) X h0 n8 (by omega) (zW_bd X h0 n8 t) (zW_eq X h0 (by omega) t) bl hA d2 ds
    have dw := gm_D_W X h0 (show n ≤ 8 by omega) t
    rw [List.range'_succ, List.map_cons, forR_cons]
    by_cases stop : gm (Wj x n t) ≤ l ∧ m ≤ t
    · obtain ⟨s1, s2⟩ := stop
      have g : gm (Dj x n t) ≤ l := by grind
      have mt : (m : Int) ≤ (t : Int) := by omega
      have eD' : decide (gm (Dj x n t) ≤ l) = true := by simp [g]
      have eW' : decide (gm (Wj x n t) ≤ l) = true := by simp [s1]
      rw [eD'] at hD
      rw [eW'] at hW
      refine ⟨t, some (.sh (.int (t : Int))), some (.sh (.bl true)), ht, s2, s1, ?_⟩
      have fr : frB Φ [11] (tCo tp rd wd) (.int (t : Int)) (sCo x n t l (m : Int) none none) = .bk (sCo x n t l (m : Int) (some (.sh (.int (t : Int)))) (some (.sh (.bl true)))) := by
        unfold sCo tCo
        generalize (cE x n t zD).map SV.sh = C0 at *
        generalize (cE x n t zW).map SV.sh = C1 at *
        generalize D.lst (cE x n t zD) = L0 at *
        generalize D.lst (cE x n t zW) = L1 at *
        generalize eHold 9 = E9 at *
        generalize eHold 10 = E10 at *
        generalize fq l = FL at *
        generalize fq x = FX at *
        generalize (wts x.num.toNat x.den n).map D.int = WI at *
        generalize (Nj x n t).map D.int = NI at *
        generalize (Bj x n t).map D.int = BI at *
        generalize uj x n t = U at *
        generalize wh x n = W at *
        simp -implicitDefEqProofs [frB, sn0, sn1, hD, hW, mt, D.noL]
      rw [fr, nextTurn_bk]
    · obtain ⟨T, s11, s12, r1, r2, r3, ih⟩ := co_loop htp hrd hwd X n2 n6 bl hA hl hm k (t + 1) (by omega) (by
        rcases Nat.lt_or_ge t 300 with q | q
        · omega
        · have : t = 300 := by omega
          subst this
          exact absurd ⟨gm_of_W300 X h0 n6 hl, by omega⟩ stop)
      refine ⟨T, s11, s12, r1, r2, r3, ?_⟩
      have r1 := hrd x n t X n2 n8 (by omega)
      have w1 := hwd x n t X n2 n8 (by omega)
      have t1 := htp x n (t + 1) X n2 n8 (by omega)
      have sp := sx_pos X
      have i0 := ix_fq0 x
      have i1 := ix_fq1 x
      have m7 := opm (i := uj x n t) (j := x.num + (x.den : Int)) (A := 3 + 6 * t) (B := 6) (uj_bd X n8 t) (by unfold sx at sp; omega) (by omega)
      have e7 : uj x n t * (x.num + (x.den : Int)) = uj x n (t + 1) := (uj_succ x n t).symm
      rw [e7] at m7
      have m5 := opm (uj_bd X n8 (t + 1)) (wh_bd X h0 (by omega)).2 (by omega)
      have e5 : uj x n (t + 1) * wh x n = vj x n (t + 1) := rfl
      rw [e5] at m5
      have x1 := max_ok (l := Tj x n (t + 1)) (fun e => by have := Tj_len (x := x) (n := n) (t + 1); rw [e] at this; simp at this)
      have x2 := max_ok (l := Bj x n (t + 1)) (fun e => by have := Bj_len X h0 (show n ≤ 8 by omega) (t + 1); rw [e] at this; simp at this)
      have l0 : ((cE x n t zD).map SV.sh).length < LINE := by rw [List.length_map, cE_len]; exact len_lt' (by omega)
      have l1 : ((cE x n t zW).map SV.sh).length < LINE := by rw [List.length_map, cE_len]; exact len_lt' (by omega)
      have a0 : (cE x n t zD).map SV.sh ++ [.sh (.tup [.int (maxL (Tj x n (t + 1))), .int (vj x n (t + 1))])] = (cE x n (t + 1) zD).map .sh := by rw [cE_succ, List.map_append]; rfl
      have a1 : (cE x n t zW).map SV.sh ++ [.sh (.tup [.int (maxL (Bj x n (t + 1))), .int (vj x n (t + 1))])] = (cE x n (t + 1) zW).map .sh := by rw [cE_succ, List.map_append]; rfl
      have fr : ∃ d, frB Φ [11] (tCo tp rd wd) (.int (t : Int)) (sCo x n t l (m : Int) none none) = .nx (sCo x n (t + 1) l (m : Int) (some (.sh (.int (t : Int)))) (some (.sh (.bl d)))) := by
        unfold sCo tCo
        rw [← a0, ← a1]
        have nn : ¬ (gm (Dj x n t) ≤ l ∧ gm (Wj x n t) ≤ l ∧ (m : Int) ≤ (t : Int)) := fun ⟨_, q2, q3⟩ => stop ⟨q2, by omega⟩
        generalize hd1 : decide (gm (Dj x n t) ≤ l) = d1 at *
        generalize hd2 : decide (gm (Wj x n t) ≤ l) = d2 at *
        generalize (Tj x n (t + 1)).map D.int = TI at *
        generalize (Bj x n (t + 1)).map D.int = BI1 at *
        generalize (Nj x n (t + 1)).map D.int = NI1 at *
        generalize maxL (Tj x n (t + 1)) = MT at *
        generalize maxL (Bj x n (t + 1)) = MB at *
        generalize vj x n (t + 1) = VJ at *
        generalize uj x n (t + 1) = U1 at *
        generalize (cE x n t zD).map SV.sh = C0 at *
        generalize (cE x n t zW).map SV.sh = C1 at *
        generalize D.lst (cE x n t zD) = L0 at *
        generalize D.lst (cE x n t zW) = L1 at *
        generalize eHold 9 = E9 at *
        generalize eHold 10 = E10 at *
        generalize fq l = FL at *
        generalize fq x = FX at *
        generalize (wts x.num.toNat x.den n).map D.int = WI at *
        generalize (Nj x n t).map D.int = NI at *
        generalize (Bj x n t).map D.int = BI at *
        generalize uj x n t = U at *
        generalize wh x n = W at *
        cases d1 with
        | false =>
          refine ⟨false, ?_⟩
          simp -implicitDefEqProofs [frB, sn0, sn1, hD, D.noL, r1, i0, i1, m7, w1, t1, x1, x2, m5, cellOf, l0, l1, two_le_LINE]
        | true =>
          refine ⟨true, ?_⟩
          cases d2 with
          | false => simp -implicitDefEqProofs [frB, sn0, sn1, hD, hW, D.noL, r1, i0, i1, m7, w1, t1, x1, x2, m5, cellOf, l0, l1, two_le_LINE]
          | true =>
            have n3 : ¬ (m : Int) ≤ (t : Int) := fun q => nn ⟨by simpa using hd1, by simpa using hd2, q⟩
            simp -implicitDefEqProofs [frB, sn0, sn1, hD, hW, D.noL, n3, r1, i0, i1, m7, w1, t1, x1, x2, m5, cellOf, l0, l1, two_le_LINE]
      obtain ⟨d, fr⟩ := fr
      have td : tidy [11, 12] 2 (sCo x n (t + 1) l (m : Int) (some (.sh (.int (t : Int)))) (some (.sh (.bl d)))) = some (sCo x n (t + 1) l (m : Int) none none) := tidy_len rfl
      rw [fr, nextTurn_nx, td]
      exact ih
/-- what the course tells -/
def coD (x : Rat) (n T : Nat) : D := .lst [.lst (cE x n T zD), .lst (cE x n T zW)]
theorem co_run {pw tp rd wd : Nat} (hpw : PowOk Φ pw) (htp : TpOk Φ tp) (hrd : RdOk Φ rd) (hwd : WiOk Φ wd) {x l : Rat} (X : XR x) {n : Nat} (n2 : 2 ≤ n) (n6 : n ≤ 6) {A : Nat} (bl : Bd A l) (hA : A ≤ 4000) (hl : (1 : Rat) / 1000 ≤ l) {m : Nat} (hm : m ≤ 6) :
    ∃ T, T ≤ 300 ∧ m ≤ T ∧ gm (Wj x n T) ≤ l ∧ endR (exSs Φ (bCo pw tp rd wd) (enter 15 [.int (n : Int), fq x, fq l, .int (m : Int)])) = .ok (.sh (coD x n T)) := by
  have h0 : 0 < n := by omega
  have n8 : n < 8 := by omega
  obtain ⟨T, s11, s12, r1, r2, r3, loop⟩ := co_loop htp hrd hwd X n2 n6 bl hA hl hm 500 0 (by omega) (by omega)
  rw [← List.range_eq_range'] at loop
  refine ⟨T, r1, r2, r3, ?_⟩
  obtain ⟨a0, b0, a1, b1, ea⟩ := X.nat
  have i0 : ixR (fq x) (.int 0) = .ok (.int ((x.num.toNat : Nat) : Int)) := by rw [ea]; rfl
  have i1 : ixR (fq x) (.int 1) = .ok (.int (x.den : Int)) := rfl
  have wc : ∀ {Δ : List (Option D)}, Δ[0]? = some (some (.int (n : Int))) → Δ[1]? = some (some (fq x)) → 13 < Δ.length → ev Φ (eWts pw) Δ = .ok (.lst ((wts x.num.toNat x.den n).map .int)) := fun {Δ} d0 d1 hl => by
    unfold wts eWts
    rw [List.map_map]
    refine comp_rg (n := n) (by rw [p_ev_var, d0]) (by omega) fun k hk => ?_
    have c0 : (Δ.set 13 (some (.int (k : Int))))[0]? = some (some (.int (n : Int))) := by rw [List.getElem?_set_ne (by decide)]; exact d0
    have c1 : (Δ.set 13 (some (.int (k : Int))))[1]? = some (some (fq x)) := by rw [List.getElem?_set_ne (by decide)]; exact d1
    have c13 : (Δ.set 13 (some (.int (k : Int))))[13]? = some (some (.int (k : Int))) := by rw [List.getElem?_set_self hl]
    obtain ⟨w0, w1, w2⟩ := wt_bd a1 b1 (show n ≤ 8 by omega) hk
    have p1 := pow_one hpw a0 w1
    have p2 := pow_one hpw b0 w2
    have e1 : (n : Int) - 1 - (k : Int) = ((n - 1 - k : Nat) : Int) := by omega
    have mm := opm (i := ((x.num.toNat ^ k : Nat) : Int)) (j := ((x.den ^ (n - 1 - k) : Nat) : Int)) (A := 50) (B := 50) (natAbs_lt' w1) (natAbs_lt' w2) (by decide)
    rw [← Int.natCast_mul] at mm
    show _ = Res.ok (D.int ((x.num.toNat ^ k * x.den ^ (n - 1 - k) : Nat) : Int))
    generalize ((x.num.toNat ^ k * x.den ^ (n - 1 - k) : Nat) : Int) = W at *
    generalize ((x.num.toNat ^ k : Nat) : Int) = W1 at *
    generalize ((x.den ^ (n - 1 - k) : Nat) : Int) = W2 at *
    generalize ((n - 1 - k : Nat) : Int) = M at *
    generalize ((x.num.toNat : Nat) : Int) = XN at *
    generalize ((x.den : Nat) : Int) = XD at *
    generalize fq x = FX at *
    simp -implicitDefEqProofs [c0, c1, c13, i0, i1, e1, p1, p2, mm]
  have so := sum_ok (wts x.num.toNat x.den n)
  have nc : ∀ {Δ : List (Option D)}, Δ[0]? = some (some (.int (n : Int))) → ev Φ (.comp .r1 [14] [(.var 0)] [] (.int 1)) Δ = .ok (.lst ((Nj x n 0).map .int)) := fun {Δ} d0 => by
    have e : (Nj x n 0).map D.int = (List.range n).map fun _ => D.int 1 := by
      show (List.replicate n (1 : Int)).map D.int = _
      rw [List.map_replicate, List.map_const', List.length_range]
    rw [e]
    exact comp_rg (n := n) (by rw [p_ev_var, d0]) (by omega) fun k hk => rfl
  have t1 := htp x n 0 X n2 n8 (by omega)
  have u0 : uj x n 0 = (n : Int) := by unfold uj; simp
  have m5 := opm (uj_bd X n8 0) (wh_bd X h0 (by omega)).2 (by omega)
  have e5 : uj x n 0 * wh x n = vj x n 0 := rfl
  rw [e5] at m5
  have x1 := max_ok (l := Tj x n 0) (fun e => by have := Tj_len (x := x) (n := n) 0; rw [e] at this; simp at this)
  have c0 : cE x n 0 zD = [.tup [.int (maxL (Tj x n 0)), .int (vj x n 0)]] := rfl
  have c1 : cE x n 0 zW = [.tup [.int (maxL (Tj x n 0)), .int (vj x n 0)]] := rfl
  have b0 : Bj x n 0 = Tj x n 0 := rfl
  have src := rr0 (n := 500) (by decide)
  rw [show ((500 : Nat) : Int) = 500 from rfl] at src
  have o1 : (1 : Nat) ≤ LINE := len_le (by decide)
  have sn0 : snapO [.ls ((cE x n T zD).map .sh), .ls ((cE x n T zW).map .sh)] (some (.loc 0)) = some (.lst (cE x n T zD)) := snapO_ls rfl
  have sn1 : snapO [.ls ((cE x n T zD).map .sh), .ls ((cE x n T zW).map .sh)] (some (.loc 1)) = some (.lst (cE x n T zW)) := snapO_ls rfl
  have ew : (wts x.num.toNat x.den n).sum = wh x n := rfl
  rw [ew] at so
  unfold sCo at loop
  rw [c0, c1, b0, u0] at loop
  rw [u0] at t1 m5
  unfold bCo coD
  generalize (List.range 500).map (fun j => D.int ((j : Nat) : Int)) = RG at *
  generalize (cE x n T zD).map SV.sh = C0 at *
  generalize (cE x n T zW).map SV.sh = C1 at *
  generalize D.lst (cE x n T zD) = L0 at *
  generalize D.lst (cE x n T zW) = L1 at *
  generalize (Tj x n 0).map D.int = TI at *
  generalize maxL (Tj x n 0) = MT at *
  generalize vj x n 0 = VJ at *
  generalize (wts x.num.toNat x.den n).map D.int = WI at *
  generalize (Nj x n 0).map D.int = NI at *
  generalize (Nj x n T).map D.int = NT at *
  generalize (Bj x n T).map D.int = BT at *
  generalize uj x n T = UT at *
  generalize wh x n = W at *
  generalize fq l = FL at *
  generalize fq x = FX at *
  generalize eWts pw = EW at *
  generalize tCo tp rd wd = TC at *
  simp only [List.map_cons, List.map_nil] at loop
  simp -implicitDefEqProofs [-p_ev_comp, wc, so, nc, t1, x1, m5, evO, src, loop, o1, sn0, sn1, two_le_LINE]
end
end R.N
end

section
set_option Elab.async false
set_option linter.all false
set_option maxRecDepth 100000
set_option maxHeartbeats 0
/-! printed by pyc.py: the defs of onewarmth_k75_walk_bounds_whole in the compact form -/
namespace L_onewarmth_k75_walk_bounds_whole
open PySem R
/-- 0 -/
def d_ratio : Def := ⟨2, 4, [.ifs (.op .eq (.var 1) (.int 0)) [.never] [], .set 2 (.int 1), .ifs (.op .lt (.var 1) (.int 0)) [.set 2 (.un .neg (.int 1))] [], .set 3 (.bi .gcd [(.var 0), (.var 1)]), .ret (.tup [(.op .fdiv (.op .mul (.var 2) (.var 0)) (.var 3)), (.op .fdiv (.op .mul (.var 2) (.var 1)) (.var 3))])]⟩
/-- 1 -/
def d_added : Def := ⟨2, 2, [.ret (.call 0 [(.op .add (.op .mul (.idx (.var 0) (.int 0)) (.idx (.var 1) (.int 1))) (.op .mul (.idx (.var 1) (.int 0)) (.idx (.var 0) (.int 1)))), (.op .mul (.idx (.var 0) (.int 1)) (.idx (.var 1) (.int 1)))])]⟩
/-- 2 -/
def d_subtracted : Def := ⟨2, 2, [.ret (.call 0 [(.op .sub (.op .mul (.idx (.var 0) (.int 0)) (.idx (.var 1) (.int 1))) (.op .mul (.idx (.var 1) (.int 0)) (.idx (.var 0) (.int 1)))), (.op .mul (.idx (.var 0) (.int 1)) (.idx (.var 1) (.int 1)))])]⟩
/-- 3 -/
def d_timed : Def := ⟨2, 2, [.ret (.call 0 [(.op .mul (.idx (.var 0) (.int 0)) (.idx (.var 1) (.int 0))), (.op .mul (.idx (.var 0) (.int 1)) (.idx (.var 1) (.int 1)))])]⟩
/-- 4 -/
def d_divided : Def := ⟨2, 2, [.ifs (.op .eq (.idx (.var 1) (.int 0)) (.int 0)) [.never] [], .ret (.call 0 [(.op .mul (.idx (.var 0) (.int 0)) (.idx (.var 1) (.int 1))), (.op .mul (.idx (.var 0) (.int 1)) (.idx (.var 1) (.int 0)))])]⟩
/-- 5 -/
def d_sum_of : Def := ⟨1, 3, [.set 1 (.tup [(.int 0), (.int 1)]), .fr .seq [2] [(.var 0)] [.set 1 (.call 1 [(.var 1), (.var 2)])] [2], .ret (.var 1)]⟩
/-- 6 -/
def d_compared : Def := ⟨2, 4, [.set 2 (.op .mul (.idx (.var 0) (.int 0)) (.idx (.var 1) (.int 1))), .set 3 (.op .mul (.idx (.var 1) (.int 0)) (.idx (.var 0) (.int 1))), .ifs (.op .lt (.var 2) (.var 3)) [.ret (.un .neg (.int 1))] [], .ifs (.op .gt (.var 2) (.var 3)) [.ret (.int 1)] [], .ret (.int 0)]⟩
/-- 7 -/
def d_whole_parts : Def := ⟨1, 3, [.set 1 (.int 1), .fr .seq [2] [(.var 0)] [.set 1 (.op .fdiv (.op .mul (.var 1) (.idx (.var 2) (.int 1))) (.bi .gcd [(.var 1), (.idx (.var 2) (.int 1))]))] [2], .ret (.bi .tuple [(.comp .seq [2] [(.var 0)] [] (.op .mul (.idx (.var 2) (.int 0)) (.op .fdiv (.var 1) (.idx (.var 2) (.int 1)))))])]⟩
/-- 8 -/
def d_falling : Def := ⟨1, 4, [.set 1 (.call 7 [(.var 0)]), .srt 2 (.bi .listR1 [(.bi .len [(.var 1)])]) 1 true, .ret (.bi .tuple [(.comp .seq [3] [(.var 2)] [] (.tup [(.idx (.idx (.var 0) (.var 3)) (.int 0)), (.idx (.idx (.var 0) (.var 3)) (.int 1))]))])]⟩
/-- 9 -/
def d_sorted_sums : Def := ⟨1, 3, [.set 1 (.call 8 [(.var 0)]), .ret (.bi .tuple [(.comp .r1 [2] [(.op .add (.bi .len [(.var 1)]) (.int 1))] [] (.call 5 [(.shi (.var 1) (.var 2))]))])]⟩
/-- 10 -/
def d_round_shares : Def := ⟨2, 5, [.set 2 (.tup [(.call 0 [(.idx (.var 1) (.int 1)), (.op .add (.idx (.var 1) (.int 0)) (.idx (.var 1) (.int 1)))]), (.call 0 [(.idx (.var 1) (.int 0)), (.op .add (.idx (.var 1) (.int 0)) (.idx (.var 1) (.int 1)))])]), .ret (.comp2 .seq [3] [(.var 0)] [] .seq [4] [(.var 2)] [] (.call 3 [(.var 3), (.var 4)]))]⟩
/-- 11 -/
def d_paired : Def := ⟨1, 2, [.ret (.bi .tuple [(.comp .r1 [1] [(.op .fdiv (.bi .len [(.var 0)]) (.int 2))] [] (.call 1 [(.idx (.var 0) (.op .mul (.int 2) (.var 1))), (.idx (.var 0) (.op .add (.op .mul (.int 2) (.var 1)) (.int 1)))]))])]⟩
/-- 12 -/
def d_sorted_round : Def := ⟨2, 2, [.ret (.call 11 [(.call 8 [(.call 10 [(.var 0), (.var 1)])])])]⟩
/-- 13 -/
def d_even_filling : Def := ⟨1, 2, [.ret (.bi .tuple [(.comp .r1 [1] [(.var 0)] [] (.tup [(.int 1), (.var 0)]))])]⟩
/-- 14 -/
def d_after_rounds : Def := ⟨3, 5, [.set 3 (.call 13 [(.var 0)]), .fr .r1 [4] [(.var 2)] [.set 3 (.call 12 [(.var 3), (.var 1)])] [4], .ret (.var 3)]⟩
/-- 15 -/
def d_whole_power : Def := ⟨2, 5, [.set 2 (.int 1), .set 3 (.var 0), .set 4 (.var 1), .whl (.op .gt (.var 4) (.int 0)) [.ifs (.op .eq (.op .mod (.var 4) (.int 2)) (.int 1)) [.set 2 (.op .mul (.var 2) (.var 3))] [], .set 4 (.op .fdiv (.var 4) (.int 2)), .ifs (.op .gt (.var 4) (.int 0)) [.set 3 (.op .mul (.var 3) (.var 3))] []] [], .ret (.var 2)]⟩
/-- 16 -/
def d_warm_weights : Def := ⟨3, 8, [.set 3 (.op .mul (.var 2) (.bi .min1 [(.var 1)])), .set 4 (.op .mul (.var 2) (.bi .max1 [(.var 1)])), .ownM 5 (.lst []), .fr .seq [6] [(.var 1)] [.set 7 (.op .mul (.var 2) (.var 6)), .appM 5 (.op .mul (.call 15 [(.idx (.var 0) (.int 0)), (.op .sub (.var 7) (.var 3))]) (.call 15 [(.idx (.var 0) (.int 1)), (.op .sub (.var 4) (.var 7))]))] [6, 7], .ret (.bi .tuple [(.var 5)])]⟩
/-- 17 -/
def d_ladder : Def := ⟨2, 5, [.set 2 (.call 16 [(.var 1), (.bi .listR1 [(.var 0)]), (.int 1)]), .set 3 (.bi .sum [(.var 2)]), .ret (.bi .tuple [(.comp .seq [4] [(.var 2)] [] (.call 0 [(.var 4), (.var 3)]))])]⟩
/-- 18 -/
def d_lacks_of : Def := ⟨2, 5, [.set 2 (.call 9 [(.call 17 [(.bi .len [(.var 0)]), (.var 1)])]), .ret (.bi .tuple [(.comp .zip [3, 4] [(.var 2), (.call 9 [(.var 0)])] [] (.call 2 [(.var 3), (.var 4)]))])]⟩
/-- 19 -/
def d_lacks : Def := ⟨3, 3, [.ret (.call 18 [(.call 14 [(.var 0), (.var 1), (.var 2)]), (.var 1)])]⟩
/-- 20 -/
def d_walked : Def := ⟨2, 5, [.ownM 2 (.lst [(.tup [(.int 0), (.int 1)])]), .fr .r2 [3] [(.int 1), (.op .sub (.bi .len [(.var 0)]) (.int 1))] [.set 4 (.call 1 [(.idx (.var 0) (.op .add (.var 3) (.int 1))), (.call 3 [(.var 1), (.idx (.var 0) (.op .sub (.var 3) (.int 1)))])]), .appM 2 (.call 4 [(.var 4), (.call 1 [(.tup [(.int 1), (.int 1)]), (.var 1)])])] [3, 4], .appM 2 (.tup [(.int 0), (.int 1)]), .ret (.bi .tuple [(.var 2)])]⟩
/-- 21 -/
def d_walk_bounds : Def := ⟨3, 5, [.set 3 (.call 19 [(.var 0), (.var 1), (.int 0)]), .fr .r1 [4] [(.var 2)] [.set 3 (.call 20 [(.var 3), (.var 1)])] [4], .ret (.var 3)]⟩
/-- 22 -/
def d_rounds_needed : Def := ⟨3, 6, [.set 3 (.call 13 [(.var 0)]), .set 4 (.int 0), .whl (.op .gt (.bi .max1 [(.comp .seq [5] [(.call 18 [(.var 3), (.var 1)])] [] (.call 6 [(.var 5), (.var 2)]))]) (.int 0)) [.set 3 (.call 12 [(.var 3), (.var 1)]), .aug 4 .add (.int 1)] [], .ret (.var 4)]⟩
/-- 23 -/
def d__law_whole : Def := ⟨1, 1, [.ret (.and (.bi (.isinst .int) [(.var 0)]) (.not (.bi (.isinst .bool) [(.var 0)])))]⟩
/-- 24 -/
def d__law_cell : Def := ⟨2, 4, [.ifs (.op .lt (.var 1) (.bi .len [(.var 0)])) [.ret (.idx (.var 0) (.var 1))] [], .set 2 (.int 17), .fr .seq [3] [(.var 0)] [.set 2 (.op .mod (.bi .int [(.op .add (.op .mul (.var 2) (.int 31)) (.op .mod (.bi .int [(.var 3)]) (.int 1000003)))]) (.int 1000003))] [3], .ret (.op .mod (.bi .int [(.op .mul (.op .mul (.op .add (.var 2) (.int 7)) (.op .add (.var 1) (.int 3))) (.int 69621))]) (.int 2147483647))]⟩
/-- 25 -/
def d__law_digits : Def := ⟨2, 8, [.own 2 (.lst []), .set 3 (.bi .int [(.var 0)]), .ifs (.op .ge (.var 3) (.op .pow (.int 10) (.int 18))) [.set 3 (.op .sub (.var 3) (.op .pow (.int 10) (.int 18))), .fr .seq [4] [(.var 1)] [.app 2 (.op .mod (.bi .int [(.var 3)]) (.var 4)), .set 3 (.op .fdiv (.bi .int [(.var 3)]) (.var 4))] [4], .ret (.var 2)] [], .set 5 (.op .mod (.bi .int [(.var 3)]) (.int 2147483629)), .fr .r1 [6] [(.bi .len [(.var 1)])] [.set 5 (.op .mod (.bi .int [(.op .add (.op .add (.op .mul (.var 5) (.int 48271)) (.op .mul (.int 974711) (.var 6))) (.int 12345))]) (.int 2147483647)), .set 7 (.op .mod (.bi .int [(.op .mul (.var 5) (.op .add (.op .fdiv (.var 5) (.int 65537)) (.int 3)))]) (.int 2147483629)), .app 2 (.op .mod (.op .fdiv (.var 7) (.int 19)) (.idx (.var 1) (.var 6)))] [6, 7], .ret (.var 2)]⟩
/-- 26 -/
def d__law_gcd : Def := ⟨2, 5, [.set 2 (.bi .abs [(.bi .int [(.var 0)])]), .set 3 (.bi .abs [(.bi .int [(.var 1)])]), .whl (.op .ne (.var 3) (.int 0)) [.set 4 (.op .mod (.bi .int [(.var 2)]) (.var 3)), .set 2 (.var 3), .set 3 (.var 4)] [4], .ret (.var 2)]⟩
/-- 27 -/
def d__law_fraction : Def := ⟨2, 3, [.ifs (.op .lt (.var 1) (.int 0)) [.ret (.call 27 [(.un .neg (.var 0)), (.un .neg (.var 1))])] [], .set 2 (.call 26 [(.var 0), (.var 1)]), .ret (.tup [(.op .fdiv (.var 0) (.var 2)), (.op .fdiv (.var 1) (.var 2))])]⟩
/-- 28 -/
def d__law_is_fraction : Def := ⟨1, 1, [.ifs (.or (.not (.bi (.isinst .tuple) [(.var 0)])) (.op .ne (.bi .len [(.var 0)]) (.int 2))) [.ret (.bl false)] [], .ifs (.or (.not (.call 23 [(.idx (.var 0) (.int 0))])) (.or (.not (.call 23 [(.idx (.var 0) (.int 1))])) (.op .lt (.idx (.var 0) (.int 1)) (.int 1)))) [.ret (.bl false)] [], .ret (.op .eq (.call 26 [(.idx (.var 0) (.int 0)), (.idx (.var 0) (.int 1))]) (.int 1))]⟩
/-- 29 -/
def d__law_less : Def := ⟨2, 2, [.ret (.call 27 [(.op .sub (.op .mul (.idx (.var 0) (.int 0)) (.idx (.var 1) (.int 1))) (.op .mul (.idx (.var 1) (.int 0)) (.idx (.var 0) (.int 1)))), (.op .mul (.idx (.var 0) (.int 1)) (.idx (.var 1) (.int 1)))])]⟩
/-- 30 -/
def d__law_power : Def := ⟨2, 5, [.set 2 (.int 1), .set 3 (.var 0), .set 4 (.var 1), .whl (.op .gt (.var 4) (.int 0)) [.ifs (.op .eq (.op .mod (.bi .int [(.var 4)]) (.int 2)) (.int 1)) [.set 2 (.op .mul (.var 2) (.var 3))] [], .set 4 (.op .fdiv (.var 4) (.int 2)), .ifs (.op .gt (.var 4) (.int 0)) [.set 3 (.op .mul (.var 3) (.var 3))] []] [], .ret (.var 2)]⟩
/-- 31 -/
def d__law_same : Def := ⟨2, 3, [.ifs (.or (.bi (.isinst .tuple) [(.var 1)]) (.bi (.isinst .list) [(.var 1)])) [.ifs (.or (.not (.bi (.isinst .tuple) [(.var 0)])) (.op .ne (.bi .len [(.var 0)]) (.bi .len [(.var 1)]))) [.ret (.bl false)] [], .fr .r1 [2] [(.bi .len [(.var 1)])] [.ifs (.not (.call 31 [(.idx (.var 0) (.var 2)), (.idx (.var 1) (.var 2))])) [.ret (.bl false)] []] [2], .ret (.bl true)] [], .ifs (.un .isN (.var 1)) [.ret (.un .isN (.var 0))] [], .ifs (.un (.isB true) (.var 1)) [.ret (.un (.isB true) (.var 0))] [], .ifs (.un (.isB false) (.var 1)) [.ret (.un (.isB false) (.var 0))] [], .ifs (.bi (.isinst .str) [(.var 1)]) [.ret (.and (.bi (.isinst .str) [(.var 0)]) (.op .eq (.var 0) (.var 1)))] [], .ret (.and (.call 23 [(.var 0)]) (.op .eq (.var 0) (.var 1)))]⟩
/-- 32 -/
def d__law_round : Def := ⟨2, 6, [.set 2 (.lst []), .fr .seq [3] [(.var 0)] [.set 2 (.op .add (.var 2) (.lst [(.op .mul (.un .neg (.var 3)) (.idx (.var 1) (.int 1))), (.op .mul (.un .neg (.var 3)) (.idx (.var 1) (.int 0)))]))] [3], .set 4 (.bi .sorted [(.var 2)]), .ret (.comp .r1 [5] [(.bi .len [(.var 0)])] [] (.op .sub (.un .neg (.idx (.var 4) (.op .mul (.int 2) (.var 5)))) (.idx (.var 4) (.op .add (.op .mul (.int 2) (.var 5)) (.int 1)))))]⟩
/-- 33 -/
def d__law_walked : Def := ⟨2, 4, [.ownM 2 (.lst [(.int 0)]), .fr .r2 [3] [(.int 1), (.op .sub (.bi .len [(.var 0)]) (.int 1))] [.appM 2 (.op .add (.op .mul (.idx (.var 1) (.int 1)) (.idx (.var 0) (.op .add (.var 3) (.int 1)))) (.op .mul (.idx (.var 1) (.int 0)) (.idx (.var 0) (.op .sub (.var 3) (.int 1)))))] [3], .ret (.op .add (.var 2) (.lst [(.int 0)]))]⟩
/-- 34 -/
def d__law_lack_tops : Def := ⟨3, 5, [.set 3 (.bi .sum [(.var 0)]), .ret (.comp .r1 [4] [(.op .add (.bi .len [(.var 0)]) (.int 1))] [] (.op .sub (.op .mul (.bi .sum [(.shi (.var 0) (.var 4))]) (.var 2)) (.op .mul (.bi .sum [(.shi (.var 1) (.var 4))]) (.var 3))))]⟩
/-- 35 -/
def d__law_walk_holds : Def := ⟨1, 22, [.set 1 (.call 25 [(.call 24 [(.var 0), (.int 0)]), (.lst [(.int 5), (.int 9), (.int 20), (.int 20), (.int 13), (.int 10), (.int 41), (.int 4)])]), .set 2 (.op .add (.int 2) (.idx (.var 1) (.int 0))), .set 3 (.idx (.lst [(.tup [(.int 1), (.int 2)]), (.tup [(.int 1), (.int 3)]), (.tup [(.int 2), (.int 3)]), (.tup [(.int 1), (.int 1)]), (.tup [(.int 3), (.int 4)]), (.tup [(.int 1), (.int 10)]), (.tup [(.int 4), (.int 5)]), (.tup [(.int 1), (.int 20)]), (.tup [(.int 0), (.int 1)])]) (.idx (.var 1) (.int 1))), .ifs (.op .eq (.idx (.var 1) (.int 1)) (.int 8)) [.set 3 (.call 27 [(.op .add (.int 1) (.bi .min2 [(.idx (.var 1) (.int 2)), (.idx (.var 1) (.int 3))])), (.op .add (.int 1) (.bi .max2 [(.idx (.var 1) (.int 2)), (.idx (.var 1) (.int 3))]))])] [], .set 4 (.idx (.var 1) (.int 4)), .ifs (.and (.op .eq (.idx (.var 1) (.int 5)) (.int 0)) (.op .lt (.idx (.var 3) (.int 1)) (.int 5))) [.set 4 (.idx (.var 1) (.int 6)), .ifs (.op .eq (.idx (.var 1) (.int 7)) (.int 0)) [.set 4 (.op .sub (.int 200) (.idx (.var 1) (.int 6)))] []] [], .set 5 (.comp .r1 [18] [(.var 2)] [] (.op .mul (.call 30 [(.idx (.var 3) (.int 0)), (.var 18)]) (.call 30 [(.idx (.var 3) (.int 1)), (.op .sub (.op .sub (.var 2) (.int 1)) (.var 18))]))), .set 6 (.bi .sum [(.var 5)]), .set 7 (.comp .r1 [13] [(.var 2)] [] (.int 1)), .set 8 (.var 2), .set 9 (.call 34 [(.var 5), (.var 7), (.var 8)]), .set 10 (.bi .list [(.var 9)]), .fr .r1 [11] [(.var 4)] [.set 7 (.call 32 [(.var 7), (.var 3)]), .set 12 (.comp .seq [19] [(.var 9)] [] (.op .mul (.var 19) (.op .add (.idx (.var 3) (.int 0)) (.idx (.var 3) (.int 1))))), .set 8 (.op .mul (.var 8) (.op .add (.idx (.var 3) (.int 0)) (.idx (.var 3) (.int 1)))), .set 9 (.call 34 [(.var 5), (.var 7), (.var 8)]), .set 10 (.call 33 [(.var 10), (.var 3)]), .fr .r1 [13] [(.op .add (.var 2) (.int 1))] [.ifs (.or (.op .lt (.idx (.var 9) (.var 13)) (.int 0)) (.or (.op .gt (.idx (.var 9) (.var 13)) (.idx (.var 10) (.var 13))) (.op .gt (.idx (.var 9) (.var 13)) (.idx (.var 12) (.var 13))))) [.ret (.bl false)] []] [13]] [11, 12, 13], .ifs (.or (.op .ne (.idx (.var 9) (.int 0)) (.int 0)) (.op .ne (.idx (.var 9) (.un .neg (.int 1))) (.int 0))) [.ret (.bl false)] [], .set 14 (.comp .seq [19] [(.var 9)] [] (.call 27 [(.var 19), (.op .mul (.var 8) (.var 6))])), .ifs (.not (.call 31 [(.call 19 [(.var 2), (.bi .list [(.var 3)]), (.var 4)]), (.var 14)])) [.ret (.bl false)] [], .ifs (.not (.call 31 [(.call 21 [(.var 2), (.var 3), (.var 4)]), (.comp .seq [19] [(.var 10)] [] (.call 27 [(.var 19), (.op .mul (.var 8) (.var 6))]))])) [.ret (.bl false)] [], .set 15 (.comp .seq [20] [(.var 7)] [] (.call 27 [(.var 20), (.var 8)])), .ifs (.not (.call 31 [(.call 17 [(.var 2), (.var 3)]), (.comp .seq [21] [(.var 5)] [] (.call 27 [(.var 21), (.var 6)]))])) [.ret (.bl false)] [], .ifs (.not (.call 31 [(.call 14 [(.var 2), (.var 3), (.var 4)]), (.var 15)])) [.ret (.bl false)] [], .set 16 (.comp .r1 [13] [(.op .add (.var 2) (.int 1))] [] (.call 27 [(.bi .sum [(.shi (.var 7) (.var 13))]), (.var 8)])), .set 17 (.comp .seq [20] [(.call 32 [(.var 7), (.var 3)])] [] (.call 27 [(.var 20), (.op .mul (.var 8) (.op .add (.idx (.var 3) (.int 0)) (.idx (.var 3) (.int 1))))])), .ret (.and (.call 31 [(.call 9 [(.var 15)]), (.var 16)]) (.call 31 [(.call 12 [(.var 15), (.var 3)]), (.var 17)]))]⟩
/-- 36 -/
def d__law_course : Def := ⟨4, 15, [.set 4 (.comp .r1 [13] [(.var 0)] [] (.op .mul (.call 30 [(.idx (.var 1) (.int 0)), (.var 13)]) (.call 30 [(.idx (.var 1) (.int 1)), (.op .sub (.op .sub (.var 0) (.int 1)) (.var 13))]))), .set 5 (.bi .sum [(.var 4)]), .set 6 (.comp .r1 [14] [(.var 0)] [] (.int 1)), .set 7 (.var 0), .set 8 (.call 34 [(.var 4), (.var 6), (.var 7)]), .ownM 9 (.lst [(.tup [(.bi .max1 [(.var 8)]), (.op .mul (.var 7) (.var 5))])]), .ownM 10 (.lst [(.tup [(.bi .max1 [(.var 8)]), (.op .mul (.var 7) (.var 5))])]), .fr .r1 [11] [(.int 500)] [.setc 12 (.op .le (.op .mul (.idx (.idx (.var 9) (.un .neg (.int 1))) (.int 0)) (.idx (.var 2) (.int 1))) (.op .mul (.idx (.var 2) (.int 0)) (.idx (.idx (.var 9) (.un .neg (.int 1))) (.int 1)))), .ifs (.and (.var 12) (.and (.op .le (.op .mul (.idx (.idx (.var 10) (.un .neg (.int 1))) (.int 0)) (.idx (.var 2) (.int 1))) (.op .mul (.idx (.var 2) (.int 0)) (.idx (.idx (.var 10) (.un .neg (.int 1))) (.int 1)))) (.op .ge (.var 11) (.var 3)))) [.brk] [], .set 6 (.call 32 [(.var 6), (.var 1)]), .set 7 (.op .mul (.var 7) (.op .add (.idx (.var 1) (.int 0)) (.idx (.var 1) (.int 1)))), .set 8 (.call 33 [(.var 8), (.var 1)]), .appM 9 (.tup [(.bi .max1 [(.call 34 [(.var 4), (.var 6), (.var 7)])]), (.op .mul (.var 7) (.var 5))]), .appM 10 (.tup [(.bi .max1 [(.var 8)]), (.op .mul (.var 7) (.var 5))])] [11, 12], .ret (.lst [(.var 9), (.var 10)])]⟩
/-- 37 -/
def d__law_first : Def := ⟨2, 3, [.ret (.idx (.comp .r1 [2] [(.bi .len [(.var 0)])] [(.op .le (.op .mul (.idx (.idx (.var 0) (.var 2)) (.int 0)) (.idx (.var 1) (.int 1))) (.op .mul (.idx (.var 1) (.int 0)) (.idx (.idx (.var 0) (.var 2)) (.int 1))))] (.var 2)) (.int 0))]⟩
/-- 38 -/
def d__law_most_told : Def := ⟨3, 5, [.ifs (.or (.not (.bi (.isinst .tuple) [(.var 0)])) (.op .ne (.bi .len [(.var 0)]) (.op .add (.var 1) (.int 1)))) [.ret (.bl false)] [], .set 3 (.bl false), .fr .seq [4] [(.var 0)] [.ifs (.or (.not (.call 28 [(.var 4)])) (.op .gt (.op .mul (.idx (.var 4) (.int 0)) (.idx (.var 2) (.int 1))) (.op .mul (.idx (.var 2) (.int 0)) (.idx (.var 4) (.int 1))))) [.ret (.bl false)] [], .set 3 (.or (.var 3) (.op .eq (.op .mul (.idx (.var 4) (.int 0)) (.idx (.var 2) (.int 1))) (.op .mul (.idx (.var 2) (.int 0)) (.idx (.var 4) (.int 1)))))] [4], .ret (.var 3)]⟩
/-- 39 -/
def d__law_needed_holds : Def := ⟨1, 9, [.set 1 (.call 25 [(.call 24 [(.var 0), (.int 1)]), (.lst [(.int 5), (.int 9), (.int 20), (.int 20), (.int 8), (.int 6), (.int 7)])]), .set 2 (.op .add (.int 2) (.idx (.var 1) (.int 0))), .set 3 (.idx (.lst [(.tup [(.int 1), (.int 2)]), (.tup [(.int 1), (.int 3)]), (.tup [(.int 2), (.int 3)]), (.tup [(.int 1), (.int 1)]), (.tup [(.int 3), (.int 4)]), (.tup [(.int 1), (.int 10)]), (.tup [(.int 4), (.int 5)]), (.tup [(.int 1), (.int 20)]), (.tup [(.int 0), (.int 1)])]) (.idx (.var 1) (.int 1))), .ifs (.op .eq (.idx (.var 1) (.int 1)) (.int 8)) [.set 3 (.call 27 [(.op .add (.int 1) (.bi .min2 [(.idx (.var 1) (.int 2)), (.idx (.var 1) (.int 3))])), (.op .add (.int 1) (.bi .max2 [(.idx (.var 1) (.int 2)), (.idx (.var 1) (.int 3))]))])] [], .set 4 (.idx (.lst [(.tup [(.int 1), (.int 2)]), (.tup [(.int 1), (.int 5)]), (.tup [(.int 1), (.int 10)]), (.tup [(.int 1), (.int 50)]), (.tup [(.int 1), (.int 100)]), (.tup [(.int 1), (.int 1000)]), (.tup [(.int 1), (.int 300)]), (.tup [(.int 1), (.int 3)])]) (.idx (.var 1) (.int 4))), .set 5 (.call 36 [(.var 2), (.var 3), (.var 4), (.idx (.var 1) (.int 6))]), .set 6 (.idx (.idx (.var 5) (.int 0)) (.idx (.var 1) (.int 6))), .ifs (.and (.op .lt (.idx (.var 1) (.int 5)) (.int 3)) (.op .ge (.op .mul (.idx (.var 6) (.int 0)) (.int 900)) (.idx (.var 6) (.int 1)))) [.set 4 (.call 27 [(.idx (.var 6) (.int 0)), (.idx (.var 6) (.int 1))]), .ifs (.op .eq (.idx (.var 1) (.int 5)) (.int 2)) [.set 4 (.call 29 [(.var 4), (.tup [(.int 1), (.int 100000)])])] [], .set 5 (.call 36 [(.var 2), (.var 3), (.var 4), (.idx (.var 1) (.int 6))])] [], .set 7 (.call 37 [(.idx (.var 5) (.int 0)), (.var 4)]), .set 8 (.call 37 [(.idx (.var 5) (.int 1)), (.var 4)]), .ifs (.or (.op .gt (.var 7) (.var 8)) (.not (.call 31 [(.call 22 [(.var 2), (.bi .list [(.var 3)]), (.bi .list [(.var 4)])]), (.var 7)]))) [.ret (.bl false)] [], .ifs (.not (.call 38 [(.call 19 [(.var 2), (.var 3), (.var 7)]), (.var 2), (.idx (.idx (.var 5) (.int 0)) (.var 7))])) [.ret (.bl false)] [], .ifs (.and (.op .gt (.var 7) (.int 0)) (.not (.call 38 [(.call 19 [(.var 2), (.var 3), (.op .sub (.var 7) (.int 1))]), (.var 2), (.idx (.idx (.var 5) (.int 0)) (.op .sub (.var 7) (.int 1)))]))) [.ret (.bl false)] [], .ret (.call 38 [(.call 21 [(.var 2), (.var 3), (.var 8)]), (.var 2), (.idx (.idx (.var 5) (.int 1)) (.var 8))])]⟩
/-- 40 -/
def d_law : Def := ⟨1, 1, [.ret (.and (.call 35 [(.var 0)]) (.call 39 [(.var 0)]))]⟩
def prog : List Def := [d_ratio, d_added, d_subtracted, d_timed, d_divided, d_sum_of, d_compared, d_whole_parts, d_falling, d_sorted_sums, d_round_shares, d_paired, d_sorted_round, d_even_filling, d_after_rounds, d_whole_power, d_warm_weights, d_ladder, d_lacks_of, d_lacks, d_walked, d_walk_bounds, d_rounds_needed, d__law_whole, d__law_cell, d__law_digits, d__law_gcd, d__law_fraction, d__law_is_fraction, d__law_less, d__law_power, d__law_same, d__law_round, d__law_walked, d__law_lack_tops, d__law_walk_holds, d__law_course, d__law_first, d__law_most_told, d__law_needed_holds, d_law]
def top (i : Nat) : Stmt := PySem.Challenge.pw_onewarmth_k75_walk_bounds_whole.main.body.getD i (.Pass ⟨0, 0, 0, 0⟩)
def f_ratio : Fun := ⟨"ratio", top 5, ["top", "bottom", "sign", "common"], d_ratio⟩
def f_added : Fun := ⟨"added", top 6, ["one", "two"], d_added⟩
def f_subtracted : Fun := ⟨"subtracted", top 7, ["one", "two"], d_subtracted⟩
def f_timed : Fun := ⟨"timed", top 8, ["one", "two"], d_timed⟩
def f_divided : Fun := ⟨"divided", top 9, ["one", "two"], d_divided⟩
def f_sum_of : Fun := ⟨"sum_of", top 10, ["fractions", "total", "fraction"], d_sum_of⟩
def f_compared : Fun := ⟨"compared", top 11, ["one", "two", "left", "right"], d_compared⟩
def f_whole_parts : Fun := ⟨"whole_parts", top 12, ["fractions", "common", "fraction"], d_whole_parts⟩
def f_falling : Fun := ⟨"falling", top 14, ["fractions", "numbers", "order", "at"], d_falling⟩
def f_sorted_sums : Fun := ⟨"sorted_sums", top 15, ["filling", "ordered", "many"], d_sorted_sums⟩
def f_round_shares : Fun := ⟨"round_shares", top 17, ["filling", "x", "fresh", "share", "part"], d_round_shares⟩
def f_paired : Fun := ⟨"paired", top 18, ["shares", "state"], d_paired⟩
def f_sorted_round : Fun := ⟨"sorted_round", top 19, ["filling", "x"], d_sorted_round⟩
def f_even_filling : Fun := ⟨"even_filling", top 20, ["size", "state"], d_even_filling⟩
def f_after_rounds : Fun := ⟨"after_rounds", top 21, ["size", "x", "rounds", "filling", "turn"], d_after_rounds⟩
def f_whole_power : Fun := ⟨"whole_power", top 23, ["number", "exponent", "result", "square", "left"], d_whole_power⟩
def f_warm_weights : Fun := ⟨"warm_weights", top 25, ["x", "heights", "coldness", "low", "high", "told", "height", "cold"], d_warm_weights⟩
def f_ladder : Fun := ⟨"ladder", top 27, ["size", "x", "weights", "total", "weight"], d_ladder⟩
def f_lacks_of : Fun := ⟨"lacks_of", top 28, ["filling", "x", "goal", "one", "two"], d_lacks_of⟩
def f_lacks : Fun := ⟨"lacks", top 29, ["size", "x", "rounds"], d_lacks⟩
def f_walked : Fun := ⟨"walked", top 30, ["bounds", "x", "told", "at", "both"], d_walked⟩
def f_walk_bounds : Fun := ⟨"walk_bounds", top 31, ["size", "x", "rounds", "told", "turn"], d_walk_bounds⟩
def f_rounds_needed : Fun := ⟨"rounds_needed", top 32, ["size", "x", "lack", "filling", "rounds", "item"], d_rounds_needed⟩
def f__law_whole : Fun := ⟨"_law_whole", top 34, ["value"], d__law_whole⟩
def f__law_cell : Fun := ⟨"_law_cell", top 35, ["script", "k", "seed", "cell"], d__law_cell⟩
def f__law_digits : Fun := ⟨"_law_digits", top 36, ["cell", "sizes", "row", "rest", "size", "seed", "k", "twice"], d__law_digits⟩
def f__law_gcd : Fun := ⟨"_law_gcd", top 37, ["a", "b", "one", "two", "rest"], d__law_gcd⟩
def f__law_fraction : Fun := ⟨"_law_fraction", top 38, ["top", "bottom", "common"], d__law_fraction⟩
def f__law_is_fraction : Fun := ⟨"_law_is_fraction", top 39, ["value"], d__law_is_fraction⟩
def f__law_less : Fun := ⟨"_law_less", top 40, ["one", "two"], d__law_less⟩
def f__law_power : Fun := ⟨"_law_power", top 41, ["number", "exponent", "told", "square", "left"], d__law_power⟩
def f__law_same : Fun := ⟨"_law_same", top 42, ["value", "due", "k"], d__law_same⟩
def f__law_round : Fun := ⟨"_law_round", top 43, ["parts", "x", "shares", "part", "told", "t"], d__law_round⟩
def f__law_walked : Fun := ⟨"_law_walked", top 44, ["bounds", "x", "told", "k"], d__law_walked⟩
def f__law_lack_tops : Fun := ⟨"_law_lack_tops", top 45, ["weights", "parts", "under", "whole", "k"], d__law_lack_tops⟩
def f__law_walk_holds : Fun := ⟨"_law_walk_holds", top 46, ["script", "row", "size", "x", "rounds", "weights", "whole", "now", "under", "due", "bounds", "turn", "before", "k", "told", "filling", "sums", "after", "t", "each", "part", "weight"], d__law_walk_holds⟩
def f__law_course : Fun := ⟨"_law_course", top 47, ["size", "x", "lack", "least", "weights", "whole", "now", "under", "bounds", "greatest", "walked_v", "turn", "held", "t", "k"], d__law_course⟩
def f__law_first : Fun := ⟨"_law_first", top 48, ["row", "lack", "k"], d__law_first⟩
def f__law_most_told : Fun := ⟨"_law_most_told", top 49, ["told", "size", "due", "had", "each"], d__law_most_told⟩
def f__law_needed_holds : Fun := ⟨"_law_needed_holds", top 50, ["script", "row", "size", "x", "lack", "course", "exact", "due", "limit"], d__law_needed_holds⟩
def f_law : Fun := ⟨"law", top 51, ["script"], d_law⟩
def funs : List Fun := [f_ratio, f_added, f_subtracted, f_timed, f_divided, f_sum_of, f_compared, f_whole_parts, f_falling, f_sorted_sums, f_round_shares, f_paired, f_sorted_round, f_even_filling, f_after_rounds, f_whole_power, f_warm_weights, f_ladder, f_lacks_of, f_lacks, f_walked, f_walk_bounds, f_rounds_needed, f__law_whole, f__law_cell, f__law_digits, f__law_gcd, f__law_fraction, f__law_is_fraction, f__law_less, f__law_power, f__law_same, f__law_round, f__law_walked, f__law_lack_tops, f__law_walk_holds, f__law_course, f__law_first, f__law_most_told, f__law_needed_holds, f_law]
def lams : List PySem.Str := ["falling"]
theorem chkB : ((List.range funs.length).all fun i => match funs[i]? with | some f => chkF (thL funs true (lmB lams funs i)) f | none => true) = true := by decide +kernel
theorem chk : ∀ i f, funs[i]? = some f → chkF (thL funs true (lmB lams funs i)) f = true := fun i f h => by
  have q := List.all_eq_true.mp chkB i (List.mem_range.mpr (List.getElem?_eq_some_iff.mp h).1)
  rw [h] at q
  exact q
end L_onewarmth_k75_walk_bounds_whole
end

section
set_option Elab.async false
set_option linter.all false
set_option maxRecDepth 100000
set_option exponentiation.threshold 5000
/-! printed by facts.py: what the common defs tell, by their numbers -/
namespace L_onewarmth_k75_walk_bounds_whole
open R R.V R.N
abbrev PP : List Def := funs.map (·.d)
theorem fr_a {n : Nat} (h : 1 ≤ n) : FrOk (run PP n) 0 := ratio_at rfl h
theorem fr_b {n : Nat} (h : 2 ≤ n) : FrOk (run PP n) 27 := frac_at (g := 26) rfl rfl h
theorem ad_a {n : Nat} (h : 2 ≤ n) : AddOk (run PP n) 1 := by
  have hZ : 1 ≤ n := by omega
  obtain ⟨m, rfl⟩ := one_more hZ
  exact fun A a b ha hb hA => add_at (c := 0) rfl (fr_a (by omega)) ha hb hA
theorem ti_a {n : Nat} (h : 2 ≤ n) : TimOk (run PP n) 3 := by
  have hZ : 1 ≤ n := by omega
  obtain ⟨m, rfl⟩ := one_more hZ
  exact fun A a b ha hb hA => tim_at (c := 0) rfl (fr_a (by omega)) ha hb hA
theorem so_a {n : Nat} (h : 3 ≤ n) : SumOk (run PP n) 5 := by
  have hZ : 1 ≤ n := by omega
  obtain ⟨m, rfl⟩ := one_more hZ
  exact fun A r X hX hr hA => run_at d_sum_of rfl rfl (sumof_run (ad_a (by omega)) hX hr hA)
theorem wp_a {n : Nat} (h : 1 ≤ n) : WpOk (run PP n) 7 := by
  have hZ : 1 ≤ n := by omega
  obtain ⟨m, rfl⟩ := one_more hZ
  exact fun A r X hX hb hl hA => run_at d_whole_parts rfl rfl (wparts_run (A := A) hX (by omega) hb (by omega) (by have := Nat.mul_le_mul hA hl; omega))
theorem fa_a {n : Nat} (h : 2 ≤ n) : FallOk (run PP n) 8 := by
  have hZ : 1 ≤ n := by omega
  obtain ⟨m, rfl⟩ := one_more hZ
  exact fun A r X hX hb hl hA => run_at d_falling rfl rfl (fall_run (wp_a (by omega)) hX hb hl hA)
theorem ss_a {n : Nat} (h : 4 ≤ n) : SumsOk (run PP n) 9 := by
  have hZ : 1 ≤ n := by omega
  obtain ⟨m, rfl⟩ := one_more hZ
  exact fun A r X hX hr hl hA => run_at d_sorted_sums rfl rfl (sums_run (fa_a (by omega)) (so_a (by omega)) hX hr hl hA)
theorem sh_a {n : Nat} (h : 3 ≤ n) : ShOk (run PP n) 10 := by
  have hZ : 1 ≤ n := by omega
  obtain ⟨m, rfl⟩ := one_more hZ
  exact fun a b A r F X hx hX hF hb hl hA => run_at d_round_shares rfl rfl (rs_run (fr_a (by omega)) (ti_a (by omega)) hx hX hF hb (by omega) hA)
theorem pt_a {n : Nat} (h : 3 ≤ n) : PTOk (run PP n) 11 := by
  have hZ : 1 ≤ n := by omega
  obtain ⟨m, rfl⟩ := one_more hZ
  exact fun A r X hX hb hl hA => run_at d_paired rfl rfl (pairT_run (ad_a (by omega)) hX hb hl hA)
theorem sr_a {n : Nat} (h : 4 ≤ n) : SROk (run PP n) 12 := by
  have hZ : 1 ≤ n := by omega
  obtain ⟨m, rfl⟩ := one_more hZ
  exact fun a b A r F X hx hX hF hr hl hA => run_at d_sorted_round rfl rfl (sr_run (pt_a (by omega)) (fa_a (by omega)) hx (sh_a (by omega) a b A r F X hx hX hF (fun q hq => hr.bd hq) (by omega) (by omega)) hr hl hA)
theorem shL_a {n : Nat} (h : 3 ≤ n) {a b : Int} (hx : XOk a b) {A : Nat} {r : Row} {X : D} (hX : IsX X a b) (hb : ∀ q ∈ r, Bd A q) (hl : r.length ≤ 1000) (hA : A ≤ 4000) : run PP n 10 [fLL r, X] = .ok (.sh (fL (shs a b r))) := by
  have hZ : 1 ≤ n := by omega
  obtain ⟨m, rfl⟩ := one_more hZ
  exact run_at d_round_shares rfl rfl (rsG_run (fr_a (by omega)) hx hX (srcLL r) hl fun q hq => timL_p (fun A a b ha hb hA => by
    obtain ⟨k, rfl⟩ := one_more (show 1 ≤ m by omega)
    exact run_at d_timed rfl rfl (timL_run (fr_a (by omega)) ha hb hA)) hx (hb q hq) hA)
theorem srL_a {n : Nat} (h : 4 ≤ n) {a b : Int} (hx : XOk a b) {A : Nat} {r : Row} {X : D} (hX : IsX X a b) (hr : BRow A r) (hl : r.length ≤ 50) (hA : A ≤ 3000) : run PP n 12 [fLL r, X] = .ok (.sh (fT (SR a b r))) := by
  have hZ : 1 ≤ n := by omega
  obtain ⟨m, rfl⟩ := one_more hZ
  exact run_at d_sorted_round rfl rfl (sr_run (pt_a (by omega)) (fa_a (by omega)) hx (shL_a (by omega) hx hX (fun q hq => hr.bd hq) (by omega) (by omega)) hr hl hA)
theorem ev_a {n : Nat} (h : 1 ≤ n) : EvOk (run PP n) 13 := by
  have hZ : 1 ≤ n := by omega
  obtain ⟨m, rfl⟩ := one_more hZ
  exact fun m h h2 => run_at d_even_filling rfl rfl (even_run h h2)
theorem after_a {n : Nat} (h : 5 ≤ n) {a b : Int} (hx : XOk a b) {X : D} (hX : IsX X a b) {q k : Nat} (h1 : 0 < q) (h2 : q < 8) (hk : k ≤ 400) : run PP n 14 [.int (q : Int), X, .int (k : Int)] = .ok (.sh (fT (SRn a b k (evn q)))) := by
  have hZ : 1 ≤ n := by omega
  obtain ⟨m, rfl⟩ := one_more hZ
  exact run_at d_after_rounds rfl rfl (after_run (ev_a (by omega)) (sr_a (by omega)) hx hX h1 h2 hk)
theorem gc_b {n : Nat} (h : 1 ≤ n) : GcdOk (run PP n) 26 := fun i j => gcd_at rfl h i j
theorem same_b {n : Nat} (k : Nat) (d : D) (hd : D.sdue k d = true) (h : k + 2 ≤ n) : run PP n 31 [d.tupd, d] = .ok (.sh (.bl true)) := same_at (w := 23) rfl rfl k d n hd h
theorem row_b {n : Nat} (h : 1 ≤ n) {ns : List Int} {k : Nat} (hl : ns.length < 1000000) (hk : k < 1000000) {sizes : List Int} (hs : SizesOk sizes) : ∃ (c : Int) (row : List Int), run PP n 24 [.fz (ns.map .int), .int k] = .ok (.sh (.int c)) ∧ InB row sizes ∧ run PP n 25 [.int c, .lst (sizes.map .int)] = .ok (.sh (.lst (row.map .int))) := row_at rfl rfl h hl hk hs
theorem tq_a {n : Nat} (h : 2 ≤ n) : TimQ (run PP n) 3 := by
  have hZ : 1 ≤ n := by omega
  obtain ⟨m, rfl⟩ := one_more hZ
  exact fun A a b X Y hX hY ha hb hA => run_at d_timed rfl rfl (timQ_run (fr_a (by omega)) hX hY ha hb hA)
theorem cq_a {n : Nat} (h : 1 ≤ n) : CmpQ (run PP n) 6 := by
  have hZ : 1 ≤ n := by omega
  obtain ⟨m, rfl⟩ := one_more hZ
  exact fun A a b X Y hX hY ha hb hA => run_at d_compared rfl rfl (comp_run hX hY ha hb hA)
theorem pw_a {n : Nat} (h : 1 ≤ n) : PowOk (run PP n) 15 := by
  have hZ : 1 ≤ n := by omega
  obtain ⟨m, rfl⟩ := one_more hZ
  exact fun q l hq hb => run_at d_whole_power rfl rfl (pow_run tPow2_ok (B := 4000) (by decide) hq hb)
theorem pw_b {n : Nat} (h : 1 ≤ n) : PowOk (run PP n) 30 := by
  have hZ : 1 ≤ n := by omega
  obtain ⟨m, rfl⟩ := one_more hZ
  exact fun q l hq hb => run_at d__law_power rfl rfl (pow_run tPow1_ok (B := 4000) (by decide) hq hb)
theorem ww_a {n : Nat} (h : 2 ≤ n) : WwOk (run PP n) 16 := by
  have hZ : 1 ≤ n := by omega
  obtain ⟨m, rfl⟩ := one_more hZ
  exact fun x k X hx hX h0 hn => run_at d_warm_weights rfl rfl (ww_run (pw_a (by omega)) hx hX h0 hn)
theorem lad_a {n : Nat} (h : 3 ≤ n) {x : Rat} {k : Nat} {X : D} (hx : XR x) (hX : IsQ X x) (h0 : 2 ≤ k) (hn : k ≤ 8) : run PP n 17 [.int (k : Int), X] = .ok (.sh (fT (ldr x k))) := by
  have hZ : 1 ≤ n := by omega
  obtain ⟨m, rfl⟩ := one_more hZ
  exact run_at d_ladder rfl rfl (lad_run (ww_a (by omega)) (fr_a (by omega)) hx hX h0 hn)
theorem su_a {n : Nat} (h : 2 ≤ n) : SubOk (run PP n) 2 := by
  have hZ : 1 ≤ n := by omega
  obtain ⟨m, rfl⟩ := one_more hZ
  exact fun A a b ha hb hA => sub_at (c := 0) rfl (fr_a (by omega)) ha hb hA
theorem su_b {n : Nat} (h : 3 ≤ n) : SubOk (run PP n) 29 := by
  have hZ : 1 ≤ n := by omega
  obtain ⟨m, rfl⟩ := one_more hZ
  exact fun A a b ha hb hA => sub_at (c := 27) rfl (fr_b (by omega)) ha hb hA
theorem dv_a {n : Nat} (h : 2 ≤ n) : DivOk (run PP n) 4 := by
  have hZ : 1 ≤ n := by omega
  obtain ⟨m, rfl⟩ := one_more hZ
  exact fun A a b ha hb b0 hA => run_at d_divided rfl rfl (div_run (fr_a (by omega)) ha hb b0 hA)
theorem ld_a {n : Nat} (h : 3 ≤ n) : LadOk (run PP n) 17 := fun x k X hx hX h0 hn => lad_a h hx hX h0 hn
theorem lof_a {n : Nat} (h : 5 ≤ n) : LofOk (run PP n) 18 := by
  have hZ : 1 ≤ n := by omega
  obtain ⟨m, rfl⟩ := one_more hZ
  exact fun x k A X r hx hX n2 n8 hr hd rl hA => run_at d_lacks_of rfl rfl (lof_run (ss_a (by omega)) (ld_a (by omega)) (su_a (by omega)) hx n2 n8 hX hr hd rl hA)
theorem af_a {n : Nat} (h : 5 ≤ n) : AfOk (run PP n) 14 := fun x q k X hx hX n2 n7 hk => after_a h hx.ok hX (by omega) n7 hk
theorem lks_a {n : Nat} (h : 6 ≤ n) : LksOk (run PP n) 19 := by
  have hZ : 1 ≤ n := by omega
  obtain ⟨m, rfl⟩ := one_more hZ
  exact fun x q k X hx hX n2 n7 hk => run_at d_lacks rfl rfl (lks_run (lof_a (by omega)) (af_a (by omega)) hx hX n2 n7 hk)
theorem wd_a {n : Nat} (h : 3 ≤ n) : WdOk (run PP n) 20 := by
  have hZ : 1 ≤ n := by omega
  obtain ⟨m, rfl⟩ := one_more hZ
  exact fun x A w hx hw h2 hl hA => run_at d_walked rfl rfl (wd_run (ad_a (by omega)) (ti_a (by omega)) (dv_a (by omega)) hx hw h2 hl hA)
theorem wb_a {n : Nat} (h : 7 ≤ n) {x : Rat} (hx : XR x) {q k : Nat} (n2 : 2 ≤ q) (n7 : q < 8) (hk : k ≤ 400) : run PP n 21 [.int (q : Int), fq x, .int (k : Int)] = .ok (.sh (fT (Wj x q k))) := by
  have hZ : 1 ≤ n := by omega
  obtain ⟨m, rfl⟩ := one_more hZ
  exact run_at d_walk_bounds rfl rfl (wb_run (lks_a (by omega)) (wd_a (by omega)) hx n2 n7 ((brow_D hx (by omega) n7 0).mono (by decide)) hk)
theorem rn_a {n : Nat} (h : 6 ≤ n) {x l : Rat} (hx : XR x) {q : Nat} (n2 : 2 ≤ q) (n7 : q < 8) {Xd Ld : D} (hX : IsXQ Xd x) (hL : IsQ Ld l) (bl : Bd 3000 l) {k : Nat} (hk : k ≤ 300) (h1 : gm (Dj x q k) ≤ l) (h2 : ∀ j, j < k → ¬ gm (Dj x q j) ≤ l) : run PP n 22 [.int (q : Int), Xd, Ld] = .ok (.sh (.int (k : Int))) := by
  have hZ : 1 ≤ n := by omega
  obtain ⟨m, rfl⟩ := one_more hZ
  exact run_at d_rounds_needed rfl rfl (rn_run (ev_a (by omega)) (lof_a (by omega)) (cq_a (by omega)) (sr_a (by omega)) hx n2 n7 hX hL bl (fun j hj => (brow_D hx (by omega) n7 j).mono (by omega)) (by decide) hk h1 h2)
theorem wh_b {n : Nat} (h : 1 ≤ n) (i : Int) : run PP n 23 [.int i] = .ok (.sh (.bl true)) := by
  have hZ : 1 ≤ n := by omega
  obtain ⟨m, rfl⟩ := one_more hZ
  exact run_at d__law_whole rfl rfl (whole_int i)
theorem isf_b {n : Nat} (h : 2 ≤ n) (q : Rat) : run PP n 28 [fq q] = .ok (.sh (.bl true)) := by
  have hZ : 1 ≤ n := by omega
  obtain ⟨m, rfl⟩ := one_more hZ
  exact run_at d__law_is_fraction rfl rfl (isfrac_run (fun i => wh_b (by omega) i) (gc_b (by omega)) q)
theorem tp_b {n : Nat} (h : 1 ≤ n) : TpOk (run PP n) 34 := by
  have hZ : 1 ≤ n := by omega
  obtain ⟨m, rfl⟩ := one_more hZ
  exact fun x q j hx n2 n7 hj => run_at d__law_lack_tops rfl rfl (tp_run hx n2 n7 hj)
theorem rd_b {n : Nat} (h : 1 ≤ n) : RdOk (run PP n) 32 := by
  have hZ : 1 ≤ n := by omega
  obtain ⟨m, rfl⟩ := one_more hZ
  exact fun x q j hx n2 n7 hj => run_at d__law_round rfl rfl (rd_run hx n2 n7 hj)
theorem wi_b {n : Nat} (h : 1 ≤ n) : WiOk (run PP n) 33 := by
  have hZ : 1 ≤ n := by omega
  obtain ⟨m, rfl⟩ := one_more hZ
  exact fun x q j hx n2 n7 hj => run_at d__law_walked rfl rfl (wi_run hx n2 n7 hj)
theorem co_b {n : Nat} (h : 2 ≤ n) {x l : Rat} (X : XR x) {q : Nat} (n2 : 2 ≤ q) (n6 : q ≤ 6) (bl : Bd 3000 l) (hl : (1 : Rat) / 1000 ≤ l) {m : Nat} (hm : m ≤ 6) : ∃ T, T ≤ 300 ∧ m ≤ T ∧ gm (Wj x q T) ≤ l ∧ run PP n 36 [.int (q : Int), fq x, fq l, .int (m : Int)] = .ok (.sh (coD x q T)) := by
  have hZ : 1 ≤ n := by omega
  obtain ⟨mm, rfl⟩ := one_more hZ
  obtain ⟨T, t1, t2, t3, e⟩ := co_run (Φ := run PP mm) (pw_b (by omega)) (tp_b (by omega)) (rd_b (by omega)) (wi_b (by omega)) X n2 n6 bl (by decide) hl hm
  exact ⟨T, t1, t2, t3, run_at d__law_course rfl rfl e⟩
theorem fi1_b {n : Nat} (h : 1 ≤ n) {x l : Rat} (X : XR x) {q T : Nat} (n2 : 2 ≤ q) (n7 : q < 8) (hT : T ≤ 300) (bl : Bd 3000 l) (ex : ∃ j, j ≤ T ∧ gm (Dj x q j) ≤ l) : ∃ h : Nat, h ≤ T ∧ gm (Dj x q h) ≤ l ∧ (∀ j, j < h → ¬ gm (Dj x q j) ≤ l) ∧ run PP n 37 [.lst (cE x q T zD), fq l] = .ok (.sh (.int (h : Int))) := by
  have hZ : 1 ≤ n := by omega
  obtain ⟨m, rfl⟩ := one_more hZ
  obtain ⟨k, k1, k2, k3, e⟩ := first_run (Φ := run PP m) (z := zD x q) (v := vj x q) (m := fun j => gm (Dj x q j)) (A := 3000) (isQ l) (by omega) (fun j => vj_pos X (by omega) (by omega) j) (fun j => zD_eq X (by omega) (by omega) j) (fun j hj => lt_pow (zD_bd X (by omega) n7 j) (by omega)) (fun j hj => lt_pow (vj_bd X (by omega) n7 j) (by omega)) bl (by decide) ex
  exact ⟨k, k1, k2, k3, run_at d__law_first rfl rfl e⟩
theorem fi2_b {n : Nat} (h : 1 ≤ n) {x l : Rat} (X : XR x) {q T : Nat} (n2 : 2 ≤ q) (n7 : q < 8) (hT : T ≤ 300) (bl : Bd 3000 l) (ex : ∃ j, j ≤ T ∧ gm (Wj x q j) ≤ l) : ∃ h : Nat, h ≤ T ∧ gm (Wj x q h) ≤ l ∧ (∀ j, j < h → ¬ gm (Wj x q j) ≤ l) ∧ run PP n 37 [.lst (cE x q T zW), fq l] = .ok (.sh (.int (h : Int))) := by
  have hZ : 1 ≤ n := by omega
  obtain ⟨m, rfl⟩ := one_more hZ
  obtain ⟨k, k1, k2, k3, e⟩ := first_run (Φ := run PP m) (z := zW x q) (v := vj x q) (m := fun j => gm (Wj x q j)) (A := 3000) (isQ l) (by omega) (fun j => vj_pos X (by omega) (by omega) j) (fun j => zW_eq X (by omega) (by omega) j) (fun j hj => lt_pow (zW_bd X (by omega) n7 j) (by omega)) (fun j hj => lt_pow (vj_bd X (by omega) n7 j) (by omega)) bl (by decide) ex
  exact ⟨k, k1, k2, k3, run_at d__law_first rfl rfl e⟩
theorem mt1_b {n : Nat} (h : 3 ≤ n) {x : Rat} (X : XR x) {q j : Nat} (n2 : 2 ≤ q) (n7 : q < 8) (hj : j ≤ 300) : run PP n 38 [fT (Dj x q j), .int (q : Int), eD (zD x q) (vj x q) j] = .ok (.sh (.bl true)) := by
  have hZ : 1 ≤ n := by omega
  obtain ⟨m, rfl⟩ := one_more hZ
  exact run_at d__law_most_told rfl rfl (mt_run (A := 3000) (fun y => isf_b (by omega) y) (Dj_len x q j) (fun y hy => (Dj_01 X (by omega) (by omega) j y hy).1) (vj_pos X (by omega) (by omega) j) (zD_eq X (by omega) (by omega) j) (lt_pow (zD_bd X (by omega) n7 j) (by omega)) (lt_pow (vj_bd X (by omega) n7 j) (by omega)) (fun y hy => bd_up ((brow_D X (by omega) n7 j).bd hy) (by omega)) (by decide))
theorem mt2_b {n : Nat} (h : 3 ≤ n) {x : Rat} (X : XR x) {q j : Nat} (n2 : 2 ≤ q) (n7 : q < 8) (hj : j ≤ 300) : run PP n 38 [fT (Wj x q j), .int (q : Int), eD (zW x q) (vj x q) j] = .ok (.sh (.bl true)) := by
  have hZ : 1 ≤ n := by omega
  obtain ⟨m, rfl⟩ := one_more hZ
  exact run_at d__law_most_told rfl rfl (mt_run (A := 3000) (fun y => isf_b (by omega) y) (Wj_len x q j (by omega)) (fun y hy => (Wj_01 X (by omega) (by omega) j y hy).1) (vj_pos X (by omega) (by omega) j) (zW_eq X (by omega) (by omega) j) (lt_pow (zW_bd X (by omega) n7 j) (by omega)) (lt_pow (vj_bd X (by omega) n7 j) (by omega)) (fun y hy => bd_up ((brow_W X (by omega) n7 j).bd hy) (by omega)) (by decide))
end L_onewarmth_k75_walk_bounds_whole
end

section
set_option Elab.async false
set_option linter.all false
set_option maxRecDepth 100000
set_option exponentiation.threshold 5000
/-! printed by gen75.py: the law of k75, in stages -/
namespace L_onewarmth_k75_walk_bounds_whole
open R R.V R.N
def szN : List Int := [5, 9, 20, 20, 8, 6, 7]
def lN0 : List S := [.set 1 (.call 25 [(.call 24 [(.var 0), (.int 1)]), (.lst [(.int 5), (.int 9), (.int 20), (.int 20), (.int 8), (.int 6), (.int 7)])]), .set 2 (.op .add (.int 2) (.idx (.var 1) (.int 0))), .set 3 (.idx (.lst [(.tup [(.int 1), (.int 2)]), (.tup [(.int 1), (.int 3)]), (.tup [(.int 2), (.int 3)]), (.tup [(.int 1), (.int 1)]), (.tup [(.int 3), (.int 4)]), (.tup [(.int 1), (.int 10)]), (.tup [(.int 4), (.int 5)]), (.tup [(.int 1), (.int 20)]), (.tup [(.int 0), (.int 1)])]) (.idx (.var 1) (.int 1))), .ifs (.op .eq (.idx (.var 1) (.int 1)) (.int 8)) [.set 3 (.call 27 [(.op .add (.int 1) (.bi .min2 [(.idx (.var 1) (.int 2)), (.idx (.var 1) (.int 3))])), (.op .add (.int 1) (.bi .max2 [(.idx (.var 1) (.int 2)), (.idx (.var 1) (.int 3))]))])] []]
def lNB : List S := [.set 4 (.idx (.lst [(.tup [(.int 1), (.int 2)]), (.tup [(.int 1), (.int 5)]), (.tup [(.int 1), (.int 10)]), (.tup [(.int 1), (.int 50)]), (.tup [(.int 1), (.int 100)]), (.tup [(.int 1), (.int 1000)]), (.tup [(.int 1), (.int 300)]), (.tup [(.int 1), (.int 3)])]) (.idx (.var 1) (.int 4))), .set 5 (.call 36 [(.var 2), (.var 3), (.var 4), (.idx (.var 1) (.int 6))]), .set 6 (.idx (.idx (.var 5) (.int 0)) (.idx (.var 1) (.int 6)))]
def lNC : List S := [.ifs (.and (.op .lt (.idx (.var 1) (.int 5)) (.int 3)) (.op .ge (.op .mul (.idx (.var 6) (.int 0)) (.int 900)) (.idx (.var 6) (.int 1)))) [.set 4 (.call 27 [(.idx (.var 6) (.int 0)), (.idx (.var 6) (.int 1))]), .ifs (.op .eq (.idx (.var 1) (.int 5)) (.int 2)) [.set 4 (.call 29 [(.var 4), (.tup [(.int 1), (.int 100000)])])] [], .set 5 (.call 36 [(.var 2), (.var 3), (.var 4), (.idx (.var 1) (.int 6))])] []]
def lND : List S := [.set 7 (.call 37 [(.idx (.var 5) (.int 0)), (.var 4)]), .set 8 (.call 37 [(.idx (.var 5) (.int 1)), (.var 4)]), .ifs (.or (.op .gt (.var 7) (.var 8)) (.not (.call 31 [(.call 22 [(.var 2), (.bi .list [(.var 3)]), (.bi .list [(.var 4)])]), (.var 7)]))) [.ret (.bl false)] [], .ifs (.not (.call 38 [(.call 19 [(.var 2), (.var 3), (.var 7)]), (.var 2), (.idx (.idx (.var 5) (.int 0)) (.var 7))])) [.ret (.bl false)] [], .ifs (.and (.op .gt (.var 7) (.int 0)) (.not (.call 38 [(.call 19 [(.var 2), (.var 3), (.op .sub (.var 7) (.int 1))]), (.var 2), (.idx (.idx (.var 5) (.int 0)) (.op .sub (.var 7) (.int 1)))]))) [.ret (.bl false)] [], .ret (.call 38 [(.call 21 [(.var 2), (.var 3), (.var 8)]), (.var 2), (.idx (.idx (.var 5) (.int 1)) (.var 8))])]
theorem stlN {n : Nat} (h : 8 ≤ n) {a : D} {c : Int} {row : List Int} (hc : run PP n 24 [a, .int 1] = .ok (.sh (.int c))) (hd : run PP n 25 [.int c, .lst (szN.map .int)] = .ok (.sh (.lst (row.map .int)))) (hr : InB row szN) :
    ∃ (q : Nat) (x : Rat), 2 ≤ q ∧ q ≤ 6 ∧ XR x ∧ exSs (run PP n) lN0 ⟨[(some (.sh a)), none, none, none, none, none, none, none, none], []⟩ = .nx ⟨[(some (.sh a)), (some (.sh (.lst (row.map .int)))), (some (.sh (.int (q : Int)))), (some (.sh (fq x))), none, none, none, none, none], []⟩ := by
  obtain ⟨r0, e0, b0⟩ := InB.get hr (k := 0) (s := 5) rfl
  obtain ⟨r1, e1, b1⟩ := InB.get hr (k := 1) (s := 9) rfl
  obtain ⟨r2, e2, b2⟩ := InB.get hr (k := 2) (s := 20) rfl
  obtain ⟨r3, e3, b3⟩ := InB.get hr (k := 3) (s := 20) rfl
  have i0 : ixR (.lst (row.map .int)) (.int 0) = .ok (.int r0) := ixRow e0
  have i1 : ixR (.lst (row.map .int)) (.int 1) = .ok (.int r1) := ixRow e1
  have i2 : ixR (.lst (row.map .int)) (.int 2) = .ok (.int r2) := ixRow e2
  have i3 : ixR (.lst (row.map .int)) (.int 3) = .ok (.int r3) := ixRow e3
  have e4 : szN.map D.int = [.int 5, .int 9, .int 20, .int 20, .int 8, .int 6, .int 7] := rfl
  rw [e4] at hd
  have f7 : (7 : Nat) ≤ LINE := len_le (by decide)
  have f9 : (9 : Nat) ≤ LINE := len_le (by decide)
  obtain ⟨q, hq⟩ : ∃ q : Nat, 2 + r0 = (q : Int) := ⟨(2 + r0).toNat, by omega⟩
  obtain ⟨dx, hm, hx⟩ := menuX b1.1 b1.2
  unfold menuD at hm
  by_cases h8 : r1 = 8
  · subst h8
    have mn : bi .min2 [.int r2, .int r3] = .ok (.int (min r2 r3)) := rfl
    have mx : bi .max2 [.int r2, .int r3] = .ok (.int (max r2 r3)) := rfl
    have fr := fr_b (n := n) (by omega) (1 + min r2 r3) (1 + max r2 r3) 6 6 (by omega) (by omega) (by decide) (by omega) (by decide)
    rw [fq_div (by omega)] at fr
    have xo := xr_frac (t := 1 + min r2 r3) (b := 1 + max r2 r3) (by omega) (by omega) (xok_gcd (by omega) (by omega) (by omega) (by omega))
    refine ⟨q, _, by omega, by omega, xo, ?_⟩
    generalize ((1 + min r2 r3 : Int) : Rat) / ((1 + max r2 r3 : Int) : Rat) = G1 at *
    generalize fq G1 = FG at *
    generalize min r2 r3 = MN at *
    generalize max r2 r3 = MX at *
    generalize row.map D.int = RM at *
    simp -implicitDefEqProofs [lN0, hc, f7, f9, hd, i0, i1, i2, i3, hq, hm, mn, mx, fr, two_le_LINE]
  · obtain ⟨x, rfl, xr⟩ := hx h8
    refine ⟨q, x, by omega, by omega, xr, ?_⟩
    have h8' : (r1 == 8) = false := by simp [h8]
    generalize fq x = FG at *
    generalize row.map D.int = RM at *
    simp -implicitDefEqProofs [lN0, hc, f7, f9, hd, i0, i1, hq, hm, h8, h8', two_le_LINE]
def menuL : D := .lst [.tup [.int 1, .int 2], .tup [.int 1, .int 5], .tup [.int 1, .int 10], .tup [.int 1, .int 50], .tup [.int 1, .int 100], .tup [.int 1, .int 1000], .tup [.int 1, .int 300], .tup [.int 1, .int 3]]
theorem lackX {r : Int} (h0 : 0 ≤ r) (h1 : r < 8) : ∃ l : Rat, ixR menuL (.int r) = .ok (fq l) ∧ (1 : Rat) / 1000 ≤ l ∧ Bd 10 l := by
  have : r = 0 ∨ r = 1 ∨ r = 2 ∨ r = 3 ∨ r = 4 ∨ r = 5 ∨ r = 6 ∨ r = 7 := by omega
  have go : ∀ (b r : Int), ixR menuL (.int r) = .ok (.tup [.int 1, .int b]) → gcdI 1 b = 1 → 0 < b → b < 1024 → (1 : Rat) / 1000 ≤ ((1 : Int) : Rat) / (b : Rat) → ∃ l : Rat, ixR menuL (.int r) = .ok (fq l) ∧ (1 : Rat) / 1000 ≤ l ∧ Bd 10 l := fun b r e g b0 b1 le => by
    have f := fq_half (t := 1) (b := b) g b0
    refine ⟨_, by rw [e, f], le, ?_⟩
    unfold fq at f
    injection f with f
    injection f with f1 f2
    injection f2 with f2 f3
    injection f1 with f1
    injection f2 with f2
    exact ⟨by omega, by omega⟩
  rcases this with rfl | rfl | rfl | rfl | rfl | rfl | rfl | rfl
  · exact go 2 _ rfl (by decide) (by decide) (by decide) (by decide +kernel)
  · exact go 5 _ rfl (by decide) (by decide) (by decide) (by decide +kernel)
  · exact go 10 _ rfl (by decide) (by decide) (by decide) (by decide +kernel)
  · exact go 50 _ rfl (by decide) (by decide) (by decide) (by decide +kernel)
  · exact go 100 _ rfl (by decide) (by decide) (by decide) (by decide +kernel)
  · exact go 1000 _ rfl (by decide) (by decide) (by decide) (by decide +kernel)
  · exact go 300 _ rfl (by decide) (by decide) (by decide) (by decide +kernel)
  · exact go 3 _ rfl (by decide) (by decide) (by decide) (by decide +kernel)
section
variable {n : Nat} {a : D} {row : List Int} {q : Nat} {x : Rat}
theorem ix_co0 (x : Rat) (q T : Nat) : ixR (coD x q T) (.int 0) = .ok (.lst (cE x q T zD)) := rfl
theorem ix_co1 (x : Rat) (q T : Nat) : ixR (coD x q T) (.int 1) = .ok (.lst (cE x q T zW)) := rfl
theorem ix_cE {x : Rat} {q T j : Nat} {z : Rat → Nat → Nat → Int} (h : j ≤ T) : ixR (.lst (cE x q T z)) (.int (j : Int)) = .ok (eD (z x q) (vj x q) j) := ix_at (by unfold cE; rw [List.getElem?_map, List.getElem?_range (by omega)]; rfl)
theorem stNB (h : 8 ≤ n) (hr : InB row szN) (q2 : 2 ≤ q) (q6 : q ≤ 6) (hx : XR x) :
    ∃ (l : Rat) (m T : Nat), (1 : Rat) / 1000 ≤ l ∧ Bd 10 l ∧ m ≤ 6 ∧ row[6]? = some (m : Int) ∧ T ≤ 300 ∧ m ≤ T ∧ gm (Wj x q T) ≤ l ∧ exSs (run PP n) lNB ⟨[(some (.sh a)), (some (.sh (.lst (row.map .int)))), (some (.sh (.int (q : Int)))), (some (.sh (fq x))), none, none, none, none, none], []⟩ = .nx ⟨[(some (.sh a)), (some (.sh (.lst (row.map .int)))), (some (.sh (.int (q : Int)))), (some (.sh (fq x))), (some (.sh (fq l))), (some (.sh (coD x q T))), (some (.sh (eD (zD x q) (vj x q) m))), none, none], []⟩ := by
  obtain ⟨r4, e4, b4⟩ := InB.get hr (k := 4) (s := 8) rfl
  obtain ⟨r6, e6, b6⟩ := InB.get hr (k := 6) (s := 7) rfl
  obtain ⟨m, rfl⟩ : ∃ m : Nat, r6 = (m : Int) := ⟨r6.toNat, by omega⟩
  have i4 : ixR (.lst (row.map .int)) (.int 4) = .ok (.int r4) := ixRow e4
  have i6 : ixR (.lst (row.map .int)) (.int 6) = .ok (.int (m : Int)) := ixRow e6
  obtain ⟨l, hl, l1, lb⟩ := lackX b4.1 b4.2
  unfold menuL at hl
  obtain ⟨T, t1, t2, t3, co⟩ := co_b (n := n) (by omega) hx q2 q6 (l := l) (bd_up lb (by decide)) l1 (m := m) (by omega)
  refine ⟨l, m, T, l1, lb, by omega, e6, t1, t2, t3, ?_⟩
  have c0 := ix_co0 x q T
  have c1 := ix_cE (x := x) (q := q) (z := zD) t2
  have f8 : (8 : Nat) ≤ LINE := len_le (by decide)
  unfold lNB
  generalize coD x q T = CO at *
  generalize D.lst (cE x q T zD) = CE at *
  generalize eD (zD x q) (vj x q) m = ED at *
  generalize fq l = FL at *
  generalize fq x = FX at *
  generalize row.map D.int = RM at *
  simp -implicitDefEqProofs [i4, i6, hl, co, c0, c1, f8, two_le_LINE]
theorem stNC (h : 8 ≤ n) (hr : InB row szN) (q2 : 2 ≤ q) (q6 : q ≤ 6) (hx : XR x) {l : Rat} {m T : Nat} (l1 : (1 : Rat) / 1000 ≤ l) (lb : Bd 10 l) (m6 : m ≤ 6) (e6 : row[6]? = some (m : Int)) (t1 : T ≤ 300) (t2 : m ≤ T) (t3 : gm (Wj x q T) ≤ l) :
    ∃ (l' : Rat) (T' : Nat) (E : D), (1 : Rat) / 1000 ≤ l' ∧ Bd 200 l' ∧ T' ≤ 300 ∧ gm (Wj x q T') ≤ l' ∧ exSs (run PP n) lNC ⟨[(some (.sh a)), (some (.sh (.lst (row.map .int)))), (some (.sh (.int (q : Int)))), (some (.sh (fq x))), (some (.sh (fq l))), (some (.sh (coD x q T))), (some (.sh (eD (zD x q) (vj x q) m))), none, none], []⟩ = .nx ⟨[(some (.sh a)), (some (.sh (.lst (row.map .int)))), (some (.sh (.int (q : Int)))), (some (.sh (fq x))), (some (.sh (fq l'))), (some (.sh (coD x q T'))), (some (.sh E)), none, none], []⟩ := by
  obtain ⟨r5, e5, b5⟩ := InB.get hr (k := 5) (s := 6) rfl
  have i5 : ixR (.lst (row.map .int)) (.int 5) = .ok (.int r5) := ixRow e5
  have i6 : ixR (.lst (row.map .int)) (.int 6) = .ok (.int (m : Int)) := ixRow e6
  have h0 : 0 < q := by omega
  have vp := vj_pos hx h0 (show q ≤ 8 by omega) m
  have ez := zD_eq hx h0 (show q ≤ 8 by omega) m
  have bz : (zD x q m).natAbs < 2 ^ 93 := lt_pow (zD_bd hx h0 (by omega) m) (by omega)
  have bv : (vj x q m).natAbs < 2 ^ 93 := lt_pow (vj_bd hx h0 (by omega) m) (by omega)
  have m1 := opm (i := zD x q m) (j := 900) (A := 93) (B := 10) bz (by decide) (by decide)
  have j0 : ixR (eD (zD x q) (vj x q) m) (.int 0) = .ok (.int (zD x q m)) := rfl
  have j1 : ixR (eD (zD x q) (vj x q) m) (.int 1) = .ok (.int (vj x q m)) := rfl
  by_cases c5 : r5 < 3
  · by_cases c9 : vj x q m ≤ zD x q m * 900
    · -- the exact lack
      have g9 : (1 : Rat) / 900 ≤ gm (Dj x q m) := by
        have v0 := pos_q vp
        have : ((vj x q m : Int) : Rat) ≤ ((zD x q m * 900 : Int) : Rat) := Rat.intCast_le_intCast.mpr c9
        rw [Rat.intCast_mul, ez] at this
        have e9 : ((900 : Int) : Rat) = 900 := rfl
        rw [e9] at this
        have : 1 * ((vj x q m : Int) : Rat) ≤ (gm (Dj x q m) * 900) * ((vj x q m : Int) : Rat) := by grind
        have := Rat.le_of_mul_le_mul_right this v0
        grind
      have fr := fr_b (n := n) (by omega) (zD x q m) (vj x q m) 93 93 vp bv (by decide) bz (by decide)
      rw [fq_div vp, Sc.frac vp ez] at fr
      have bg : Bd 100 (gm (Dj x q m)) := by
        have ne : Dj x q m ≠ [] := fun e => by
          have := Dj_len x q m
          rw [e] at this
          simp at this
        exact bd_up ((brow_D hx h0 (by omega) m).bd (gm_mem ne fun y hy => (Dj_01 hx h0 (by omega) m y hy).1)) (by omega)
      by_cases c2 : r5 = 2
      · have e100 : D.tup [.int 1, .int 100000] = fq (((1 : Int) : Rat) / ((100000 : Int) : Rat)) := fq_half (t := 1) (b := 100000) (by decide +kernel) (by decide)
        have b100 : Bd 20 (((1 : Int) : Rat) / ((100000 : Int) : Rat)) := by
          unfold fq at e100
          injection e100 with f
          injection f with f1 f2
          injection f2 with f2 f3
          injection f1 with f1
          injection f2 with f2
          exact ⟨by omega, by omega⟩
        have c100 : (1 : Rat) / 1000 ≤ 1 / 900 - ((1 : Int) : Rat) / ((100000 : Int) : Rat) := by decide +kernel
        generalize ((1 : Int) : Rat) / ((100000 : Int) : Rat) = y at *
        have su := su_b (n := n) (by omega) 100 (gm (Dj x q m)) y bg (bd_up b100 (by decide)) (by decide)
        have l2 : (1 : Rat) / 1000 ≤ gm (Dj x q m) - y := by grind
        have bl2 : Bd 200 (gm (Dj x q m) - y) := by
          have d0 : 0 < (gm (Dj x q m)).den * y.den := Nat.mul_pos (Rat.den_pos _) (Rat.den_pos _)
          have e : gm (Dj x q m) - y = (((gm (Dj x q m)).num * y.den - y.num * (gm (Dj x q m)).den : Int) : Rat) / ((((gm (Dj x q m)).den * y.den : Nat) : Int) : Rat) := by
            have h1 := q_eq (gm (Dj x q m))
            have h2 := q_eq y
            have h3 := den_ne (gm (Dj x q m))
            have h4 := den_ne y
            rw [Int.natCast_mul, Rat.intCast_sub, Rat.intCast_mul, Rat.intCast_mul, Rat.intCast_mul]
            grind
          refine Ov.bd ⟨_, e, ?_⟩ d0 ?_
          · exact lt_pow (natAbs_sub_lt (natAbs_mul_lt' bg.1 (natAbs_lt' b100.2)) (lt_pow (natAbs_mul_lt' b100.1 (natAbs_lt' bg.2)) (by decide))) (show 100 + 20 + 1 ≤ 200 by decide)
          · exact lt_pow (by rw [Nat.pow_add]; exact Nat.mul_lt_mul'' bg.2 b100.2) (show 100 + 20 ≤ 200 by decide)
        obtain ⟨T', u1, u2, u3, co⟩ := co_b (n := n) (by omega) hx q2 q6 (l := gm (Dj x q m) - y) (bd_up bl2 (by decide)) l2 (m := m) m6
        refine ⟨_, T', eD (zD x q) (vj x q) m, l2, bl2, u1, u3, ?_⟩
        subst c2
        rw [← e100] at su
        unfold lNC
        generalize coD x q T = CO at *
        generalize coD x q T' = CO2 at *
        generalize eD (zD x q) (vj x q) m = ED at *
        generalize zD x q m = ZD at *
        generalize vj x q m = VJ at *
        generalize fq (gm (Dj x q m) - y) = FL2 at *
        generalize fq (gm (Dj x q m)) = FL1 at *
        generalize fq l = FL at *
        generalize fq x = FX at *
        generalize row.map D.int = RM at *
        simp -implicitDefEqProofs [i5, i6, j0, j1, m1, c9, fr, su, co, two_le_LINE]
      · have l2 : (1 : Rat) / 1000 ≤ gm (Dj x q m) := by
          have : (1 : Rat) / 1000 ≤ 1 / 900 := by decide +kernel
          grind
        obtain ⟨T', u1, u2, u3, co⟩ := co_b (n := n) (by omega) hx q2 q6 (l := gm (Dj x q m)) (bd_up bg (by decide)) l2 (m := m) m6
        refine ⟨_, T', eD (zD x q) (vj x q) m, l2, bd_up bg (by decide), u1, u3, ?_⟩
        have c2' : (r5 == 2) = false := by simp [c2]
        unfold lNC
        generalize coD x q T = CO at *
        generalize coD x q T' = CO2 at *
        generalize eD (zD x q) (vj x q) m = ED at *
        generalize zD x q m = ZD at *
        generalize vj x q m = VJ at *
        generalize fq (gm (Dj x q m)) = FL1 at *
        generalize fq l = FL at *
        generalize fq x = FX at *
        generalize row.map D.int = RM at *
        simp -implicitDefEqProofs [i5, i6, j0, j1, m1, c5, c9, c2, c2', fr, co, two_le_LINE]
    · refine ⟨l, T, eD (zD x q) (vj x q) m, l1, bd_up lb (by decide), t1, t3, ?_⟩
      unfold lNC
      generalize coD x q T = CO at *
      generalize eD (zD x q) (vj x q) m = ED at *
      generalize zD x q m = ZD at *
      generalize vj x q m = VJ at *
      generalize fq l = FL at *
      generalize fq x = FX at *
      generalize row.map D.int = RM at *
      simp -implicitDefEqProofs [i5, j0, j1, m1, c5, c9]
  · refine ⟨l, T, eD (zD x q) (vj x q) m, l1, bd_up lb (by decide), t1, t3, ?_⟩
    unfold lNC
    generalize coD x q T = CO at *
    generalize eD (zD x q) (vj x q) m = ED at *
    generalize fq l = FL at *
    generalize fq x = FX at *
    generalize row.map D.int = RM at *
    simp -implicitDefEqProofs [i5, c5]
theorem stND (h : 9 ≤ n) (q2 : 2 ≤ q) (q6 : q ≤ 6) (hx : XR x) {l : Rat} {T : Nat} {E : D} (lb : Bd 200 l) (t1 : T ≤ 300) (t3 : gm (Wj x q T) ≤ l) : exSs (run PP n) lND ⟨[(some (.sh a)), (some (.sh (.lst (row.map .int)))), (some (.sh (.int (q : Int)))), (some (.sh (fq x))), (some (.sh (fq l))), (some (.sh (coD x q T))), (some (.sh E)), none, none], []⟩ = .rt (.sh (.bl true)) := by
  have h0 : 0 < q := by omega
  have q7 : q < 8 := by omega
  have dw := fun j => gm_D_W hx h0 (show q ≤ 8 by omega) j
  obtain ⟨u, u1, u2, u3, fu⟩ := fi1_b (n := n) (by omega) hx q2 q7 t1 (l := l) (bd_up lb (by decide)) ⟨T, Nat.le_refl _, by have := dw T; grind⟩
  obtain ⟨v, v1, v2, v3, fv⟩ := fi2_b (n := n) (by omega) hx q2 q7 t1 (l := l) (bd_up lb (by decide)) ⟨T, Nat.le_refl _, t3⟩
  have uv : u ≤ v := by
    rcases Nat.lt_or_ge v u with g | g
    · exact absurd (by have := dw v; grind) (u3 v g)
    · exact g
  have rn := rn_a (n := n) (by omega) hx q2 q7 (Xd := fqL x) (Ld := fqL l) (isXQL x) (isQL l) (bd_up lb (by decide)) (k := u) (by omega) u2 u3
  have sa := same_b (n := n) 0 (.int (u : Int)) rfl (by omega)
  have e0 : (D.int (u : Int)).tupd = .int (u : Int) := rfl
  rw [e0] at sa
  have lx : bi .list [fq x] = .ok (fqL x) := rfl
  have ll : bi .list [fq l] = .ok (fqL l) := rfl
  have c0 := ix_co0 x q T
  have c1 := ix_co1 x q T
  have d1 := ix_cE (x := x) (q := q) (z := zD) u1
  have d3 := ix_cE (x := x) (q := q) (z := zW) v1
  have k1 := lks_a (n := n) (by omega) x q u (fq x) hx (isXQ x) q2 q7 (by omega)
  have m1 := mt1_b (n := n) (by omega) hx q2 q7 (j := u) (by omega)
  have w1 := wb_a (n := n) (by omega) hx q2 q7 (k := v) (by omega)
  have m3 := mt2_b (n := n) (by omega) hx q2 q7 (j := v) (by omega)
  have nuv : ¬ (v : Int) < (u : Int) := by omega
  unfold lND
  rcases Nat.eq_zero_or_pos u with z | z
  · subst z
    rw [show ((0 : Nat) : Int) = 0 from rfl] at *
    generalize coD x q T = CO at *
    generalize D.lst (cE x q T zD) = CD at *
    generalize D.lst (cE x q T zW) = CW at *
    generalize eD (zD x q) (vj x q) 0 = ED0 at *
    generalize eD (zW x q) (vj x q) v = EW at *
    generalize fT (Dj x q 0) = FD0 at *
    generalize fT (Wj x q v) = FW at *
    generalize fqL x = FXL at *
    generalize fqL l = FLL at *
    generalize fq l = FL at *
    generalize fq x = FX at *
    generalize row.map D.int = RM at *
    simp -implicitDefEqProofs [c0, c1, fu, fv, nuv, lx, ll, rn, sa, k1, d1, m1, w1, d3, m3]
  · obtain ⟨p, rfl⟩ : ∃ p, u = p + 1 := ⟨u - 1, by omega⟩
    have d2 := ix_cE (x := x) (q := q) (z := zD) (j := p) (T := T) (by omega)
    have k2 := lks_a (n := n) (by omega) x q p (fq x) hx (isXQ x) q2 q7 (by omega)
    have m2 := mt1_b (n := n) (by omega) hx q2 q7 (j := p) (by omega)
    have zp : ((p + 1 : Nat) : Int) - 1 = (p : Int) := by omega
    have z0 : (0 : Int) < ((p + 1 : Nat) : Int) := by omega
    generalize coD x q T = CO at *
    generalize D.lst (cE x q T zD) = CD at *
    generalize D.lst (cE x q T zW) = CW at *
    generalize eD (zD x q) (vj x q) (p + 1) = ED1 at *
    generalize eD (zD x q) (vj x q) p = ED0 at *
    generalize eD (zW x q) (vj x q) v = EW at *
    generalize fT (Dj x q (p + 1)) = FD1 at *
    generalize fT (Dj x q p) = FD0 at *
    generalize fT (Wj x q v) = FW at *
    generalize fqL x = FXL at *
    generalize fqL l = FLL at *
    generalize fq l = FL at *
    generalize fq x = FX at *
    generalize row.map D.int = RM at *
    generalize ((p + 1 : Nat) : Int) = P1 at *
    simp -implicitDefEqProofs [c0, c1, fu, fv, nuv, lx, ll, rn, sa, k1, d1, m1, z0, zp, k2, d2, m2, w1, d3, m3]
theorem needed_ok {ns : List Int} (h : 10 ≤ n) (hn : ns.length ≤ 63) : run PP n 39 [.fz (ns.map .int)] = .ok (.sh (.bl true)) := by
  obtain ⟨k, rfl⟩ := one_more (show 1 ≤ n by omega)
  obtain ⟨c, row, a1, hr, a3⟩ := row_b (n := k) (by omega) (ns := ns) (by omega) (k := 1) (by decide) (sizes := szN) (sizesOk_of (by decide) (by decide))
  obtain ⟨q, x, q2, q6, hx, A⟩ := stlN (n := k) (by omega) a1 a3 hr
  obtain ⟨l, m, T, l1, lb, m6, e6, t1, t2, t3, B⟩ := stNB (n := k) (a := .fz (ns.map .int)) (by omega) hr q2 q6 hx
  obtain ⟨l', T', E, l1', lb', t1', t3', C⟩ := stNC (n := k) (a := .fz (ns.map .int)) (by omega) hr q2 q6 hx l1 lb m6 e6 t1 t2 t3
  have D := stND (n := k) (a := .fz (ns.map .int)) (row := row) (by omega) q2 q6 hx (E := E) lb' t1' t3'
  refine run_at (P := PP) (n := k) d__law_needed_holds rfl rfl ?_
  have eb : d__law_needed_holds.body = lN0 ++ (lNB ++ (lNC ++ lND)) := rfl
  have en : enter d__law_needed_holds.ns [.fz (ns.map .int)] = ⟨[(some (.sh (.fz (ns.map .int)))), none, none, none, none, none, none, none, none], []⟩ := rfl
  rw [eb, en, exSs_app, A, Out.nxt_nx, exSs_app, B, Out.nxt_nx, exSs_app, C, Out.nxt_nx, D]
  rfl
end
end L_onewarmth_k75_walk_bounds_whole
end

section
set_option Elab.async false
set_option linter.all false
set_option maxRecDepth 100000
set_option exponentiation.threshold 5000
/-! printed by gen75.py: the law of k75, in stages -/
namespace L_onewarmth_k75_walk_bounds_whole
open R R.V R.N
def szW : List Int := [5, 9, 20, 20, 13, 10, 41, 4]
def lW0 : List S := [.set 1 (.call 25 [(.call 24 [(.var 0), (.int 0)]), (.lst [(.int 5), (.int 9), (.int 20), (.int 20), (.int 13), (.int 10), (.int 41), (.int 4)])]), .set 2 (.op .add (.int 2) (.idx (.var 1) (.int 0))), .set 3 (.idx (.lst [(.tup [(.int 1), (.int 2)]), (.tup [(.int 1), (.int 3)]), (.tup [(.int 2), (.int 3)]), (.tup [(.int 1), (.int 1)]), (.tup [(.int 3), (.int 4)]), (.tup [(.int 1), (.int 10)]), (.tup [(.int 4), (.int 5)]), (.tup [(.int 1), (.int 20)]), (.tup [(.int 0), (.int 1)])]) (.idx (.var 1) (.int 1))), .ifs (.op .eq (.idx (.var 1) (.int 1)) (.int 8)) [.set 3 (.call 27 [(.op .add (.int 1) (.bi .min2 [(.idx (.var 1) (.int 2)), (.idx (.var 1) (.int 3))])), (.op .add (.int 1) (.bi .max2 [(.idx (.var 1) (.int 2)), (.idx (.var 1) (.int 3))]))])] []]
def lWB : List S := [.set 4 (.idx (.var 1) (.int 4)), .ifs (.and (.op .eq (.idx (.var 1) (.int 5)) (.int 0)) (.op .lt (.idx (.var 3) (.int 1)) (.int 5))) [.set 4 (.idx (.var 1) (.int 6)), .ifs (.op .eq (.idx (.var 1) (.int 7)) (.int 0)) [.set 4 (.op .sub (.int 200) (.idx (.var 1) (.int 6)))] []] []]
def lWC : List S := [.set 5 (.comp .r1 [18] [(.var 2)] [] (.op .mul (.call 30 [(.idx (.var 3) (.int 0)), (.var 18)]) (.call 30 [(.idx (.var 3) (.int 1)), (.op .sub (.op .sub (.var 2) (.int 1)) (.var 18))]))), .set 6 (.bi .sum [(.var 5)]), .set 7 (.comp .r1 [13] [(.var 2)] [] (.int 1)), .set 8 (.var 2), .set 9 (.call 34 [(.var 5), (.var 7), (.var 8)]), .set 10 (.bi .list [(.var 9)])]
def lWD : List S := [.fr .r1 [11] [(.var 4)] [.set 7 (.call 32 [(.var 7), (.var 3)]), .set 12 (.comp .seq [19] [(.var 9)] [] (.op .mul (.var 19) (.op .add (.idx (.var 3) (.int 0)) (.idx (.var 3) (.int 1))))), .set 8 (.op .mul (.var 8) (.op .add (.idx (.var 3) (.int 0)) (.idx (.var 3) (.int 1)))), .set 9 (.call 34 [(.var 5), (.var 7), (.var 8)]), .set 10 (.call 33 [(.var 10), (.var 3)]), .fr .r1 [13] [(.op .add (.var 2) (.int 1))] [.ifs (.or (.op .lt (.idx (.var 9) (.var 13)) (.int 0)) (.or (.op .gt (.idx (.var 9) (.var 13)) (.idx (.var 10) (.var 13))) (.op .gt (.idx (.var 9) (.var 13)) (.idx (.var 12) (.var 13))))) [.ret (.bl false)] []] [13]] [11, 12, 13]]
def lWE : List S := [.ifs (.or (.op .ne (.idx (.var 9) (.int 0)) (.int 0)) (.op .ne (.idx (.var 9) (.un .neg (.int 1))) (.int 0))) [.ret (.bl false)] []]
def lWF : List S := [.set 14 (.comp .seq [19] [(.var 9)] [] (.call 27 [(.var 19), (.op .mul (.var 8) (.var 6))])), .ifs (.not (.call 31 [(.call 19 [(.var 2), (.bi .list [(.var 3)]), (.var 4)]), (.var 14)])) [.ret (.bl false)] []]
def lWH : List S := [.ifs (.not (.call 31 [(.call 21 [(.var 2), (.var 3), (.var 4)]), (.comp .seq [19] [(.var 10)] [] (.call 27 [(.var 19), (.op .mul (.var 8) (.var 6))]))])) [.ret (.bl false)] []]
def lWI : List S := [.set 15 (.comp .seq [20] [(.var 7)] [] (.call 27 [(.var 20), (.var 8)]))]
def lWJ : List S := [.ifs (.not (.call 31 [(.call 17 [(.var 2), (.var 3)]), (.comp .seq [21] [(.var 5)] [] (.call 27 [(.var 21), (.var 6)]))])) [.ret (.bl false)] [], .ifs (.not (.call 31 [(.call 14 [(.var 2), (.var 3), (.var 4)]), (.var 15)])) [.ret (.bl false)] []]
def lWL : List S := [.set 16 (.comp .r1 [13] [(.op .add (.var 2) (.int 1))] [] (.call 27 [(.bi .sum [(.shi (.var 7) (.var 13))]), (.var 8)])), .set 17 (.comp .seq [20] [(.call 32 [(.var 7), (.var 3)])] [] (.call 27 [(.var 20), (.op .mul (.var 8) (.op .add (.idx (.var 3) (.int 0)) (.idx (.var 3) (.int 1))))]))]
def lWN : List S := [.ret (.and (.call 31 [(.call 9 [(.var 15)]), (.var 16)]) (.call 31 [(.call 12 [(.var 15), (.var 3)]), (.var 17)]))]
theorem stlW {n : Nat} (h : 8 ≤ n) {a : D} {c : Int} {row : List Int} (hc : run PP n 24 [a, .int 0] = .ok (.sh (.int c))) (hd : run PP n 25 [.int c, .lst (szW.map .int)] = .ok (.sh (.lst (row.map .int)))) (hr : InB row szW) :
    ∃ (q : Nat) (x : Rat), 2 ≤ q ∧ q ≤ 6 ∧ XR x ∧ exSs (run PP n) lW0 ⟨[(some (.sh a)), none, none, none, none, none, none, none, none, none, none, none, none, none, none, none, none, none, none, none, none, none], []⟩ = .nx ⟨[(some (.sh a)), (some (.sh (.lst (row.map .int)))), (some (.sh (.int (q : Int)))), (some (.sh (fq x))), none, none, none, none, none, none, none, none, none, none, none, none, none, none, none, none, none, none], []⟩ := by
  obtain ⟨r0, e0, b0⟩ := InB.get hr (k := 0) (s := 5) rfl
  obtain ⟨r1, e1, b1⟩ := InB.get hr (k := 1) (s := 9) rfl
  obtain ⟨r2, e2, b2⟩ := InB.get hr (k := 2) (s := 20) rfl
  obtain ⟨r3, e3, b3⟩ := InB.get hr (k := 3) (s := 20) rfl
  have i0 : ixR (.lst (row.map .int)) (.int 0) = .ok (.int r0) := ixRow e0
  have i1 : ixR (.lst (row.map .int)) (.int 1) = .ok (.int r1) := ixRow e1
  have i2 : ixR (.lst (row.map .int)) (.int 2) = .ok (.int r2) := ixRow e2
  have i3 : ixR (.lst (row.map .int)) (.int 3) = .ok (.int r3) := ixRow e3
  have e4 : szW.map D.int = [.int 5, .int 9, .int 20, .int 20, .int 13, .int 10, .int 41, .int 4] := rfl
  rw [e4] at hd
  have f7 : (8 : Nat) ≤ LINE := len_le (by decide)
  have f9 : (9 : Nat) ≤ LINE := len_le (by decide)
  obtain ⟨q, hq⟩ : ∃ q : Nat, 2 + r0 = (q : Int) := ⟨(2 + r0).toNat, by omega⟩
  obtain ⟨dx, hm, hx⟩ := menuX b1.1 b1.2
  unfold menuD at hm
  by_cases h8 : r1 = 8
  · subst h8
    have mn : bi .min2 [.int r2, .int r3] = .ok (.int (min r2 r3)) := rfl
    have mx : bi .max2 [.int r2, .int r3] = .ok (.int (max r2 r3)) := rfl
    have fr := fr_b (n := n) (by omega) (1 + min r2 r3) (1 + max r2 r3) 6 6 (by omega) (by omega) (by decide) (by omega) (by decide)
    rw [fq_div (by omega)] at fr
    have xo := xr_frac (t := 1 + min r2 r3) (b := 1 + max r2 r3) (by omega) (by omega) (xok_gcd (by omega) (by omega) (by omega) (by omega))
    refine ⟨q, _, by omega, by omega, xo, ?_⟩
    generalize ((1 + min r2 r3 : Int) : Rat) / ((1 + max r2 r3 : Int) : Rat) = G1 at *
    generalize fq G1 = FG at *
    generalize min r2 r3 = MN at *
    generalize max r2 r3 = MX at *
    generalize row.map D.int = RM at *
    simp -implicitDefEqProofs [lW0, hc, f7, f9, hd, i0, i1, i2, i3, hq, hm, mn, mx, fr, two_le_LINE]
  · obtain ⟨x, rfl, xr⟩ := hx h8
    refine ⟨q, x, by omega, by omega, xr, ?_⟩
    have h8' : (r1 == 8) = false := by simp [h8]
    generalize fq x = FG at *
    generalize row.map D.int = RM at *
    simp -implicitDefEqProofs [lW0, hc, f7, f9, hd, i0, i1, hq, hm, h8, h8', two_le_LINE]
theorem sc_q {v : Int} {N : List Int} {r : Row} (h : Sc v N r) (hv : 0 < v) : N.map (fun (z : Int) => (z : Rat) / (v : Rat)) = r := by
  have e : N.map (fun (z : Int) => (z : Rat) / (v : Rat)) = (N.map (fun (z : Int) => (z : Rat))).map (· / (v : Rat)) := by rw [List.map_map]; rfl
  have v0 := pos_q hv
  have n0 : (v : Rat) ≠ 0 := by grind
  unfold Sc at h
  rw [e, h, List.map_map]
  have g : ((fun (x : Rat) => x / (v : Rat)) ∘ fun x => x * (v : Rat)) = id := by
    funext y
    simp only [Function.comp, id]
    generalize (v : Rat) = V at *
    grind
  rw [g, List.map_id]
theorem sc_le {v : Int} {N M : List Int} {r s : Row} (h : Sc v N r) (g : Sc v M s) (hv : 0 < v) {k : Nat} (hn : k < N.length) (hm : k < M.length) (le : V.at_ r k ≤ V.at_ s k) : N.getD k 0 ≤ M.getD k 0 := by
  have v0 := pos_q hv
  have a := h.at_ hn
  have b := g.at_ hm
  have c := Rat.mul_le_mul_of_nonneg_right le (show 0 ≤ (v : Rat) by grind)
  rw [← a, ← b] at c
  exact Rat.intCast_le_intCast.mp c
theorem sc_times {v : Int} {N : List Int} {r : Row} (h : Sc v N r) (s : Int) : Sc (v * s) (N.map (· * s)) r := by
  unfold Sc at *
  have e : (N.map (· * s)).map (fun (z : Int) => (z : Rat)) = (N.map (fun (z : Int) => (z : Rat))).map (· * (s : Rat)) := by
    rw [List.map_map, List.map_map]
    apply List.map_congr_left
    intro z _
    simp only [Function.comp]
    rw [Rat.intCast_mul]
  rw [e, h, List.map_map]
  apply List.map_congr_left
  intro y _
  simp only [Function.comp]
  rw [Rat.intCast_mul]
  grind
theorem frac_comp {Φ : R.Or} {c t : Nat} (hc : FrOk Φ c) {src e : E} {Δ : List (Option D)} {v : Int} {N : List Int} {r : Row} {A : Nat} (h : Sc v N r) (hv : 0 < v) (bv : v.natAbs < 2 ^ A) (bn : ∀ z ∈ N, z.natAbs < 2 ^ A) (hA : A < 9000) (hl : N.length ≤ 1000) (es : ev Φ src Δ = .ok (.lst (N.map .int))) (ee : ∀ d, ev Φ e (Δ.set t (some d)) = .ok (.int v)) (ht : t < Δ.length) : ev Φ (.comp .seq [t] [src] [] (.call c [(.var t), e])) Δ = .ok (fL r) := by
  unfold fL
  rw [← sc_q h hv, List.map_map]
  refine comp_ok D.int _ ?_ (len_le (by omega)) fun z hz => ⟨(Δ.set t none).set t (some (.int z)), rfl, ?_⟩
  · rw [p_evs_cons1, p_evs_l0, es]
    rfl
  · rw [List.set_set]
    have e1 := ee (.int z)
    have ct : (Δ.set t (some (.int z)))[t]? = some (some (.int z)) := by rw [List.getElem?_set_self ht]
    have f := hc z v A A hv bv hA (bn z hz) (by omega)
    rw [fq_div hv] at f
    show _ = Res.ok (fq ((z : Rat) / (v : Rat)))
    generalize fq ((z : Rat) / (v : Rat)) = R1 at *
    simp -implicitDefEqProofs [ct, e1, f]
section
variable {n : Nat} {a : D} {row : List Int} {q j : Nat} {x : Rat}
theorem stWB (h : 8 ≤ n) (hr : InB row szW) : ∃ j : Nat, j ≤ 200 ∧ exSs (run PP n) lWB ⟨[(some (.sh a)), (some (.sh (.lst (row.map .int)))), (some (.sh (.int (q : Int)))), (some (.sh (fq x))), none, none, none, none, none, none, none, none, none, none, none, none, none, none, none, none, none, none], []⟩ = .nx ⟨[(some (.sh a)), (some (.sh (.lst (row.map .int)))), (some (.sh (.int (q : Int)))), (some (.sh (fq x))), (some (.sh (.int (j : Int)))), none, none, none, none, none, none, none, none, none, none, none, none, none, none, none, none, none], []⟩ := by
  obtain ⟨r4, e4, b4⟩ := InB.get hr (k := 4) (s := 13) rfl
  obtain ⟨r5, e5, b5⟩ := InB.get hr (k := 5) (s := 10) rfl
  obtain ⟨r6, e6, b6⟩ := InB.get hr (k := 6) (s := 41) rfl
  obtain ⟨r7, e7, b7⟩ := InB.get hr (k := 7) (s := 4) rfl
  have i4 : ixR (.lst (row.map .int)) (.int 4) = .ok (.int r4) := ixRow e4
  have i5 : ixR (.lst (row.map .int)) (.int 5) = .ok (.int r5) := ixRow e5
  have i6 : ixR (.lst (row.map .int)) (.int 6) = .ok (.int r6) := ixRow e6
  have i7 : ixR (.lst (row.map .int)) (.int 7) = .ok (.int r7) := ixRow e7
  have x1 := ix_fq1 x
  obtain ⟨k4, rfl⟩ : ∃ k : Nat, r4 = (k : Int) := ⟨r4.toNat, by omega⟩
  obtain ⟨k6, rfl⟩ : ∃ k : Nat, r6 = (k : Int) := ⟨r6.toNat, by omega⟩
  unfold lWB
  generalize row.map D.int = RM at *
  by_cases c5 : r5 = 0
  · subst c5
    by_cases cx : (x.den : Int) < 5
    · by_cases c7 : r7 = 0
      · subst c7
        refine ⟨200 - k6, by omega, ?_⟩
        rw [show ((200 - k6 : Nat) : Int) = 200 - (k6 : Int) by omega]
        generalize (x.den : Int) = XD at *
        generalize fq x = FX at *
        simp -implicitDefEqProofs [i4, i5, i6, i7, x1, cx]
      · have c7' : (r7 == 0) = false := by simp [c7]
        refine ⟨k6, by omega, ?_⟩
        generalize (x.den : Int) = XD at *
        generalize fq x = FX at *
        simp -implicitDefEqProofs [i4, i5, i6, i7, x1, cx, c7, c7']
    · refine ⟨k4, by omega, ?_⟩
      generalize (x.den : Int) = XD at *
      generalize fq x = FX at *
      simp -implicitDefEqProofs [i4, i5, x1, cx]
  · have c5' : (r5 == 0) = false := by simp [c5]
    refine ⟨k4, by omega, ?_⟩
    generalize fq x = FX at *
    simp -implicitDefEqProofs [i4, i5, c5, c5']
theorem wts_ev (h : 8 ≤ n) (hx : XR x) (q6 : q ≤ 6) {Δ : List (Option D)} (d2 : Δ[2]? = some (some (.int (q : Int)))) (d3 : Δ[3]? = some (some (fq x))) (hl : 18 < Δ.length) : ev (run PP n) (.comp .r1 [18] [(.var 2)] [] (.op .mul (.call 30 [(.idx (.var 3) (.int 0)), (.var 18)]) (.call 30 [(.idx (.var 3) (.int 1)), (.op .sub (.op .sub (.var 2) (.int 1)) (.var 18))]))) Δ = .ok (.lst ((wts x.num.toNat x.den q).map .int)) := by
  obtain ⟨a0, b0, a1, b1, ea⟩ := hx.nat
  have i0 : ixR (fq x) (.int 0) = .ok (.int ((x.num.toNat : Nat) : Int)) := by rw [ea]; rfl
  have i1 : ixR (fq x) (.int 1) = .ok (.int (x.den : Int)) := rfl
  unfold wts
  rw [List.map_map]
  refine comp_rg (n := q) (by rw [p_ev_var, d2]) (by omega) fun k hk => ?_
  have c2 : (Δ.set 18 (some (.int (k : Int))))[2]? = some (some (.int (q : Int))) := by rw [List.getElem?_set_ne (by decide)]; exact d2
  have c3 : (Δ.set 18 (some (.int (k : Int))))[3]? = some (some (fq x)) := by rw [List.getElem?_set_ne (by decide)]; exact d3
  have c18 : (Δ.set 18 (some (.int (k : Int))))[18]? = some (some (.int (k : Int))) := by rw [List.getElem?_set_self hl]
  obtain ⟨w0, w1, w2⟩ := wt_bd a1 b1 (show q ≤ 8 by omega) hk
  have p1 := pow_one (pw_b (n := n) (by omega)) a0 w1
  have p2 := pow_one (pw_b (n := n) (by omega)) b0 w2
  have e1 : (q : Int) - 1 - (k : Int) = ((q - 1 - k : Nat) : Int) := by omega
  have mm := opm (i := ((x.num.toNat ^ k : Nat) : Int)) (j := ((x.den ^ (q - 1 - k) : Nat) : Int)) (A := 50) (B := 50) (natAbs_lt' w1) (natAbs_lt' w2) (by decide)
  rw [← Int.natCast_mul] at mm
  show _ = Res.ok (D.int ((x.num.toNat ^ k * x.den ^ (q - 1 - k) : Nat) : Int))
  generalize ((x.num.toNat ^ k * x.den ^ (q - 1 - k) : Nat) : Int) = W at *
  generalize ((x.num.toNat ^ k : Nat) : Int) = W1 at *
  generalize ((x.den ^ (q - 1 - k) : Nat) : Int) = W2 at *
  generalize ((q - 1 - k : Nat) : Int) = M at *
  generalize ((x.num.toNat : Nat) : Int) = XN at *
  generalize ((x.den : Nat) : Int) = XD at *
  generalize fq x = FX at *
  simp -implicitDefEqProofs [c2, c3, c18, i0, i1, e1, p1, p2, mm]
theorem stWC (h : 8 ≤ n) (q2 : 2 ≤ q) (q6 : q ≤ 6) (hx : XR x) : exSs (run PP n) lWC ⟨[(some (.sh a)), (some (.sh (.lst (row.map .int)))), (some (.sh (.int (q : Int)))), (some (.sh (fq x))), (some (.sh (.int (j : Int)))), none, none, none, none, none, none, none, none, none, none, none, none, none, none, none, none, none], []⟩ = .nx ⟨[(some (.sh a)), (some (.sh (.lst (row.map .int)))), (some (.sh (.int (q : Int)))), (some (.sh (fq x))), (some (.sh (.int (j : Int)))), (some (.sh (.lst ((wts x.num.toNat x.den q).map .int)))), (some (.sh (.int (wh x q)))), (some (.sh (.lst ((Nj x q 0).map .int)))), (some (.sh (.int (uj x q 0)))), (some (.sh (.lst ((Tj x q 0).map .int)))), (some (.sh (.lst ((Bj x q 0).map .int)))), none, none, none, none, none, none, none, none, none, none, none], []⟩ := by
  have wc := fun {Δ : List (Option D)} => wts_ev (n := n) (Δ := Δ) h hx q6
  have so := sum_ok (wts x.num.toNat x.den q)
  have ew : (wts x.num.toNat x.den q).sum = wh x q := rfl
  rw [ew] at so
  have nc : ∀ {Δ : List (Option D)}, Δ[2]? = some (some (.int (q : Int))) → ev (run PP n) (.comp .r1 [13] [(.var 2)] [] (.int 1)) Δ = .ok (.lst ((Nj x q 0).map .int)) := fun {Δ} d2 => by
    have e : (Nj x q 0).map D.int = (List.range q).map fun _ => D.int 1 := by
      show (List.replicate q (1 : Int)).map D.int = _
      rw [List.map_replicate, List.map_const', List.length_range]
    rw [e]
    exact comp_rg (n := q) (by rw [p_ev_var, d2]) (by omega) fun k hk => rfl
  have t1 := tp_b (n := n) (by omega) x q 0 hx q2 (by omega) (by omega)
  have u0 : uj x q 0 = (q : Int) := by unfold uj; simp
  have b0 : Bj x q 0 = Tj x q 0 := rfl
  have lb : ∀ xs : List D, bi .list [.lst xs] = .ok (.lst xs) := fun _ => rfl
  rw [u0] at t1
  rw [b0, u0]
  unfold lWC
  generalize (Tj x q 0).map D.int = TI at *
  generalize (wts x.num.toNat x.den q).map D.int = WI at *
  generalize (Nj x q 0).map D.int = NI at *
  generalize wh x q = W at *
  generalize fq x = FX at *
  generalize row.map D.int = RM at *
  simp -implicitDefEqProofs [-p_ev_comp, wc, so, nc, t1, lb]
theorem wd_inner (h : 8 ≤ n) (q2 : 2 ≤ q) (q6 : q ≤ 6) (hx : XR x) {t : Nat} : forR [13] 0 (frB (run PP n) [13] [.ifs (.or (.op .lt (.idx (.var 9) (.var 13)) (.int 0)) (.or (.op .gt (.idx (.var 9) (.var 13)) (.idx (.var 10) (.var 13))) (.op .gt (.idx (.var 9) (.var 13)) (.idx (.var 12) (.var 13))))) [.ret (.bl false)] []]) ((List.range (q + 1)).map fun k => D.int ((k : Nat) : Int)) ⟨[(some (.sh a)), (some (.sh (.lst (row.map .int)))), (some (.sh (.int (q : Int)))), (some (.sh (fq x))), (some (.sh (.int (j : Int)))), (some (.sh (.lst ((wts x.num.toNat x.den q).map .int)))), (some (.sh (.int (wh x q)))), (some (.sh (.lst ((Nj x q (t + 1)).map .int)))), (some (.sh (.int (uj x q (t + 1))))), (some (.sh (.lst ((Tj x q (t + 1)).map .int)))), (some (.sh (.lst ((Bj x q (t + 1)).map .int)))), (some (.sh (.int (t : Int)))), (some (.sh (.lst (((Tj x q t).map (· * sx x)).map .int)))), none, none, none, none, none, none, none, none, none], []⟩ = .nx ⟨[(some (.sh a)), (some (.sh (.lst (row.map .int)))), (some (.sh (.int (q : Int)))), (some (.sh (fq x))), (some (.sh (.int (j : Int)))), (some (.sh (.lst ((wts x.num.toNat x.den q).map .int)))), (some (.sh (.int (wh x q)))), (some (.sh (.lst ((Nj x q (t + 1)).map .int)))), (some (.sh (.int (uj x q (t + 1))))), (some (.sh (.lst ((Tj x q (t + 1)).map .int)))), (some (.sh (.lst ((Bj x q (t + 1)).map .int)))), (some (.sh (.int (t : Int)))), (some (.sh (.lst (((Tj x q t).map (· * sx x)).map .int)))), none, none, none, none, none, none, none, none, none], []⟩ := by
  have h0 : 0 < q := by omega
  have h8 : q ≤ 8 := by omega
  refine forR_const fun y hy => ?_
  obtain ⟨k, hk, rfl⟩ := List.mem_map.mp hy
  have hk := List.mem_range.mp hk
  have vp := vj_pos hx h0 h8 (t + 1)
  have scT := sc_T hx h0 h8 (t + 1)
  have scB := sc_B hx h0 h8 (t + 1)
  have scF := sc_times (sc_T hx h0 h8 t) (sx x)
  rw [← vj_succ] at scF
  have lT := Tj_len (x := x) (n := q) (t + 1)
  have lB := Bj_len hx h0 h8 (t + 1)
  have lF : ((Tj x q t).map (· * sx x)).length = q + 1 := by rw [List.length_map, Tj_len]
  have i1 : ixR (.lst ((Tj x q (t + 1)).map .int)) (.int (k : Int)) = .ok (.int ((Tj x q (t + 1)).getD k 0)) := IsI.ix (.inl rfl) (by omega)
  have i2 : ixR (.lst ((Bj x q (t + 1)).map .int)) (.int (k : Int)) = .ok (.int ((Bj x q (t + 1)).getD k 0)) := IsI.ix (.inl rfl) (by omega)
  have i3 : ixR (.lst (((Tj x q t).map (· * sx x)).map .int)) (.int (k : Int)) = .ok (.int (((Tj x q t).map (· * sx x)).getD k 0)) := IsI.ix (.inl rfl) (by omega)
  have c1 : ¬ (Tj x q (t + 1)).getD k 0 < 0 := by
    have := (scT.bd (Dj_01 hx h0 h8 (t + 1)) vp (Sc.getD_mem (N := Tj x q (t + 1)) (k := k) (by omega))).1
    omega
  have c2 : ¬ (Bj x q (t + 1)).getD k 0 < (Tj x q (t + 1)).getD k 0 := by
    have := sc_le scT scB vp (k := k) (by omega) (by omega) (W_ge hx h0 h8 (t + 1) k (by omega))
    omega
  have c3 : ¬ ((Tj x q t).map (· * sx x)).getD k 0 < (Tj x q (t + 1)).getD k 0 := by
    have := sc_le scT scF vp (k := k) (by omega) (by omega) (D_mono hx h0 h8 t k (by omega))
    omega
  refine ⟨⟨[(some (.sh a)), (some (.sh (.lst (row.map .int)))), (some (.sh (.int (q : Int)))), (some (.sh (fq x))), (some (.sh (.int (j : Int)))), (some (.sh (.lst ((wts x.num.toNat x.den q).map .int)))), (some (.sh (.int (wh x q)))), (some (.sh (.lst ((Nj x q (t + 1)).map .int)))), (some (.sh (.int (uj x q (t + 1))))), (some (.sh (.lst ((Tj x q (t + 1)).map .int)))), (some (.sh (.lst ((Bj x q (t + 1)).map .int)))), (some (.sh (.int (t : Int)))), (some (.sh (.lst (((Tj x q t).map (· * sx x)).map .int)))), (some (.sh (.int (k : Int)))), none, none, none, none, none, none, none, none], []⟩, ?_, tidy_len rfl⟩
  generalize (Tj x q (t + 1)).getD k 0 = Z1 at *
  generalize (Bj x q (t + 1)).getD k 0 = Z2 at *
  generalize ((Tj x q t).map (· * sx x)).getD k 0 = Z3 at *
  generalize ((Tj x q t).map (· * sx x)).map D.int = FI at *
  generalize (Tj x q (t + 1)).map D.int = TI at *
  generalize (Bj x q (t + 1)).map D.int = BI at *
  generalize (Nj x q (t + 1)).map D.int = NI at *
  generalize (wts x.num.toNat x.den q).map D.int = WI at *
  generalize fq x = FX at *
  generalize row.map D.int = RM at *
  simp -implicitDefEqProofs [frB, i1, i2, i3, c1, c2, c3]
theorem wd_turn (h : 8 ≤ n) (q2 : 2 ≤ q) (q6 : q ≤ 6) (hx : XR x) {t : Nat} (ht : t ≤ 200) : frB (run PP n) [11] [.set 7 (.call 32 [(.var 7), (.var 3)]), .set 12 (.comp .seq [19] [(.var 9)] [] (.op .mul (.var 19) (.op .add (.idx (.var 3) (.int 0)) (.idx (.var 3) (.int 1))))), .set 8 (.op .mul (.var 8) (.op .add (.idx (.var 3) (.int 0)) (.idx (.var 3) (.int 1)))), .set 9 (.call 34 [(.var 5), (.var 7), (.var 8)]), .set 10 (.call 33 [(.var 10), (.var 3)]), .fr .r1 [13] [(.op .add (.var 2) (.int 1))] [.ifs (.or (.op .lt (.idx (.var 9) (.var 13)) (.int 0)) (.or (.op .gt (.idx (.var 9) (.var 13)) (.idx (.var 10) (.var 13))) (.op .gt (.idx (.var 9) (.var 13)) (.idx (.var 12) (.var 13))))) [.ret (.bl false)] []] [13]] (.int (t : Int)) ⟨[(some (.sh a)), (some (.sh (.lst (row.map .int)))), (some (.sh (.int (q : Int)))), (some (.sh (fq x))), (some (.sh (.int (j : Int)))), (some (.sh (.lst ((wts x.num.toNat x.den q).map .int)))), (some (.sh (.int (wh x q)))), (some (.sh (.lst ((Nj x q t).map .int)))), (some (.sh (.int (uj x q t)))), (some (.sh (.lst ((Tj x q t).map .int)))), (some (.sh (.lst ((Bj x q t).map .int)))), none, none, none, none, none, none, none, none, none, none, none], []⟩ = .nx ⟨[(some (.sh a)), (some (.sh (.lst (row.map .int)))), (some (.sh (.int (q : Int)))), (some (.sh (fq x))), (some (.sh (.int (j : Int)))), (some (.sh (.lst ((wts x.num.toNat x.den q).map .int)))), (some (.sh (.int (wh x q)))), (some (.sh (.lst ((Nj x q (t + 1)).map .int)))), (some (.sh (.int (uj x q (t + 1))))), (some (.sh (.lst ((Tj x q (t + 1)).map .int)))), (some (.sh (.lst ((Bj x q (t + 1)).map .int)))), (some (.sh (.int (t : Int)))), (some (.sh (.lst (((Tj x q t).map (· * sx x)).map .int)))), none, none, none, none, none, none, none, none, none], []⟩ := by
  have h0 : 0 < q := by omega
  have q7 : q < 8 := by omega
  have inn := wd_inner (n := n) (a := a) (row := row) (j := j) h q2 q6 hx (t := t)
  have src := rr0 (n := q + 1) (by omega)
  rw [show ((q + 1 : Nat) : Int) = (q : Int) + 1 by omega] at src
  have r1 := rd_b (n := n) (by omega) x q t hx q2 q7 (by omega)
  have w1 := wi_b (n := n) (by omega) x q t hx q2 q7 (by omega)
  have t1 := tp_b (n := n) (by omega) x q (t + 1) hx q2 q7 (by omega)
  have sp := sx_pos hx
  have i0 := ix_fq0 x
  have i1 := ix_fq1 x
  have m7 := opm (i := uj x q t) (j := x.num + (x.den : Int)) (A := 3 + 6 * t) (B := 6) (uj_bd hx q7 t) (by unfold sx at sp; omega) (by omega)
  have e7 : uj x q t * (x.num + (x.den : Int)) = uj x q (t + 1) := (uj_succ x q t).symm
  rw [e7] at m7
  have comp : ∀ {Δ : List (Option D)}, Δ[9]? = some (some (.lst ((Tj x q t).map .int))) → Δ[3]? = some (some (fq x)) → 19 < Δ.length → ev (run PP n) (.comp .seq [19] [(.var 9)] [] (.op .mul (.var 19) (.op .add (.idx (.var 3) (.int 0)) (.idx (.var 3) (.int 1))))) Δ = .ok (.lst (((Tj x q t).map (· * sx x)).map .int)) := fun {Δ} d9 d3 hl => by
    rw [List.map_map]
    refine comp_nm (xs := Tj x q t) (i := D.int) (X := .lst ((Tj x q t).map .int)) rfl (len_le (by rw [Tj_len]; omega)) d9 fun z hz => ?_
    have c3 : (Δ.set 19 (some (.int z)))[3]? = some (some (fq x)) := by rw [List.getElem?_set_ne (by decide)]; exact d3
    have c19 : (Δ.set 19 (some (.int z)))[19]? = some (some (.int z)) := by rw [List.getElem?_set_self hl]
    have mz := opm (i := z) (j := x.num + (x.den : Int)) (A := 57 + 6 * t) (B := 6) (Tj_bd hx h0 q7 t z hz) (by unfold sx at sp; omega) (by omega)
    show _ = Res.ok (D.int (z * (x.num + (x.den : Int))))
    generalize z * (x.num + (x.den : Int)) = ZZ at *
    generalize fq x = FX at *
    simp -implicitDefEqProofs [c3, c19, i0, i1, mz]
  generalize (List.range (q + 1)).map (fun k => D.int ((k : Nat) : Int)) = RG at *
  generalize ((Tj x q t).map (· * sx x)).map D.int = FI at *
  generalize (Tj x q (t + 1)).map D.int = TI1 at *
  generalize (Bj x q (t + 1)).map D.int = BI1 at *
  generalize (Nj x q (t + 1)).map D.int = NI1 at *
  generalize (Tj x q t).map D.int = TI at *
  generalize (Bj x q t).map D.int = BI at *
  generalize (Nj x q t).map D.int = NI at *
  generalize uj x q (t + 1) = U1 at *
  generalize uj x q t = U at *
  generalize (wts x.num.toNat x.den q).map D.int = WI at *
  generalize fq x = FX at *
  generalize row.map D.int = RM at *
  generalize hIB : frB (run PP n) [13] [.ifs (.or (.op .lt (.idx (.var 9) (.var 13)) (.int 0)) (.or (.op .gt (.idx (.var 9) (.var 13)) (.idx (.var 10) (.var 13))) (.op .gt (.idx (.var 9) (.var 13)) (.idx (.var 12) (.var 13))))) [.ret (.bl false)] []] = IBB at *
  rw [frB]
  simp -implicitDefEqProofs [-p_ev_comp, r1, comp, i0, i1, m7, t1, w1, src, hIB, inn]
theorem wd_loop (h : 8 ≤ n) (q2 : 2 ≤ q) (q6 : q ≤ 6) (hx : XR x) : ∀ (m t : Nat), t + m ≤ 200 →
    forR [11, 12, 13] 0 (frB (run PP n) [11] [.set 7 (.call 32 [(.var 7), (.var 3)]), .set 12 (.comp .seq [19] [(.var 9)] [] (.op .mul (.var 19) (.op .add (.idx (.var 3) (.int 0)) (.idx (.var 3) (.int 1))))), .set 8 (.op .mul (.var 8) (.op .add (.idx (.var 3) (.int 0)) (.idx (.var 3) (.int 1)))), .set 9 (.call 34 [(.var 5), (.var 7), (.var 8)]), .set 10 (.call 33 [(.var 10), (.var 3)]), .fr .r1 [13] [(.op .add (.var 2) (.int 1))] [.ifs (.or (.op .lt (.idx (.var 9) (.var 13)) (.int 0)) (.or (.op .gt (.idx (.var 9) (.var 13)) (.idx (.var 10) (.var 13))) (.op .gt (.idx (.var 9) (.var 13)) (.idx (.var 12) (.var 13))))) [.ret (.bl false)] []] [13]]) ((List.range' t m).map fun i => D.int ((i : Nat) : Int)) ⟨[(some (.sh a)), (some (.sh (.lst (row.map .int)))), (some (.sh (.int (q : Int)))), (some (.sh (fq x))), (some (.sh (.int (j : Int)))), (some (.sh (.lst ((wts x.num.toNat x.den q).map .int)))), (some (.sh (.int (wh x q)))), (some (.sh (.lst ((Nj x q t).map .int)))), (some (.sh (.int (uj x q t)))), (some (.sh (.lst ((Tj x q t).map .int)))), (some (.sh (.lst ((Bj x q t).map .int)))), none, none, none, none, none, none, none, none, none, none, none], []⟩ = .nx ⟨[(some (.sh a)), (some (.sh (.lst (row.map .int)))), (some (.sh (.int (q : Int)))), (some (.sh (fq x))), (some (.sh (.int (j : Int)))), (some (.sh (.lst ((wts x.num.toNat x.den q).map .int)))), (some (.sh (.int (wh x q)))), (some (.sh (.lst ((Nj x q (t + m)).map .int)))), (some (.sh (.int (uj x q (t + m))))), (some (.sh (.lst ((Tj x q (t + m)).map .int)))), (some (.sh (.lst ((Bj x q (t + m)).map .int)))), none, none, none, none, none, none, none, none, none, none, none], []⟩
  | 0, t, _ => rfl
  | m + 1, t, hm => by
    have tn := wd_turn (n := n) (a := a) (row := row) (j := j) h q2 q6 hx (t := t) (by omega)
    have ih := wd_loop h q2 q6 hx m (t + 1) (by omega)
    have td : tidy [11, 12, 13] 0 ⟨[(some (.sh a)), (some (.sh (.lst (row.map .int)))), (some (.sh (.int (q : Int)))), (some (.sh (fq x))), (some (.sh (.int (j : Int)))), (some (.sh (.lst ((wts x.num.toNat x.den q).map .int)))), (some (.sh (.int (wh x q)))), (some (.sh (.lst ((Nj x q (t + 1)).map .int)))), (some (.sh (.int (uj x q (t + 1))))), (some (.sh (.lst ((Tj x q (t + 1)).map .int)))), (some (.sh (.lst ((Bj x q (t + 1)).map .int)))), (some (.sh (.int (t : Int)))), (some (.sh (.lst (((Tj x q t).map (· * sx x)).map .int)))), none, none, none, none, none, none, none, none, none], []⟩ = some ⟨[(some (.sh a)), (some (.sh (.lst (row.map .int)))), (some (.sh (.int (q : Int)))), (some (.sh (fq x))), (some (.sh (.int (j : Int)))), (some (.sh (.lst ((wts x.num.toNat x.den q).map .int)))), (some (.sh (.int (wh x q)))), (some (.sh (.lst ((Nj x q (t + 1)).map .int)))), (some (.sh (.int (uj x q (t + 1))))), (some (.sh (.lst ((Tj x q (t + 1)).map .int)))), (some (.sh (.lst ((Bj x q (t + 1)).map .int)))), none, none, none, none, none, none, none, none, none, none, none], []⟩ := tidy_len rfl
    rw [List.range'_succ, List.map_cons, forR_cons, tn, nextTurn_nx, td]
    rw [show t + 1 + m = t + (m + 1) by omega] at ih
    exact ih
theorem stWD (h : 8 ≤ n) (q2 : 2 ≤ q) (q6 : q ≤ 6) (hx : XR x) (hj : j ≤ 200) : exSs (run PP n) lWD ⟨[(some (.sh a)), (some (.sh (.lst (row.map .int)))), (some (.sh (.int (q : Int)))), (some (.sh (fq x))), (some (.sh (.int (j : Int)))), (some (.sh (.lst ((wts x.num.toNat x.den q).map .int)))), (some (.sh (.int (wh x q)))), (some (.sh (.lst ((Nj x q 0).map .int)))), (some (.sh (.int (uj x q 0)))), (some (.sh (.lst ((Tj x q 0).map .int)))), (some (.sh (.lst ((Bj x q 0).map .int)))), none, none, none, none, none, none, none, none, none, none, none], []⟩ = .nx ⟨[(some (.sh a)), (some (.sh (.lst (row.map .int)))), (some (.sh (.int (q : Int)))), (some (.sh (fq x))), (some (.sh (.int (j : Int)))), (some (.sh (.lst ((wts x.num.toNat x.den q).map .int)))), (some (.sh (.int (wh x q)))), (some (.sh (.lst ((Nj x q j).map .int)))), (some (.sh (.int (uj x q j)))), (some (.sh (.lst ((Tj x q j).map .int)))), (some (.sh (.lst ((Bj x q j).map .int)))), none, none, none, none, none, none, none, none, none, none, none], []⟩ := by
  have loop := wd_loop (n := n) (a := a) (row := row) (j := j) h q2 q6 hx j 0 (by omega)
  rw [Nat.zero_add, ← List.range_eq_range'] at loop
  have src := rr0 (n := j) (by omega)
  unfold lWD
  generalize (List.range j).map (fun i => D.int ((i : Nat) : Int)) = RG at *
  generalize (Tj x q j).map D.int = TI1 at *
  generalize (Bj x q j).map D.int = BI1 at *
  generalize (Nj x q j).map D.int = NI1 at *
  generalize (Tj x q 0).map D.int = TI at *
  generalize (Bj x q 0).map D.int = BI at *
  generalize (Nj x q 0).map D.int = NI at *
  generalize (wts x.num.toNat x.den q).map D.int = WI at *
  generalize fq x = FX at *
  generalize row.map D.int = RM at *
  simp -implicitDefEqProofs [src, loop]
end
end L_onewarmth_k75_walk_bounds_whole
end

section
set_option Elab.async false
set_option linter.all false
set_option maxRecDepth 100000
set_option exponentiation.threshold 5000
/-! printed by gen75.py: the law of k75, in stages -/
namespace L_onewarmth_k75_walk_bounds_whole
open R R.V R.N
section
variable {n : Nat} {a : D} {row : List Int} {q j : Nat} {x : Rat}
theorem stWE (h : 8 ≤ n) (q2 : 2 ≤ q) (q6 : q ≤ 6) (hx : XR x) : exSs (run PP n) lWE ⟨[(some (.sh a)), (some (.sh (.lst (row.map .int)))), (some (.sh (.int (q : Int)))), (some (.sh (fq x))), (some (.sh (.int (j : Int)))), (some (.sh (.lst ((wts x.num.toNat x.den q).map .int)))), (some (.sh (.int (wh x q)))), (some (.sh (.lst ((Nj x q j).map .int)))), (some (.sh (.int (uj x q j)))), (some (.sh (.lst ((Tj x q j).map .int)))), (some (.sh (.lst ((Bj x q j).map .int)))), none, none, none, none, none, none, none, none, none, none, none], []⟩ = .nx ⟨[(some (.sh a)), (some (.sh (.lst (row.map .int)))), (some (.sh (.int (q : Int)))), (some (.sh (fq x))), (some (.sh (.int (j : Int)))), (some (.sh (.lst ((wts x.num.toNat x.den q).map .int)))), (some (.sh (.int (wh x q)))), (some (.sh (.lst ((Nj x q j).map .int)))), (some (.sh (.int (uj x q j)))), (some (.sh (.lst ((Tj x q j).map .int)))), (some (.sh (.lst ((Bj x q j).map .int)))), none, none, none, none, none, none, none, none, none, none, none], []⟩ := by
  have h0 : 0 < q := by omega
  have h8 : q ≤ 8 := by omega
  have vp := vj_pos hx h0 h8 j
  have sc := sc_T hx h0 h8 j
  have lT := Tj_len (x := x) (n := q) j
  have z0 : (Tj x q j).getD 0 0 = 0 := by
    have := sc.at_ (k := 0) (by omega)
    rw [D_0] at this
    have e : (((Tj x q j).getD 0 0 : Int) : Rat) = ((0 : Int) : Rat) := by rw [this]; simp
    exact_mod_cast e
  have zq : (Tj x q j).getD q 0 = 0 := by
    have := sc.at_ (k := q) (by omega)
    rw [D_n hx h0 h8 j] at this
    have e : (((Tj x q j).getD q 0 : Int) : Rat) = ((0 : Int) : Rat) := by rw [this]; simp
    exact_mod_cast e
  have i1 : ixR (.lst ((Tj x q j).map .int)) (.int ((0 : Nat) : Int)) = .ok (.int ((Tj x q j).getD 0 0)) := IsI.ix (.inl rfl) (by omega)
  have i2 : ixR (.lst ((Tj x q j).map .int)) (.int (-1)) = .ok (.int ((Tj x q j).getD q 0)) := ix_neg1 (k := q) (by rw [List.length_map]; exact lT) (by rw [List.getElem?_map]; simp [List.getD, show q < (Tj x q j).length by omega])
  rw [z0, show ((0 : Nat) : Int) = 0 from rfl] at i1
  rw [zq] at i2
  unfold lWE
  generalize (Tj x q j).map D.int = TI at *
  generalize (Bj x q j).map D.int = BI at *
  generalize (Nj x q j).map D.int = NI at *
  generalize (wts x.num.toNat x.den q).map D.int = WI at *
  generalize fq x = FX at *
  generalize row.map D.int = RM at *
  simp -implicitDefEqProofs [i1, i2]
theorem stWF (h : 8 ≤ n) (q2 : 2 ≤ q) (q6 : q ≤ 6) (hx : XR x) (hj : j ≤ 200) : exSs (run PP n) lWF ⟨[(some (.sh a)), (some (.sh (.lst (row.map .int)))), (some (.sh (.int (q : Int)))), (some (.sh (fq x))), (some (.sh (.int (j : Int)))), (some (.sh (.lst ((wts x.num.toNat x.den q).map .int)))), (some (.sh (.int (wh x q)))), (some (.sh (.lst ((Nj x q j).map .int)))), (some (.sh (.int (uj x q j)))), (some (.sh (.lst ((Tj x q j).map .int)))), (some (.sh (.lst ((Bj x q j).map .int)))), none, none, none, none, none, none, none, none, none, none, none], []⟩ = .nx ⟨[(some (.sh a)), (some (.sh (.lst (row.map .int)))), (some (.sh (.int (q : Int)))), (some (.sh (fq x))), (some (.sh (.int (j : Int)))), (some (.sh (.lst ((wts x.num.toNat x.den q).map .int)))), (some (.sh (.int (wh x q)))), (some (.sh (.lst ((Nj x q j).map .int)))), (some (.sh (.int (uj x q j)))), (some (.sh (.lst ((Tj x q j).map .int)))), (some (.sh (.lst ((Bj x q j).map .int)))), none, none, none, (some (.sh (fL (Dj x q j)))), none, none, none, none, none, none, none], []⟩ := by
  have h0 : 0 < q := by omega
  have h8 : q ≤ 8 := by omega
  have q7 : q < 8 := by omega
  have vp := vj_pos hx h0 h8 j
  have mm := opm (uj_bd hx q7 j) (wh_bd hx h0 h8).2 (by omega)
  have ev' : uj x q j * wh x q = vj x q j := rfl
  rw [ev'] at mm
  have fc : ∀ {Δ : List (Option D)}, Δ[9]? = some (some (.lst ((Tj x q j).map .int))) → Δ[8]? = some (some (.int (uj x q j))) → Δ[6]? = some (some (.int (wh x q))) → 19 < Δ.length → ev (run PP n) (.comp .seq [19] [(.var 9)] [] (.call 27 [(.var 19), (.op .mul (.var 8) (.var 6))])) Δ = .ok (fL (Dj x q j)) := fun {Δ} d9 d8 d6 hl =>
    frac_comp (fr_b (n := n) (by omega)) (sc_T hx h0 h8 j) vp (A := 57 + 6 * j) (vj_bd hx h0 q7 j) (Tj_bd hx h0 q7 j) (by omega) (by rw [Tj_len]; omega) (by rw [p_ev_var, d9]) (fun d => by
      have c8 : (Δ.set 19 (some d))[8]? = some (some (.int (uj x q j))) := by rw [List.getElem?_set_ne (by decide)]; exact d8
      have c6 : (Δ.set 19 (some d))[6]? = some (some (.int (wh x q))) := by rw [List.getElem?_set_ne (by decide)]; exact d6
      simp -implicitDefEqProofs [c8, c6, mm]) hl
  have k1 := lks_a (n := n) (by omega) x q j (fqL x) hx (isXQL x) q2 q7 (by omega)
  have sa := same_b (n := n) 2 (fL (Dj x q j)) (sdue_fL (by rw [Dj_len]; omega)) (by omega)
  rw [tupd_fL] at sa
  have lb : bi .list [fq x] = .ok (fqL x) := rfl
  unfold lWF
  generalize fL (Dj x q j) = DL at *
  generalize fT (Dj x q j) = DT at *
  generalize fqL x = FXL at *
  generalize (Tj x q j).map D.int = TI at *
  generalize (Bj x q j).map D.int = BI at *
  generalize (Nj x q j).map D.int = NI at *
  generalize (wts x.num.toNat x.den q).map D.int = WI at *
  generalize fq x = FX at *
  generalize row.map D.int = RM at *
  simp -implicitDefEqProofs [-p_ev_comp, fc, lb, k1, sa]
theorem stWH (h : 8 ≤ n) (q2 : 2 ≤ q) (q6 : q ≤ 6) (hx : XR x) (hj : j ≤ 200) : exSs (run PP n) lWH ⟨[(some (.sh a)), (some (.sh (.lst (row.map .int)))), (some (.sh (.int (q : Int)))), (some (.sh (fq x))), (some (.sh (.int (j : Int)))), (some (.sh (.lst ((wts x.num.toNat x.den q).map .int)))), (some (.sh (.int (wh x q)))), (some (.sh (.lst ((Nj x q j).map .int)))), (some (.sh (.int (uj x q j)))), (some (.sh (.lst ((Tj x q j).map .int)))), (some (.sh (.lst ((Bj x q j).map .int)))), none, none, none, (some (.sh (fL (Dj x q j)))), none, none, none, none, none, none, none], []⟩ = .nx ⟨[(some (.sh a)), (some (.sh (.lst (row.map .int)))), (some (.sh (.int (q : Int)))), (some (.sh (fq x))), (some (.sh (.int (j : Int)))), (some (.sh (.lst ((wts x.num.toNat x.den q).map .int)))), (some (.sh (.int (wh x q)))), (some (.sh (.lst ((Nj x q j).map .int)))), (some (.sh (.int (uj x q j)))), (some (.sh (.lst ((Tj x q j).map .int)))), (some (.sh (.lst ((Bj x q j).map .int)))), none, none, none, (some (.sh (fL (Dj x q j)))), none, none, none, none, none, none, none], []⟩ := by
  have h0 : 0 < q := by omega
  have h8 : q ≤ 8 := by omega
  have q7 : q < 8 := by omega
  have vp := vj_pos hx h0 h8 j
  have mm := opm (uj_bd hx q7 j) (wh_bd hx h0 h8).2 (by omega)
  have ev' : uj x q j * wh x q = vj x q j := rfl
  rw [ev'] at mm
  have fc : ∀ {Δ : List (Option D)}, Δ[10]? = some (some (.lst ((Bj x q j).map .int))) → Δ[8]? = some (some (.int (uj x q j))) → Δ[6]? = some (some (.int (wh x q))) → 19 < Δ.length → ev (run PP n) (.comp .seq [19] [(.var 10)] [] (.call 27 [(.var 19), (.op .mul (.var 8) (.var 6))])) Δ = .ok (fL (Wj x q j)) := fun {Δ} d9 d8 d6 hl =>
    frac_comp (fr_b (n := n) (by omega)) (sc_B hx h0 h8 j) vp (A := 57 + 6 * j) (vj_bd hx h0 q7 j) (Bj_bd hx h0 q7 j) (by omega) (by rw [Bj_len hx h0 h8]; omega) (by rw [p_ev_var, d9]) (fun d => by
      have c8 : (Δ.set 19 (some d))[8]? = some (some (.int (uj x q j))) := by rw [List.getElem?_set_ne (by decide)]; exact d8
      have c6 : (Δ.set 19 (some d))[6]? = some (some (.int (wh x q))) := by rw [List.getElem?_set_ne (by decide)]; exact d6
      simp -implicitDefEqProofs [c8, c6, mm]) hl
  have k1 := wb_a (n := n) (by omega) hx q2 q7 (k := j) (by omega)
  have sa := same_b (n := n) 2 (fL (Wj x q j)) (sdue_fL (by rw [Wj_len x q j (by omega)]; omega)) (by omega)
  rw [tupd_fL] at sa
  unfold lWH
  generalize fL (Dj x q j) = DL at *
  generalize fL (Wj x q j) = WL at *
  generalize fT (Wj x q j) = WT at *
  generalize (Tj x q j).map D.int = TI at *
  generalize (Bj x q j).map D.int = BI at *
  generalize (Nj x q j).map D.int = NI at *
  generalize (wts x.num.toNat x.den q).map D.int = WI at *
  generalize fq x = FX at *
  generalize row.map D.int = RM at *
  simp -implicitDefEqProofs [-p_ev_comp, fc, k1, sa]
theorem stWI (h : 8 ≤ n) (q2 : 2 ≤ q) (q6 : q ≤ 6) (hx : XR x) (hj : j ≤ 200) : exSs (run PP n) lWI ⟨[(some (.sh a)), (some (.sh (.lst (row.map .int)))), (some (.sh (.int (q : Int)))), (some (.sh (fq x))), (some (.sh (.int (j : Int)))), (some (.sh (.lst ((wts x.num.toNat x.den q).map .int)))), (some (.sh (.int (wh x q)))), (some (.sh (.lst ((Nj x q j).map .int)))), (some (.sh (.int (uj x q j)))), (some (.sh (.lst ((Tj x q j).map .int)))), (some (.sh (.lst ((Bj x q j).map .int)))), none, none, none, (some (.sh (fL (Dj x q j)))), none, none, none, none, none, none, none], []⟩ = .nx ⟨[(some (.sh a)), (some (.sh (.lst (row.map .int)))), (some (.sh (.int (q : Int)))), (some (.sh (fq x))), (some (.sh (.int (j : Int)))), (some (.sh (.lst ((wts x.num.toNat x.den q).map .int)))), (some (.sh (.int (wh x q)))), (some (.sh (.lst ((Nj x q j).map .int)))), (some (.sh (.int (uj x q j)))), (some (.sh (.lst ((Tj x q j).map .int)))), (some (.sh (.lst ((Bj x q j).map .int)))), none, none, none, (some (.sh (fL (Dj x q j)))), (some (.sh (fL (Rj x q j)))), none, none, none, none, none, none], []⟩ := by
  have h0 : 0 < q := by omega
  have q7 : q < 8 := by omega
  have up := uj_pos hx h0 j
  have fc : ∀ {Δ : List (Option D)}, Δ[7]? = some (some (.lst ((Nj x q j).map .int))) → Δ[8]? = some (some (.int (uj x q j))) → 20 < Δ.length → ev (run PP n) (.comp .seq [20] [(.var 7)] [] (.call 27 [(.var 20), (.var 8)])) Δ = .ok (fL (Rj x q j)) := fun {Δ} d7 d8 hl =>
    frac_comp (fr_b (n := n) (by omega)) (sc_N hx h0 j) up (A := 3 + 6 * j) (uj_bd hx q7 j) (Nj_bd hx h0 q7 j) (by omega) (by rw [Nj_len hx h0]; omega) (by rw [p_ev_var, d7]) (fun d => by
      have c8 : (Δ.set 20 (some d))[8]? = some (some (.int (uj x q j))) := by rw [List.getElem?_set_ne (by decide)]; exact d8
      simp -implicitDefEqProofs [c8]) hl
  unfold lWI
  generalize fL (Dj x q j) = DL at *
  generalize fL (Rj x q j) = RL at *
  generalize (Tj x q j).map D.int = TI at *
  generalize (Bj x q j).map D.int = BI at *
  generalize (Nj x q j).map D.int = NI at *
  generalize (wts x.num.toNat x.den q).map D.int = WI at *
  generalize fq x = FX at *
  generalize row.map D.int = RM at *
  simp -implicitDefEqProofs [-p_ev_comp, fc]
theorem stWJ (h : 8 ≤ n) (q2 : 2 ≤ q) (q6 : q ≤ 6) (hx : XR x) (hj : j ≤ 200) : exSs (run PP n) lWJ ⟨[(some (.sh a)), (some (.sh (.lst (row.map .int)))), (some (.sh (.int (q : Int)))), (some (.sh (fq x))), (some (.sh (.int (j : Int)))), (some (.sh (.lst ((wts x.num.toNat x.den q).map .int)))), (some (.sh (.int (wh x q)))), (some (.sh (.lst ((Nj x q j).map .int)))), (some (.sh (.int (uj x q j)))), (some (.sh (.lst ((Tj x q j).map .int)))), (some (.sh (.lst ((Bj x q j).map .int)))), none, none, none, (some (.sh (fL (Dj x q j)))), (some (.sh (fL (Rj x q j)))), none, none, none, none, none, none], []⟩ = .nx ⟨[(some (.sh a)), (some (.sh (.lst (row.map .int)))), (some (.sh (.int (q : Int)))), (some (.sh (fq x))), (some (.sh (.int (j : Int)))), (some (.sh (.lst ((wts x.num.toNat x.den q).map .int)))), (some (.sh (.int (wh x q)))), (some (.sh (.lst ((Nj x q j).map .int)))), (some (.sh (.int (uj x q j)))), (some (.sh (.lst ((Tj x q j).map .int)))), (some (.sh (.lst ((Bj x q j).map .int)))), none, none, none, (some (.sh (fL (Dj x q j)))), (some (.sh (fL (Rj x q j)))), none, none, none, none, none, none], []⟩ := by
  have h0 : 0 < q := by omega
  have h8 : q ≤ 8 := by omega
  have q7 : q < 8 := by omega
  obtain ⟨a0, b0, a1, b1, ea⟩ := hx.nat
  have wp := wh_bd hx h0 h8
  have fc : ∀ {Δ : List (Option D)}, Δ[5]? = some (some (.lst ((wts x.num.toNat x.den q).map .int))) → Δ[6]? = some (some (.int (wh x q))) → 21 < Δ.length → ev (run PP n) (.comp .seq [21] [(.var 5)] [] (.call 27 [(.var 21), (.var 6)])) Δ = .ok (fL (ldr x q)) := fun {Δ} d5 d6 hl =>
    frac_comp (fr_b (n := n) (by omega)) (sc_qd wp.1) wp.1 (A := 54) wp.2 (fun z hz => by have := wts_mem a0 b0 a1 b1 h8 hz; omega) (by decide) (by rw [wts_len]; omega) (by rw [p_ev_var, d5]) (fun d => by
      have c6 : (Δ.set 21 (some d))[6]? = some (some (.int (wh x q))) := by rw [List.getElem?_set_ne (by decide)]; exact d6
      have ew : (wts x.num.toNat x.den q).sum = wh x q := rfl
      rw [ew]
      simp -implicitDefEqProofs [c6]) hl
  have la := lad_a (n := n) (by omega) hx (isQ x) q2 h8
  have sa1 := same_b (n := n) 2 (fL (ldr x q)) (sdue_fL (by rw [ldr_len]; omega)) (by omega)
  have af := af_a (n := n) (by omega) x q j (fq x) hx (.inr rfl) q2 q7 (by omega)
  have sa2 := same_b (n := n) 2 (fL (Rj x q j)) (sdue_fL (by rw [Rj_len]; omega)) (by omega)
  rw [tupd_fL] at sa1 sa2
  unfold lWJ
  generalize fL (ldr x q) = LL at *
  generalize fT (ldr x q) = LT at *
  generalize fL (Dj x q j) = DL at *
  generalize fL (Rj x q j) = RL at *
  generalize fT (Rj x q j) = RT at *
  generalize (Tj x q j).map D.int = TI at *
  generalize (Bj x q j).map D.int = BI at *
  generalize (Nj x q j).map D.int = NI at *
  generalize (wts x.num.toNat x.den q).map D.int = WI at *
  generalize fq x = FX at *
  generalize row.map D.int = RM at *
  simp -implicitDefEqProofs [-p_ev_comp, fc, la, sa1, af, sa2]
theorem stWL (h : 8 ≤ n) (q2 : 2 ≤ q) (q6 : q ≤ 6) (hx : XR x) (hj : j ≤ 200) : exSs (run PP n) lWL ⟨[(some (.sh a)), (some (.sh (.lst (row.map .int)))), (some (.sh (.int (q : Int)))), (some (.sh (fq x))), (some (.sh (.int (j : Int)))), (some (.sh (.lst ((wts x.num.toNat x.den q).map .int)))), (some (.sh (.int (wh x q)))), (some (.sh (.lst ((Nj x q j).map .int)))), (some (.sh (.int (uj x q j)))), (some (.sh (.lst ((Tj x q j).map .int)))), (some (.sh (.lst ((Bj x q j).map .int)))), none, none, none, (some (.sh (fL (Dj x q j)))), (some (.sh (fL (Rj x q j)))), none, none, none, none, none, none], []⟩ = .nx ⟨[(some (.sh a)), (some (.sh (.lst (row.map .int)))), (some (.sh (.int (q : Int)))), (some (.sh (fq x))), (some (.sh (.int (j : Int)))), (some (.sh (.lst ((wts x.num.toNat x.den q).map .int)))), (some (.sh (.int (wh x q)))), (some (.sh (.lst ((Nj x q j).map .int)))), (some (.sh (.int (uj x q j)))), (some (.sh (.lst ((Tj x q j).map .int)))), (some (.sh (.lst ((Bj x q j).map .int)))), none, none, none, (some (.sh (fL (Dj x q j)))), (some (.sh (fL (Rj x q j)))), (some (.sh (fL (pre (Rj x q j))))), (some (.sh (fL (Rj x q (j + 1))))), none, none, none, none], []⟩ := by
  have h0 : 0 < q := by omega
  have q7 : q < 8 := by omega
  have up := uj_pos hx h0 j
  have scN := sc_N hx h0 j
  have lN := Nj_len hx h0 j
  have lR := Rj_len x q j
  have sp := sx_pos hx
  have c1 : ∀ {Δ : List (Option D)}, Δ[2]? = some (some (.int (q : Int))) → Δ[7]? = some (some (.lst ((Nj x q j).map .int))) → Δ[8]? = some (some (.int (uj x q j))) → 13 < Δ.length → ev (run PP n) (.comp .r1 [13] [(.op .add (.var 2) (.int 1))] [] (.call 27 [(.bi .sum [(.shi (.var 7) (.var 13))]), (.var 8)])) Δ = .ok (fL (pre (Rj x q j))) := fun {Δ} d2 d7 d8 hl => by
    unfold fL pre
    rw [List.map_map, lR]
    refine comp_rg (n := q + 1) ?_ (by omega) fun k hk => ?_
    · rw [show ((q + 1 : Nat) : Int) = (q : Int) + 1 by omega]
      simp -implicitDefEqProofs [d2]
    · have e7 : (Δ.set 13 (some (.int (k : Int))))[7]? = some (some (.lst ((Nj x q j).map .int))) := by rw [List.getElem?_set_ne (by decide)]; exact d7
      have e8 : (Δ.set 13 (some (.int (k : Int))))[8]? = some (some (.int (uj x q j))) := by rw [List.getElem?_set_ne (by decide)]; exact d8
      have e13 : (Δ.set 13 (some (.int (k : Int))))[13]? = some (some (.int (k : Int))) := by rw [List.getElem?_set_self hl]
      have sh := shi_ints (Nj x q j) k
      have so := sum_ok ((Nj x q j).take k)
      have f := fr_b (n := n) (by omega) ((Nj x q j).take k).sum (uj x q j) (57 + 6 * j) (57 + 6 * j) up (lt_pow (uj_bd hx q7 j) (by omega)) (by omega) (N_sum_bd hx h0 q7 j k) (by omega)
      rw [fq_div up, Sc.frac up (scN.take k).sum] at f
      show _ = Res.ok (fq (sm ((Rj x q j).take k)))
      generalize fq (sm ((Rj x q j).take k)) = R1 at *
      generalize ((Nj x q j).take k).map D.int = TI at *
      generalize ((Nj x q j).take k).sum = TS at *
      generalize (Nj x q j).map D.int = NI at *
      simp -implicitDefEqProofs [e7, e8, e13, sh, so, f]
  have up1 := uj_pos hx h0 (j + 1)
  have r1 := rd_b (n := n) (by omega) x q j hx q2 q7 (by omega)
  have i0 := ix_fq0 x
  have i1 := ix_fq1 x
  have m7 := opm (i := uj x q j) (j := x.num + (x.den : Int)) (A := 3 + 6 * j) (B := 6) (uj_bd hx q7 j) (by unfold sx at sp; omega) (by omega)
  have e7 : uj x q j * (x.num + (x.den : Int)) = uj x q (j + 1) := (uj_succ x q j).symm
  rw [e7] at m7
  have c2 : ∀ {Δ : List (Option D)}, Δ[3]? = some (some (fq x)) → Δ[7]? = some (some (.lst ((Nj x q j).map .int))) → Δ[8]? = some (some (.int (uj x q j))) → 20 < Δ.length → ev (run PP n) (.comp .seq [20] [(.call 32 [(.var 7), (.var 3)])] [] (.call 27 [(.var 20), (.op .mul (.var 8) (.op .add (.idx (.var 3) (.int 0)) (.idx (.var 3) (.int 1))))])) Δ = .ok (fL (Rj x q (j + 1))) := fun {Δ} d3 d7 d8 hl =>
    frac_comp (fr_b (n := n) (by omega)) (sc_N hx h0 (j + 1)) up1 (A := 3 + 6 * (j + 1)) (uj_bd hx q7 (j + 1)) (Nj_bd hx h0 q7 (j + 1)) (by omega) (by rw [Nj_len hx h0]; omega) (by
      generalize fq x = FX at *
      generalize (Nj x q (j + 1)).map D.int = N1 at *
      generalize (Nj x q j).map D.int = NI at *
      simp -implicitDefEqProofs [d3, d7, r1]) (fun d => by
      have e3 : (Δ.set 20 (some d))[3]? = some (some (fq x)) := by rw [List.getElem?_set_ne (by decide)]; exact d3
      have e8 : (Δ.set 20 (some d))[8]? = some (some (.int (uj x q j))) := by rw [List.getElem?_set_ne (by decide)]; exact d8
      generalize fq x = FX at *
      simp -implicitDefEqProofs [e3, e8, i0, i1, m7]) hl
  unfold lWL
  generalize fL (pre (Rj x q j)) = PL at *
  generalize fL (Rj x q (j + 1)) = RL1 at *
  generalize fL (Dj x q j) = DL at *
  generalize fL (Rj x q j) = RL at *
  generalize (Tj x q j).map D.int = TI at *
  generalize (Bj x q j).map D.int = BI at *
  generalize (Nj x q j).map D.int = NI at *
  generalize (wts x.num.toNat x.den q).map D.int = WI at *
  generalize fq x = FX at *
  generalize row.map D.int = RM at *
  simp -implicitDefEqProofs [-p_ev_comp, c1, c2]
theorem stWN (h : 8 ≤ n) (q2 : 2 ≤ q) (q6 : q ≤ 6) (hx : XR x) (hj : j ≤ 200) : exSs (run PP n) lWN ⟨[(some (.sh a)), (some (.sh (.lst (row.map .int)))), (some (.sh (.int (q : Int)))), (some (.sh (fq x))), (some (.sh (.int (j : Int)))), (some (.sh (.lst ((wts x.num.toNat x.den q).map .int)))), (some (.sh (.int (wh x q)))), (some (.sh (.lst ((Nj x q j).map .int)))), (some (.sh (.int (uj x q j)))), (some (.sh (.lst ((Tj x q j).map .int)))), (some (.sh (.lst ((Bj x q j).map .int)))), none, none, none, (some (.sh (fL (Dj x q j)))), (some (.sh (fL (Rj x q j)))), (some (.sh (fL (pre (Rj x q j))))), (some (.sh (fL (Rj x q (j + 1))))), none, none, none, none], []⟩ = .rt (.sh (.bl true)) := by
  have q7 : q < 8 := by omega
  have br := brow_Rj hx q2 q7 j
  have lR := Rj_len x q j
  have ss := ss_a (n := n) (by omega) (3 + 7 * j) (Rj x q j) (fL (Rj x q j)) (.inl rfl) br (by omega) (by omega)
  have dsc : Dsc (Rj x q j) := SRn_dsc _ _ q j
  rw [srt_self dsc] at ss
  have sr := sr_a (n := n) (by omega) x.num (x.den : Int) (3 + 7 * j) (Rj x q j) (fL (Rj x q j)) (fq x) hx.ok (.inr rfl) (.inl rfl) br (by omega) (by omega)
  rw [← Rj_succ] at sr
  have sa1 := same_b (n := n) 2 (fL (pre (Rj x q j))) (sdue_fL (by rw [len_pre]; omega)) (by omega)
  have sa2 := same_b (n := n) 2 (fL (Rj x q (j + 1))) (sdue_fL (by rw [Rj_len]; omega)) (by omega)
  rw [tupd_fL] at sa1 sa2
  have ss : run PP n 9 [fL (Rj x q j)] = .ok (.sh (fT (pre (Rj x q j)))) := ss
  unfold lWN
  generalize fL (pre (Rj x q j)) = PL at *
  generalize fT (pre (Rj x q j)) = PT at *
  generalize fL (Rj x q (j + 1)) = RL1 at *
  generalize fT (Rj x q (j + 1)) = RT1 at *
  generalize fL (Dj x q j) = DL at *
  generalize fL (Rj x q j) = RL at *
  generalize (Tj x q j).map D.int = TI at *
  generalize (Bj x q j).map D.int = BI at *
  generalize (Nj x q j).map D.int = NI at *
  generalize (wts x.num.toNat x.den q).map D.int = WI at *
  generalize fq x = FX at *
  generalize row.map D.int = RM at *
  simp -implicitDefEqProofs [ss, sr, sa1, sa2]
theorem walk_ok {ns : List Int} (h : 10 ≤ n) (hn : ns.length ≤ 63) : run PP n 35 [.fz (ns.map .int)] = .ok (.sh (.bl true)) := by
  obtain ⟨k, rfl⟩ := one_more (show 1 ≤ n by omega)
  have h8 : 8 ≤ k := by omega
  obtain ⟨c, row, a1, hr, a3⟩ := row_b (n := k) (by omega) (ns := ns) (by omega) (k := 0) (by decide) (sizes := szW) (sizesOk_of (by decide) (by decide))
  obtain ⟨q, x, q2, q6, hx, A⟩ := stlW (n := k) (by omega) a1 a3 hr
  obtain ⟨j, hj, B⟩ := stWB (n := k) (a := .fz (ns.map .int)) (q := q) (x := x) h8 hr
  have C := stWC (n := k) (a := .fz (ns.map .int)) (row := row) (j := j) h8 q2 q6 hx
  have D := stWD (n := k) (a := .fz (ns.map .int)) (row := row) h8 q2 q6 hx hj
  have E := stWE (n := k) (a := .fz (ns.map .int)) (row := row) (j := j) h8 q2 q6 hx
  have F := stWF (n := k) (a := .fz (ns.map .int)) (row := row) h8 q2 q6 hx hj
  have H := stWH (n := k) (a := .fz (ns.map .int)) (row := row) h8 q2 q6 hx hj
  have I := stWI (n := k) (a := .fz (ns.map .int)) (row := row) h8 q2 q6 hx hj
  have J := stWJ (n := k) (a := .fz (ns.map .int)) (row := row) h8 q2 q6 hx hj
  have L := stWL (n := k) (a := .fz (ns.map .int)) (row := row) h8 q2 q6 hx hj
  have N := stWN (n := k) (a := .fz (ns.map .int)) (row := row) h8 q2 q6 hx hj
  refine run_at (P := PP) (n := k) d__law_walk_holds rfl rfl ?_
  have eb : d__law_walk_holds.body = lW0 ++ (lWB ++ (lWC ++ (lWD ++ (lWE ++ (lWF ++ (lWH ++ (lWI ++ (lWJ ++ (lWL ++ lWN))))))))) := rfl
  have en : enter d__law_walk_holds.ns [.fz (ns.map .int)] = ⟨[(some (.sh (.fz (ns.map .int)))), none, none, none, none, none, none, none, none, none, none, none, none, none, none, none, none, none, none, none, none, none], []⟩ := rfl
  rw [eb, en, exSs_app, A, Out.nxt_nx, exSs_app, B, Out.nxt_nx, exSs_app, C, Out.nxt_nx, exSs_app, D, Out.nxt_nx, exSs_app, E, Out.nxt_nx, exSs_app, F, Out.nxt_nx, exSs_app, H, Out.nxt_nx, exSs_app, I, Out.nxt_nx, exSs_app, J, Out.nxt_nx, exSs_app, L, Out.nxt_nx, N]
  rfl
end
theorem law_true (ns : List Int) (h : ns.length ≤ 63) : run (funs.map (·.d)) 100 40 [.fz (ns.map .int)] = .ok (.sh (.bl true)) := by
  have W := walk_ok (n := 99) (by decide) h
  have N := needed_ok (n := 99) (by decide) h
  refine run_at (P := PP) (n := 99) d_law rfl rfl ?_
  generalize ns.map D.int = NS at *
  simp -implicitDefEqProofs [d_law, W, N]
end L_onewarmth_k75_walk_bounds_whole
end

section
set_option Elab.async false
set_option linter.all false
set_option maxRecDepth 100000
set_option maxHeartbeats 0
namespace L_onewarmth_k75_walk_bounds_whole
open PySem PySem.Spec PyProof.Rows L2
abbrev RR : PySem.W.OpenRow := PySem.W.OpenLaw.row PySem.Challenge.rw_onewarmth_k75_walk_bounds_whole
abbrev hk : PySem.W.Hook := R.hookL 2 (R.faOf funs) (funs.map R.Fun.dd) (R.exOf true) lams
def ob (s : PySem.W.SharedT) : He.AlD × Bool × Bool := R.obsL 2 (R.faOf funs) (funs.map R.Fun.dd) (R.exOf true) lams (HandSHeadRun.getT s)
theorem ob_eq (s : PySem.W.SharedT) : ob s = hk.obs s.abs := R.obsL_eq (HandSHeadRun.getT_eq s)
def loose : List Str := ([("gcd" : Str), ("WarmthError" : Str), ("NoRatio" : Str), ("ratio" : Str), ("added" : Str), ("subtracted" : Str), ("timed" : Str), ("divided" : Str), ("sum_of" : Str), ("compared" : Str), ("whole_parts" : Str), ("falling" : Str), ("sorted_sums" : Str), ("round_shares" : Str), ("paired" : Str), ("sorted_round" : Str), ("even_filling" : Str), ("after_rounds" : Str), ("whole_power" : Str), ("warm_weights" : Str)] : List Str) ++ ([("ladder" : Str), ("lacks_of" : Str), ("lacks" : Str), ("walked" : Str), ("walk_bounds" : Str), ("rounds_needed" : Str), ("_law_whole" : Str), ("_law_cell" : Str), ("_law_digits" : Str), ("_law_gcd" : Str), ("_law_fraction" : Str), ("_law_is_fraction" : Str), ("_law_less" : Str), ("_law_power" : Str), ("_law_same" : Str), ("_law_round" : Str), ("_law_walked" : Str), ("_law_lack_tops" : Str), ("_law_walk_holds" : Str), ("_law_course" : Str)] : List Str) ++ ([("_law_first" : Str), ("_law_most_told" : Str), ("_law_needed_holds" : Str)] : List Str)
theorem hrunT (w : World) : HandSHeadRun.RunEqI RR (PySem.W.view RR.prog [0, 51]) hk ob 3000 loose w := by
  unfold HandSHeadRun.RunEqI
  kernel_rfl
end L_onewarmth_k75_walk_bounds_whole
open PySem PySem.W PySem.Calls PyProof.Rows
theorem PySem.Challenge.cw_onewarmth_k75_walk_bounds_whole_holds : PySem.Challenge.rw_onewarmth_k75_walk_bounds_whole.Holds := by
  w_on; o_law
  refine HandSHeadRun.head_imp (r := OpenLaw.row PySem.Challenge.rw_onewarmth_k75_walk_bounds_whole) (q := view (OpenLaw.row PySem.Challenge.rw_onewarmth_k75_walk_bounds_whole).prog [0, 51]) (H := L_onewarmth_k75_walk_bounds_whole.hk) (ob := L_onewarmth_k75_walk_bounds_whole.ob) (M := 3000) (loose := L_onewarmth_k75_walk_bounds_whole.loose) (d := HandSHeadRun.topDef (OpenLaw.row PySem.Challenge.rw_onewarmth_k75_walk_bounds_whole).prog 51) (kwd := []) L_onewarmth_k75_walk_bounds_whole.ob_eq
    L_onewarmth_k75_walk_bounds_whole.hrunT (by kernel_rfl) (by kernel_rfl) (by kernel_rfl) (by rfl) (by first | assumption | decide +kernel) (by decide +kernel) ⟨rfl, rfl, rfl, rfl, rfl, by decide +kernel⟩ ?hw ?hc
  case hw => w_witness2
  case hc =>
    refine R.walk_ofL (l := PySem.Challenge.rw_onewarmth_k75_walk_bounds_whole) (n := 63) (k := 100) (x := "script") (CX := R.CXa) rfl (by decide) (by kernel_rfl) ⟨rfl, by decide, by decide⟩ ?F (fun _ _ _ _ z => R.CXa_not z)
    intro w mg fa h Y G hmg0
    obtain ⟨K, KX, c, ce, L⟩ := Y
    have hmg : mg ("law" : PySem.Str) = some (.ref fa) := by
      have e : (HandSHeadRun.topDef (OpenLaw.row PySem.Challenge.rw_onewarmth_k75_walk_bounds_whole).prog 51).name = ("law" : PySem.Str) := by kernel_rfl
      rw [← e]
      exact hmg0
    exact R.law_ofL (i := 40) (fl := L_onewarmth_k75_walk_bounds_whole.f_law) KX G c ce L L_onewarmth_k75_walk_bounds_whole.chk rfl rfl hmg L_onewarmth_k75_walk_bounds_whole.law_true
end
