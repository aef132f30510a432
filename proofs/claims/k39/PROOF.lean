import PyProof.Rows.All
import Wide.All
import OpenK.AllK
import Wide.FinOn
import HandS.ForMost
import HandS.IsInst
import HandS.Deep
import HandS.Wide
import HandS.TupAny
import HandS.TupMul
import HandS.SortInts
import HandS.Style
import HandS.Flow
import HandS.Conv
import HandS.SetFor
import HandS.WideMore
import KE.GoesNew
import PySem.Challenge.RW_doublepay_k39_whole_coins_moved
set_option Elab.async false
set_option linter.all false
set_option maxRecDepth 100000
set_option maxHeartbeats 4000000
set_option exponentiation.threshold 10000
/-! DPL: a small language, its evaluator. Values are PyData; a list that one name alone holds is changed in place. -/
namespace DP
open PySem

abbrev D := PyData
inductive SV where
  | un
  | val (d : D)
  | own (ds : List D)
  | row (ds : List D)
abbrev Rho := List SV
abbrev FT := Nat → Option (List D) → List D → Option (SV × List D)

inductive Op2 where
  | add | sub | mul | fdiv | mod | pow
inductive Cm where
  | eq | ne | lt | le | gt | ge | isin | notin
inductive Ty where
  | int | bool | tuple | list | str
inductive B1 where
  | len | sum | tuple | list | int | abs | max | min | sorted | str
inductive B2 where
  | max | min
inductive Mf where
  | count | index
inductive Tg where
  | one (i : Nat)
  | many (is : List Nat)

inductive E where
  | var (i : Nat) | non | bl (b : Bool) | int (i : Int) | str (x : Str)
  | op (o : Op2) (a b : E) | neg (a : E) | not (a : E) | and (a b : E) | or (a b : E) | ife (c a b : E)
  | isn (a : E) | isnt (a : E) | cmp (o : Cm) (a b : E) | chain (o p : Cm) (a b c : E)
  | tup (es : E) | lst (es : E) | idx (a i : E) | slice (a lo hi : E) | rev (a : E)
  | comp (el it : E) (t : Tg) (cond : E) (vs : List Nat)
  | call (f : Nat) (es : E) | callr (f r : Nat) (es : E)
  | isi (a : E) (t : Ty) | isi2 (a : E) (t u : Ty)
  | blt1 (f : B1) (a : E) | blt2 (f : B2) (a b : E) | lrng (it : E) | meth (m : Mf) (o a : E)
  | nil | cons (e es : E)
  | seq (e : E) | rng1 (a : E) | rng2 (a b : E) | enum (e : E) | zip (a b : E)

inductive S where
  | skip | seq (a b : S)
  | set (i : Nat) (e : E) | par (is : List Nat) (es : E) | unp (is : List Nat) (e : E)
  | seti (j : Nat) (ix e : E) | augi (j : Nat) (ix : E) (o : Op2) (e : E) | aug (i : Nat) (o : Op2) (e : E) | app (j : Nat) (e : E)
  | expr (e : E) | for_ (t : Tg) (it : E) (b : S) | while_ (c : E) (b : S) | ite (c : E) (a b : S)
  | ret (e : E) | retn | pass | brk | cont | never

inductive Out where
  | nx | bk | ct
  | rt (v : SV)

/-! ### values -/
def frz : SV → Option D
  | .val d => some d
  | .own ds => some (.list ds)
  | _ => none
def truth : SV → Option Bool
  | .val (.bool b) => some b
  | _ => none
def isNon : D → Bool
  | .none => true
  | _ => false
def scrD (ns : List Int) : D := .dict [(.none, .list (ns.map .int))]
def big (i : Int) : Bool := decide (i.natAbs.log2 < 9000)
def okL (n : Nat) : Bool := decide (n < 16777216)
def repD (ds : List D) (k : Nat) : List D := (List.replicate k ds).flatten
def op2 : Op2 → D → D → Option SV
  | .add, .int i, .int j => some (.val (.int (i + j)))
  | .add, .list a, .list b => if okL (a.length + b.length) then some (.own (a ++ b)) else none
  | .add, .tuple a, .tuple b => if okL (a.length + b.length) then some (.val (.tuple (a ++ b))) else none
  | .add, .str a, .str b => if okL (a.length + b.length) then some (.val (.str (a ++ b))) else none
  | .sub, .int i, .int j => some (.val (.int (i - j)))
  | .mul, .int i, .int j => if big i && big j then some (.val (.int (i * j))) else none
  | .mul, .list a, .int k => if okL (a.length * k.toNat) && decide (k < 1000000) && decide (-1000000 < k) then some (.own (repD a k.toNat)) else none
  | .mul, .tuple a, .int k => if decide (k ≤ 1000) && decide (-1000 ≤ k) && decide (0 < a.length) && decide (a.length ≤ 1000) then some (.val (.tuple (repD a k.toNat))) else none
  | .fdiv, .int i, .int j => if decide (0 < j) && big j then some (.val (.int (i / j))) else none
  | .mod, .int i, .int j => if decide (0 < j) then some (.val (.int (i % j))) else none
  | .pow, .int i, .int j => if decide (0 ≤ j) && decide (j ≤ 1000000) && decide (i.natAbs < 2 ^ 64) then some (.val (.int (i ^ j.toNat))) else none
  | _, _, _ => none
def flatD : D → Bool
  | .none => true
  | .bool _ => true
  | .int _ => true
  | .str _ => true
  | _ => false
def shp (d : D) : Bool := SeqAt.shaped d
def cmp2 : Cm → D → D → Option Bool
  | .eq, .int i, .int j => some (decide (i = j))
  | .ne, .int i, .int j => some (!decide (i = j))
  | .eq, x, y => if shp x && shp y then some (PyData.eqv x y) else none
  | .ne, x, y => if shp x && shp y then some (!PyData.eqv x y) else none
  | .lt, .int i, .int j => some (decide (i < j))
  | .le, .int i, .int j => some (decide (i ≤ j))
  | .gt, .int i, .int j => some (decide (j < i))
  | .ge, .int i, .int j => some (decide (j ≤ i))
  | .isin, x, .list ys => if shp x && shp (.list ys) then some (ys.any fun z => PyData.eqv z x) else none
  | .notin, x, .list ys => if shp x && shp (.list ys) then some (!ys.any fun z => PyData.eqv z x) else none
  | .isin, x, .tuple ys => if flatD x && ys.all flatD then some (ys.any fun z => PyData.eqv z x) else none
  | .notin, x, .tuple ys => if flatD x && ys.all flatD then some (!ys.any fun z => PyData.eqv z x) else none
  | _, _, _ => none
def ixD (ds : List D) (i : Int) : Option D := L2.atI ds i
def ob {α β : Type} (x : Option α) (f : α → Option β) : Option β := match x with
  | some a => f a
  | none => none
def itemsD : D → Option (List D)
  | .list ds => some ds
  | .tuple ds => some ds
  | .dict [(.none, .list ds)] => some ds
  | _ => none
def idx2 (x : D) : D → Option D
  | .int i => ob (itemsD x) fun ds => ixD ds i
  | _ => none
def cutD (ds : List D) (lo hi : Option Int) : List D := (ds.drop (HT.sIx ds.length 0 lo)).take (HT.sIx ds.length ds.length hi - HT.sIx ds.length 0 lo)
def slice3 (lo hi : Option Int) : D → Option SV
  | .list ds => some (.own (cutD ds lo hi))
  | .tuple ds => some (.val (.tuple (cutD ds lo hi)))
  | _ => none
def partD : D → Option (Option Int)
  | .int i => some (some i)
  | _ => none
def intsD : List D → Option (List Int)
  | [] => some []
  | .int i :: r => (intsD r).map (i :: ·)
  | _ => none
def seqD : D → Option (List D)
  | .list ds => some ds
  | .tuple ds => some ds
  | _ => none
def maxI : Int → List Int → Int
  | m, [] => m
  | m, x :: r => maxI (if m < x then x else m) r
def minI : Int → List Int → Int
  | m, [] => m
  | m, x :: r => minI (if x < m then x else m) r
def insI (x : Int) : List Int → List Int
  | [] => [x]
  | y :: r => if x ≤ y then x :: y :: r else y :: insI x r
def sortI : List Int → List Int
  | [] => []
  | x :: r => insI x (sortI r)
def blt1 : B1 → D → Option SV
  | .len, d => ob (itemsD d) fun ds => some (.val (.int ds.length))
  | .sum, d => ob (seqD d) fun ds => ob (intsD ds) fun ns => some (.val (.int ns.sum))
  | .tuple, .list ds => some (.val (.tuple ds))
  | .tuple, .tuple ds => some (.val (.tuple ds))
  | .list, .list ds => some (.own ds)
  | .list, .tuple ds => some (.own ds)
  | .int, .int i => some (.val (.int i))
  | .int, .bool b => some (.val (.int (if b then 1 else 0)))
  | .abs, .int i => some (.val (.int (if i < 0 then -i else i)))
  | .max, d => ob (seqD d) fun ds => ob (intsD ds) fun ns => (match ns with | [] => none | x :: r => some (.val (.int (maxI x r))))
  | .min, d => ob (seqD d) fun ds => ob (intsD ds) fun ns => (match ns with | [] => none | x :: r => some (.val (.int (minI x r))))
  | .sorted, .list ds => ob (intsD ds) fun ns => some (.own ((sortI ns).map .int))
  | _, _ => none
def blt2 : B2 → D → D → Option D
  | .max, .int i, .int j => some (.int (if i < j then j else i))
  | .min, .int i, .int j => some (.int (if j < i then j else i))
  | _, _, _ => none
def tyD : D → Option Ty
  | .bool _ => some .bool
  | .int _ => some .int
  | .str _ => some .str
  | .list _ => some .list
  | .tuple _ => some .tuple
  | _ => none
def isiT (d : D) (t : Ty) : Option Bool := match d, t with
  | .none, _ => some false
  | .bool _, .bool => some true
  | .bool _, .int => some true
  | .bool _, _ => some false
  | .int _, .int => some true
  | .int _, _ => some false
  | .str _, .str => some true
  | .str _, _ => some false
  | .list _, .list => some true
  | .list _, _ => some false
  | .tuple _, .tuple => some true
  | .tuple _, _ => some false
  | .dict _, _ => none
def methD : Mf → D → D → Option D
  | .count, .list ds, .int k => ob (intsD ds) fun ns => some (.int (ns.count k))
  | .index, .list ds, .int k => ob (intsD ds) fun ns => ob (ns.findIdx? fun z => z == k) fun j => some (.int (j : Nat))
  | _, _, _ => none

/-! ### environments -/
def rd (ρ : Rho) (i : Nat) : SV := ρ.getD i .un
/-- store; a slot that holds the row is never stored to -/
def put (ρ : Rho) (i : Nat) (v : SV) : Option Rho := match ρ[i]? with
  | some (.row _) => none
  | some _ => some (ρ.set i v)
  | none => none
def puts : Rho → List Nat → List SV → Option Rho
  | ρ, [], [] => some ρ
  | ρ, i :: is, v :: vs => match put ρ i v with | some ρ1 => puts ρ1 is vs | none => none
  | _, _, _ => none
def bindT : Tg → D → Rho → Option Rho
  | .one i, d, ρ => put ρ i (.val d)
  | .many is, .tuple ds, ρ => puts ρ is (ds.map .val)
  | _, _, _ => none
def wipe (ρ : Rho) : List Nat → Rho
  | [] => ρ
  | v :: vs => (wipe ρ vs).set v .un
/-- the slots vs as they were ahead of a comprehension -/
def back (ρ₀ ρ : Rho) : List Nat → Rho
  | [] => ρ
  | v :: vs => (back ρ₀ ρ vs).set v (rd ρ₀ v)
def isVar : E → Option Nat
  | .var i => some i
  | _ => none
def slotD (ρ : Rho) (i : Nat) : Option D := match rd ρ i with
  | .val d => some d
  | .own ds => some (.list ds)
  | .row ds => some (.list ds)
  | .un => none
def slotL (ρ : Rho) (i : Nat) : Option (List D) := match rd ρ i with
  | .own ds => some ds
  | .row ds => some ds
  | _ => none
/-- the slot's list is changed in place -/
def putL (ρ : Rho) (i : Nat) (ds : List D) : Option Rho := match rd ρ i with
  | .own _ => some (ρ.set i (.own ds))
  | .row _ => some (ρ.set i (.row ds))
  | _ => none
def compL (f : D → Rho → Option (List D × Rho)) : List D → Rho → Option (List D × Rho)
  | [], ρ => some ([], ρ)
  | x :: xs, ρ => match f x ρ with
    | none => none
    | some (ys, ρ1) => match compL f xs ρ1 with
      | none => none
      | some (zs, ρ2) => some (ys ++ zs, ρ2)
def zipD : List D → List D → List D
  | x :: xs, y :: ys => .tuple [x, y] :: zipD xs ys
  | _, _ => []
def enumD : Nat → List D → List D
  | _, [] => []
  | n, x :: xs => .tuple [.int n, x] :: enumD (n + 1) xs
def rngD (a b : Int) : List D := (List.range (b - a).toNat).map fun i => .int (a + (i : Nat))
def rngOk (a : Int) : Bool := decide (-1000000000 < a) && decide (a < 1000000000)

def bd {α β : Type} (x : Option (α × Rho)) (f : α → Rho → Option β) : Option β := match x with
  | some (a, r) => f a r
  | none => none
def bz {β : Type} (x : Option (SV × Rho)) (f : D → Rho → Option β) : Option β := match x with
  | some (v, r) => (match frz v with | some d => f d r | none => none)
  | none => none
def bt {β : Type} (x : Option (SV × Rho)) (f : Bool → Rho → Option β) : Option β := match x with
  | some (v, r) => (match truth v with | some d => f d r | none => none)
  | none => none
def isNil : E → Bool
  | .nil => true
  | _ => false
/-- read: a list that a name holds stays the name's own -/
def rdr (ρ : Rho) (a : E) (r : Option (SV × Rho)) : Option (D × Rho) := match isVar a with
  | some i => ob (slotD ρ i) fun d => some (d, ρ)
  | none => bz r fun d ρ1 => some (d, ρ1)
/-- a part of a slice, that may be left out -/
def prt (ρ : Rho) (a : E) (r : Option (SV × Rho)) : Option (Option Int × Rho) := match isNil a with
  | true => some (none, ρ)
  | false => bz r fun d ρ1 => ob (partD d) fun o => some (o, ρ1)
/-- the test of a clause, that may be left out -/
def cnd (ρ : Rho) (a : E) (r : Option (SV × Rho)) : Option (Bool × Rho) := match isNil a with
  | true => some (true, ρ)
  | false => bt r fun k ρ1 => some (k, ρ1)

/-! ### the evaluator -/
mutual
def ev (c : FT) : E → Rho → Option (SV × Rho)
  | .var i, ρ => (match rd ρ i with
    | .val d => some (.val d, ρ)
    | .own ds => some (.val (.list ds), ρ.set i (.val (.list ds)))
    | _ => none)
  | .non, ρ => some (.val .none, ρ)
  | .bl b, ρ => some (.val (.bool b), ρ)
  | .int i, ρ => some (.val (.int i), ρ)
  | .str x, ρ => some (.val (.str x), ρ)
  | .op o a b, ρ => bz (ev c a ρ) fun x ρ1 => bz (ev c b ρ1) fun y ρ2 => ob (op2 o x y) fun v => some (v, ρ2)
  | .neg a, ρ => bz (ev c a ρ) fun x ρ1 => (match x with | .int i => some (.val (.int (-i)), ρ1) | _ => none)
  | .not a, ρ => bt (ev c a ρ) fun t ρ1 => some (.val (.bool (!t)), ρ1)
  | .and a b, ρ => bt (ev c a ρ) fun t ρ1 => if t = true then ev c b ρ1 else some (.val (.bool false), ρ1)
  | .or a b, ρ => bt (ev c a ρ) fun t ρ1 => if t = true then some (.val (.bool true), ρ1) else ev c b ρ1
  | .ife k a b, ρ => bt (ev c k ρ) fun t ρ1 => if t = true then ev c a ρ1 else ev c b ρ1
  | .isn a, ρ => bz (ev c a ρ) fun x ρ1 => some (.val (.bool (isNon x)), ρ1)
  | .isnt a, ρ => bz (ev c a ρ) fun x ρ1 => some (.val (.bool (!isNon x)), ρ1)
  | .cmp o a b, ρ => bz (ev c a ρ) fun x ρ1 => bz (ev c b ρ1) fun y ρ2 => ob (cmp2 o x y) fun t => some (.val (.bool t), ρ2)
  | .chain o p a b d, ρ => bz (ev c a ρ) fun x ρ1 => bz (ev c b ρ1) fun y ρ2 => ob (cmp2 o x y) fun t =>
      if t = true then bz (ev c d ρ2) fun z ρ3 => ob (cmp2 p y z) fun t2 => some (.val (.bool t2), ρ3) else some (.val (.bool false), ρ2)
  | .tup es, ρ => bd (evs c es ρ) fun ds ρ1 => if okL ds.length then some (.val (.tuple ds), ρ1) else none
  | .lst es, ρ => bd (evs c es ρ) fun ds ρ1 => if okL ds.length then some (.own ds, ρ1) else none
  | .idx a i, ρ => (match isVar a with
    | some j => ob (slotD ρ j) fun _ => bz (ev c i ρ) fun y ρ1 => ob (slotD ρ1 j) fun x => ob (idx2 x y) fun d => some (.val d, ρ1)
    | none => bz (ev c a ρ) fun x ρ1 => bz (ev c i ρ1) fun y ρ2 => ob (idx2 x y) fun d => some (.val d, ρ2))
  | .slice a lo hi, ρ => (match isVar a with
    | some j => ob (slotD ρ j) fun _ => bd (prt ρ lo (ev c lo ρ)) fun l ρ2 => bd (prt ρ2 hi (ev c hi ρ2)) fun h ρ3 => ob (slotD ρ3 j) fun x => ob (slice3 l h x) fun v => some (v, ρ3)
    | none => bz (ev c a ρ) fun x ρ1 => bd (prt ρ1 lo (ev c lo ρ1)) fun l ρ2 => bd (prt ρ2 hi (ev c hi ρ2)) fun h ρ3 => ob (slice3 l h x) fun v => some (v, ρ3))
  | .rev a, ρ => bd (rdr ρ a (ev c a ρ)) fun x ρ1 => (match x with | .list ds => some (.own ds.reverse, ρ1) | _ => none)
  | .comp el it t cond vs, ρ => bd (evi c it ρ) fun xs ρ1 =>
      bd (compL (fun x ρ2 => ob (bindT t x ρ2) fun ρ3 => bd (cnd ρ3 cond (ev c cond ρ3)) fun k ρ4 => if k = true then bz (ev c el ρ4) fun y ρ5 => some ([y], wipe ρ5 vs) else some ([], wipe ρ4 vs)) xs (wipe ρ1 vs)) fun ys ρ6 =>
        if okL ys.length then some (.own ys, back ρ1 ρ6 vs) else none
  | .call f es, ρ => bd (evs c es ρ) fun ds ρ1 => ob (c f none ds) fun p => some (p.1, ρ1)
  | .callr f r es, ρ => ob (slotL ρ r) fun _ => bd (evs c es ρ) fun ds ρ1 => ob (slotL ρ1 r) fun row => ob (c f (some row) ds) fun p => ob (putL ρ1 r p.2) fun ρ2 => some (p.1, ρ2)
  | .isi a t, ρ => bz (ev c a ρ) fun x ρ1 => ob (isiT x t) fun k => some (.val (.bool k), ρ1)
  | .isi2 a t u, ρ => bz (ev c a ρ) fun x ρ1 => ob (isiT x t) fun k => ob (isiT x u) fun l => some (.val (.bool (k || l)), ρ1)
  | .blt1 f a, ρ => bd (rdr ρ a (ev c a ρ)) fun x ρ1 => ob (blt1 f x) fun v => some (v, ρ1)
  | .blt2 f a b, ρ => bz (ev c a ρ) fun x ρ1 => bz (ev c b ρ1) fun y ρ2 => ob (blt2 f x y) fun v => some (.val v, ρ2)
  | .lrng it, ρ => bd (evi c it ρ) fun ds ρ1 => if okL ds.length then some (.own ds, ρ1) else none
  | .meth m o a, ρ => bz (ev c o ρ) fun x ρ1 => bz (ev c a ρ1) fun y ρ2 => ob (methD m x y) fun v => some (.val v, ρ2)
  | _, _ => none
def evs (c : FT) : E → Rho → Option (List D × Rho)
  | .nil, ρ => some ([], ρ)
  | .cons e es, ρ => bz (ev c e ρ) fun d ρ1 => bd (evs c es ρ1) fun ds ρ2 => some (d :: ds, ρ2)
  | _, _ => none
def evi (c : FT) : E → Rho → Option (List D × Rho)
  | .seq e, ρ => bz (ev c e ρ) fun x ρ1 => ob (seqD x) fun ds => some (ds, ρ1)
  | .rng1 a, ρ => bz (ev c a ρ) fun x ρ1 => (match x with | .int n => if rngOk n then some (rngD 0 n, ρ1) else none | _ => none)
  | .rng2 a b, ρ => bz (ev c a ρ) fun x ρ1 => bz (ev c b ρ1) fun y ρ2 => (match x, y with | .int n, .int m => if rngOk n && rngOk m then some (rngD n m, ρ2) else none | _, _ => none)
  | .enum e, ρ => bz (ev c e ρ) fun x ρ1 => ob (seqD x) fun ds => some (enumD 0 ds, ρ1)
  | .zip a b, ρ => bz (ev c a ρ) fun x ρ1 => ob (seqD x) fun ds => bz (ev c b ρ1) fun y ρ2 => ob (seqD y) fun es => some (zipD ds es, ρ2)
  | _, _ => none
end
/-- several values, each as it comes -/
def evm (c : FT) : E → Rho → Option (List SV × Rho)
  | .nil, ρ => some ([], ρ)
  | .cons e es, ρ => bd (ev c e ρ) fun v ρ1 => bd (evm c es ρ1) fun vs ρ2 => some (v :: vs, ρ2)
  | _, _ => none
/-- what is returned: a list that a name holds goes with it -/
def evo (c : FT) (e : E) (ρ : Rho) : Option (SV × Rho) := match isVar e with
  | some i => (match rd ρ i with
    | .own ds => some (.own ds, ρ.set i .un)
    | _ => ev c e ρ)
  | none => ev c e ρ
def forL (f : D → Rho → Option (Out × Rho)) : List D → Rho → Option (Out × Rho)
  | [], ρ => some (.nx, ρ)
  | x :: xs, ρ => match f x ρ with
    | none => none
    | some (.rt v, ρ1) => some (.rt v, ρ1)
    | some (.bk, ρ1) => some (.nx, ρ1)
    | some (_, ρ1) => forL f xs ρ1
def whileL (t : Rho → Option (Bool × Rho)) (f : Rho → Option (Out × Rho)) : Nat → Rho → Option (Out × Rho)
  | 0, _ => none
  | n + 1, ρ => match t ρ with
    | none => none
    | some (false, ρ1) => some (.nx, ρ1)
    | some (true, ρ1) => match f ρ1 with
      | none => none
      | some (.rt v, ρ2) => some (.rt v, ρ2)
      | some (.bk, ρ2) => some (.nx, ρ2)
      | some (_, ρ2) => whileL t f n ρ2
/-- the turns that a while may take -/
def fuel : Nat := 1000000000
def augO (o : Op2) (x y : D) : Option D := match op2 o x y with
  | some (.val d) => some d
  | _ => none
def isI : D → Bool
  | .int _ => true
  | _ => false
def ex (c : FT) : S → Rho → Option (Out × Rho)
  | .skip, ρ => some (.nx, ρ)
  | .seq a b, ρ => (match ex c a ρ with
    | some (.nx, ρ1) => ex c b ρ1
    | r => r)
  | .set i e, ρ => bd (ev c e ρ) fun v ρ1 => ob (put ρ1 i v) fun ρ2 => some (.nx, ρ2)
  | .par is es, ρ => bd (evm c es ρ) fun vs ρ1 => ob (puts ρ1 is vs) fun ρ2 => some (.nx, ρ2)
  | .unp is e, ρ => bz (ev c e ρ) fun d ρ1 => ob (bindT (.many is) d ρ1) fun ρ2 => some (.nx, ρ2)
  | .seti j ix e, ρ => bz (ev c e ρ) fun d ρ1 => ob (slotL ρ1 j) fun _ => bz (ev c ix ρ1) fun y ρ2 => ob (slotL ρ2 j) fun ds =>
      (match y with | .int k => ob (L2.ixN ds.length k) fun n => ob (putL ρ2 j (ds.set n d)) fun ρ3 => some (.nx, ρ3) | _ => none)
  | .augi j ix o e, ρ => ob (slotL ρ j) fun _ => bz (ev c ix ρ) fun y ρ1 => ob (slotL ρ1 j) fun ds => (match y with
      | .int k => ob (ixD ds k) fun x => bz (ev c e ρ1) fun z ρ2 => ob (slotL ρ2 j) fun ds2 => if isI x && isI z then ob (augO o x z) fun w => ob (L2.ixN ds2.length k) fun n => ob (putL ρ2 j (ds2.set n w)) fun ρ3 => some (.nx, ρ3) else none
      | _ => none)
  | .aug i o e, ρ => ob (slotD ρ i) fun x => bz (ev c e ρ) fun z ρ1 => if isI x && isI z then ob (augO o x z) fun w => ob (put ρ1 i (.val w)) fun ρ2 => some (.nx, ρ2) else none
  | .app j e, ρ => ob (slotL ρ j) fun _ => bz (ev c e ρ) fun d ρ1 => ob (slotL ρ1 j) fun ds => if okL ds.length then ob (putL ρ1 j (ds ++ [d])) fun ρ2 => some (.nx, ρ2) else none
  | .expr e, ρ => bd (ev c e ρ) fun _ ρ1 => some (.nx, ρ1)
  | .for_ t it b, ρ => bd (evi c it ρ) fun xs ρ1 => forL (fun x ρ2 => ob (bindT t x ρ2) fun ρ3 => ex c b ρ3) xs ρ1
  | .while_ k b, ρ => whileL (fun ρ1 => bt (ev c k ρ1) fun t ρ2 => some (t, ρ2)) (fun ρ1 => ex c b ρ1) fuel ρ
  | .ite k a b, ρ => bt (ev c k ρ) fun t ρ1 => if t = true then ex c a ρ1 else ex c b ρ1
  | .ret e, ρ => bd (evo c e ρ) fun v ρ1 => some (.rt v, ρ1)
  | .retn, ρ => some (.rt (.val .none), ρ)
  | .pass, ρ => some (.nx, ρ)
  | .brk, ρ => some (.bk, ρ)
  | .cont, ρ => some (.ct, ρ)
  | .never, _ => none

/-! ### a table of defs -/
structure Fn where
  np : Nat
  io : Bool
  nl : Nat
  body : S
def start (fn : Fn) (row : Option (List D)) (ds : List D) : Option Rho := match row with
  | some r => if fn.io && decide (ds.length + 1 = fn.np) then some (.row r :: (ds.map .val ++ List.replicate (fn.nl - fn.np) .un)) else none
  | none => if !fn.io && decide (ds.length = fn.np) then some (ds.map .val ++ List.replicate (fn.nl - fn.np) .un) else none
def outV : Out → Option SV
  | .rt v => some v
  | .nx => some (.val .none)
  | _ => none
def endR (io : Bool) (ρ : Rho) : Option (List D) := if io then (match rd ρ 0 with | .row r => some r | _ => none) else some []
def runB (c : FT) (fn : Fn) (row : Option (List D)) (ds : List D) : Option (SV × List D) :=
  ob (start fn row ds) fun ρ => bd (ex c fn.body ρ) fun o ρ1 => ob (outV o) fun v => ob (endR fn.io ρ1) fun r => some (v, r)
def run (T : Nat → Option Fn) : Nat → FT
  | 0, _, _, _ => none
  | k + 1, f, row, ds => ob (T f) fun fn => runB (run T k) fn row ds
end DP

/-! data in the heap: what is frozen (G), what a name alone holds -/
namespace DP
abbrev St := L2.St
open PySem PySem.Spec PyProof.Rows L2

mutual
inductive Dr (G : Hp) : V → D → Prop
  | non : Dr G .non .none
  | bl (b : Bool) : Dr G (.bl b) (.bool b)
  | int (i : Int) : Dr G (.int i) (.int i)
  | str (x : Str) : Dr G (.str x) (.str x)
  | lst {a : Addr} {xs : List V} {ds : List D} : G a = some (.lst xs) → Drs G xs ds → Dr G (.ref a) (.list ds)
  | tup {a : Addr} {xs : List V} {ds : List D} : G a = some (.tup xs) → Drs G xs ds → Dr G (.ref a) (.tuple ds)
  | scr {a : Addr} {o : Obj} (ns : List Int) : G a = some (.frz o (.lst (ns.map V.int))) → Dr G (.ref a) (scrD ns)
inductive Drs (G : Hp) : List V → List D → Prop
  | nil : Drs G [] []
  | cons {v : V} {vs : List V} {d : D} {ds : List D} : Dr G v d → Drs G vs ds → Drs G (v :: vs) (d :: ds)
end

mutual
theorem Dr.mono {G G' : Hp} (s : Same G G') : ∀ {d : D} {v : V}, Dr G v d → Dr G' v d
  | _, _, .non => .non
  | _, _, .bl b => .bl b
  | _, _, .int i => .int i
  | _, _, .str x => .str x
  | _, _, .lst h r => .lst (s _ _ h) (Drs.mono s r)
  | _, _, .tup h r => .tup (s _ _ h) (Drs.mono s r)
  | _, _, .scr ns h => .scr ns (s _ _ h)
theorem Drs.mono {G G' : Hp} (s : Same G G') : ∀ {ds : List D} {vs : List V}, Drs G vs ds → Drs G' vs ds
  | _, _, .nil => .nil
  | _, _, .cons h r => .cons (Dr.mono s h) (Drs.mono s r)
end
theorem Drs.length {G : Hp} : ∀ {vs : List V} {ds : List D}, Drs G vs ds → vs.length = ds.length
  | _, _, .nil => rfl
  | _, _, .cons _ r => by rw [List.length_cons, List.length_cons, Drs.length r]
theorem Drs.get {G : Hp} : ∀ {vs : List V} {ds : List D} {i : Nat} {v : V}, Drs G vs ds → vs[i]? = some v → ∃ d, ds[i]? = some d ∧ Dr G v d
  | _, _, _, _, .nil, e => by simp at e
  | _, _, 0, _, .cons h _, e => by simp at e; subst e; exact ⟨_, rfl, h⟩
  | _, _, i + 1, _, .cons _ r, e => by
    obtain ⟨d, h1, h2⟩ := Drs.get (i := i) r (by simpa using e)
    exact ⟨d, by simpa using h1, h2⟩
theorem Drs.getD {G : Hp} : ∀ {vs : List V} {ds : List D} {i : Nat} {d : D}, Drs G vs ds → ds[i]? = some d → ∃ v, vs[i]? = some v ∧ Dr G v d
  | _, _, _, _, .nil, e => by simp at e
  | _, _, 0, _, .cons h _, e => by simp at e; subst e; exact ⟨_, rfl, h⟩
  | _, _, i + 1, _, .cons _ r, e => by
    obtain ⟨d, h1, h2⟩ := Drs.getD (i := i) r (by simpa using e)
    exact ⟨d, by simpa using h1, h2⟩
theorem Drs.append {G : Hp} : ∀ {xs ys : List V} {ds es : List D}, Drs G xs ds → Drs G ys es → Drs G (xs ++ ys) (ds ++ es)
  | _, _, _, _, .nil, s => s
  | _, _, _, _, .cons h r, s => .cons h (Drs.append r s)
theorem Drs.take {G : Hp} : ∀ {xs : List V} {ds : List D} (n : Nat), Drs G xs ds → Drs G (xs.take n) (ds.take n)
  | _, _, 0, _ => .nil
  | _, _, _ + 1, .nil => .nil
  | _, _, n + 1, .cons h r => .cons h (Drs.take n r)
theorem Drs.drop {G : Hp} : ∀ {xs : List V} {ds : List D} (n : Nat), Drs G xs ds → Drs G (xs.drop n) (ds.drop n)
  | _, _, 0, r => r
  | _, _, _ + 1, .nil => .nil
  | _, _, n + 1, .cons _ r => Drs.drop n r
theorem Drs.rev {G : Hp} : ∀ {xs : List V} {ds : List D}, Drs G xs ds → Drs G xs.reverse ds.reverse
  | _, _, .nil => .nil
  | _, _, .cons h r => by rw [List.reverse_cons, List.reverse_cons]; exact Drs.append (Drs.rev r) (.cons h .nil)
theorem Drs.set {G : Hp} {v : V} {d : D} (h : Dr G v d) : ∀ {xs : List V} {ds : List D} (n : Nat), Drs G xs ds → Drs G (xs.set n v) (ds.set n d)
  | _, _, _, .nil => .nil
  | _, _, 0, .cons _ r => .cons h r
  | _, _, n + 1, .cons q r => .cons q (Drs.set h n r)
theorem Drs.rep {G : Hp} {xs : List V} {ds : List D} (h : Drs G xs ds) : ∀ k : Nat, Drs G (List.replicate k xs).flatten (repD ds k)
  | 0 => .nil
  | k + 1 => by
    unfold repD
    rw [List.replicate_succ, List.replicate_succ, List.flatten_cons, List.flatten_cons]
    exact Drs.append h (Drs.rep h k)
theorem Drs.ints {G : Hp} : ∀ (ns : List Int), Drs G (ns.map V.int) (ns.map .int)
  | [] => .nil
  | n :: r => .cons (.int n) (Drs.ints r)
theorem Drs.ints_of {G : Hp} : ∀ {ds : List D} {xs : List V} {ns : List Int}, Drs G xs ds → intsD ds = some ns → xs = ns.map V.int ∧ ds = ns.map .int
  | _, _, _, .nil, e => by cases e; exact ⟨rfl, rfl⟩
  | d :: ds, _, ns, .cons h r, e => by
    cases h with
    | int i =>
      unfold intsD at e
      cases q : intsD ds with
      | none => rw [q] at e; cases e
      | some ms =>
        rw [q] at e
        cases e
        obtain ⟨e1, e2⟩ := Drs.ints_of r q
        subst e1 e2
        exact ⟨rfl, rfl⟩
    | non => cases e
    | bl b => cases e
    | str x => cases e
    | lst _ _ => cases e
    | tup _ _ => cases e
    | scr _ _ => cases e
mutual
theorem Dr.dp {K : PySem.W.Frag} {G H : Hp} (s : Same G H) : ∀ {d : D} {v : V}, Dr G v d → d.canLay0 = true → Dp K H v d
  | _, _, .non, _ => .non
  | _, _, .bl b, _ => .bl b
  | _, _, .int i, _ => .int i
  | _, _, .str x, _ => .str x
  | .list ds, _, .lst h r, e => .lst (SqL.of (s _ _ h)) (Drs.dp s r (by simpa [PyData.canLay0] using e))
  | .tuple ds, _, .tup h r, e => .tup (SqT.of (s _ _ h)) (Drs.dp s r (by simpa [PyData.canLay0] using e))
  | _, _, .scr ns h, e => by simp [scrD, PyData.canLay0] at e
theorem Drs.dp {K : PySem.W.Frag} {G H : Hp} (s : Same G H) : ∀ {ds : List D} {vs : List V}, Drs G vs ds → PyData.canLayAll0 ds = true → DpAll K H vs ds
  | _, _, .nil, _ => .nil
  | d :: ds, _, .cons h r, e => by
    have e' : d.canLay0 = true ∧ PyData.canLayAll0 ds = true := by simpa [PyData.canLayAll0] using e
    exact .cons (Dr.dp s h e'.1) (Drs.dp s r e'.2)
end

/-! ### slots -/
def hot : SV → Bool
  | .own _ => true
  | .row _ => true
  | _ => false
def HotAt (σ : St) (ρ : Rho) (a : Addr) : Prop := ∃ (i : Nat) (sv : SV), σ[i]? = some (some (.ref a)) ∧ ρ[i]? = some sv ∧ hot sv = true
inductive SlotR (G H : Hp) : Option V → SV → Prop
  | un (o : Option V) : SlotR G H o .un
  | val {v : V} {d : D} : Dr G v d → SlotR G H (some v) (.val d)
  | own {a : Addr} {xs : List V} {ds : List D} : H a = some (.lst xs) → G a = none → Drs G xs ds → SlotR G H (some (.ref a)) (.own ds)
  | row {a : Addr} {xs : List V} {ds : List D} : H a = some (.lst xs) → G a = none → Drs G xs ds → SlotR G H (some (.ref a)) (.row ds)
structure Rel (G H : Hp) (σ : St) (ρ : Rho) : Prop where
  le : Same G H
  len : σ.length = ρ.length
  slot : ∀ (i : Nat) (o : Option V) (sv : SV), σ[i]? = some o → ρ[i]? = some sv → SlotR G H o sv
  sep : ∀ (i j : Nat) (a : Addr) (sv sv' : SV), σ[i]? = some (some (.ref a)) → ρ[i]? = some sv → hot sv = true → σ[j]? = some (some (.ref a)) → ρ[j]? = some sv' → hot sv' = true → i = j
structure Ext (G H : Hp) (σ : St) (ρ : Rho) (G' H' : Hp) (σ' : St) (ρ' : Rho) : Prop where
  sub : Same G G'
  keep : ∀ a o, H a = some o → ¬ HotAt σ ρ a → H' a = some o
  cold : ∀ a o, H a = some o → G a = none → ¬ HotAt σ ρ a → G' a = none
  dom : ∀ a, H' a = none → H a = none
  old : ∀ a, HotAt σ' ρ' a → HotAt σ ρ a ∨ H a = none
  row : ∀ (i : Nat) (a : Addr) (ds : List D), σ[i]? = some (some (.ref a)) → ρ[i]? = some (.row ds) → σ'[i]? = some (some (.ref a)) ∧ ∃ ds', ρ'[i]? = some (.row ds')
theorem some_of {H : Hp} {a : Addr} (h : H a ≠ none) : ∃ o, H a = some o := by
  cases e : H a with
  | none => exact absurd e h
  | some o => exact ⟨o, rfl⟩
section
variable {G H G1 H1 G2 H2 : Hp} {σ σ1 σ2 : St} {ρ ρ1 ρ2 : Rho}
theorem Ext.refl : Ext G H σ ρ G H σ ρ := ⟨Same.refl _, fun _ _ h _ => h, fun _ _ _ h _ => h, fun _ h => h, fun _ h => .inl h, fun _ _ ds h1 h2 => ⟨h1, ds, h2⟩⟩
theorem Ext.cool (e : Ext G H σ ρ G1 H1 σ1 ρ1) {a : Addr} {o : HO} (h : H a = some o) (n : ¬ HotAt σ ρ a) : ¬ HotAt σ1 ρ1 a := fun z => by
  rcases e.old a z with z | z
  · exact n z
  · rw [h] at z; cases z
theorem Ext.trans (e : Ext G H σ ρ G1 H1 σ1 ρ1) (f : Ext G1 H1 σ1 ρ1 G2 H2 σ2 ρ2) : Ext G H σ ρ G2 H2 σ2 ρ2 where
  sub := e.sub.trans f.sub
  keep := fun a o h n => f.keep a o (e.keep a o h n) (e.cool h n)
  cold := fun a o h g n => f.cold a o (e.keep a o h n) (e.cold a o h g n) (e.cool h n)
  dom := fun a h => e.dom a (f.dom a h)
  old := fun a z => by
    rcases f.old a z with z | z
    · exact e.old a z
    · exact .inr (e.dom a z)
  row := fun i a ds h1 h2 => by
    obtain ⟨q1, ds', q2⟩ := e.row i a ds h1 h2
    exact f.row i a ds' q1 q2
theorem Rel.hotH (r : Rel G H σ ρ) {a : Addr} (h : HotAt σ ρ a) : ∃ xs, H a = some (.lst xs) ∧ G a = none := by
  obtain ⟨i, sv, h1, h2, h3⟩ := h
  have := r.slot i _ sv h1 h2
  cases this with
  | un => cases h3
  | val _ => cases h3
  | own a b c => exact ⟨_, a, b⟩
  | row a b c => exact ⟨_, a, b⟩
theorem Rel.hotG (r : Rel G H σ ρ) {a : Addr} (h : HotAt σ ρ a) : G a = none := by
  obtain ⟨_, _, q⟩ := r.hotH h
  exact q
theorem Rel.cold (r : Rel G H σ ρ) {a : Addr} {o : HO} (h : G a = some o) : ¬ HotAt σ ρ a := fun z => by
  obtain ⟨xs, _, q⟩ := r.hotH z
  rw [h] at q; cases q
theorem Rel.new (r : Rel G H σ ρ) {a : Addr} (h : H a = none) : ¬ HotAt σ ρ a ∧ G a = none := by
  refine ⟨fun z => ?_, ?_⟩
  · obtain ⟨xs, q, _⟩ := r.hotH z
    rw [h] at q; cases q
  · cases e : G a with
    | none => rfl
    | some o => rw [r.le a o e] at h; cases h
/-- the same slots over a grown frozen part and a heap that keeps what the slots hold -/
theorem Rel.grow (r : Rel G H σ ρ) (s : Same G G1) (le : Same G1 H1) (k : ∀ a xs, HotAt σ ρ a → H a = some (.lst xs) → H1 a = some (.lst xs) ∧ G1 a = none) : Rel G1 H1 σ ρ := by
  refine ⟨le, r.len, fun i o sv h1 h2 => ?_, r.sep⟩
  have q := r.slot i o sv h1 h2
  cases q with
  | un => exact .un _
  | val h => exact .val (h.mono s)
  | own a b c =>
    obtain ⟨q1, q2⟩ := k _ _ ⟨i, _, h1, h2, rfl⟩ a
    exact .own q1 q2 (c.mono s)
  | row a b c =>
    obtain ⟨q1, q2⟩ := k _ _ ⟨i, _, h1, h2, rfl⟩ a
    exact .row q1 q2 (c.mono s)
end

/-! ### a value that an expression gives -/
/-- H0: the heap ahead of the expression -/
inductive SvR (G H : Hp) (σ : St) (ρ : Rho) (H0 : Hp) : V → SV → Prop
  | val {v : V} {d : D} : Dr G v d → SvR G H σ ρ H0 v (.val d)
  | own {a : Addr} {xs : List V} {ds : List D} : H a = some (.lst xs) → G a = none → Drs G xs ds → H0 a = none → ¬ HotAt σ ρ a → SvR G H σ ρ H0 (.ref a) (.own ds)
/-- a value that an operation gives, the slots untouched -/
def SvV (G H : Hp) (G' H' : Hp) (v : V) (sv : SV) : Prop := match sv with
  | .val d => Dr G' v d
  | .own ds => ∃ a xs, v = .ref a ∧ H a = none ∧ G' a = none ∧ H' a = some (.lst xs) ∧ Drs G' xs ds
  | _ => False
def SvN (G H : Hp) (v : V) (sv : SV) (H' : Hp) : Prop := ∃ G', Same G G' ∧ Same G' H' ∧ Same H H' ∧ (∀ a o, H a = some o → G a = none → G' a = none) ∧ SvV G H G' H' v sv
section
variable {G H G1 H1 H0 : Hp} {σ : St} {ρ : Rho} {v : V} {d : D} {ds : List D} {sv : SV}
/-- behind such an operation -/
theorem fin_new (r : Rel G H σ ρ) (n : SvN G H v sv H1) : ∃ G1, Ext G H σ ρ G1 H1 σ ρ ∧ Rel G1 H1 σ ρ ∧ SvR G1 H1 σ ρ H v sv := by
  obtain ⟨G', s1, s2, s3, f, q⟩ := n
  refine ⟨G', ⟨s1, fun a o h _ => s3 a o h, fun a o h g _ => f a o h g, fun a h => s3.free h, fun a h => .inl h, fun i a ds h1 h2 => ⟨h1, ds, h2⟩⟩, r.grow s1 s2 fun a xs z h => ⟨s3 _ _ h, f a _ h (r.hotG z)⟩, ?_⟩
  cases sv with
  | val d => exact .val q
  | own ds =>
    obtain ⟨a, xs, rfl, n1, g1, h1, q⟩ := q
    exact .own h1 g1 q n1 (r.new n1).1
  | un => exact q.elim
  | row _ => exact q.elim
/-- a value is frozen, if it is used as a part of another -/
theorem freeze {ρ0 : Rho} {G0 : Hp} (e : Ext G0 H0 σ ρ0 G H σ ρ) (r : Rel G H σ ρ) (h : SvR G H σ ρ H0 v sv) (z : frz sv = some d) :
    ∃ G1, Ext G0 H0 σ ρ0 G1 H σ ρ ∧ Rel G1 H σ ρ ∧ Dr G1 v d := by
  cases h with
  | val q => cases z; exact ⟨G, e, r, q⟩
  | @own a xs ds h1 g q n c =>
    cases z
    have s1 : Same G (upd G a (.lst xs)) := fun b o hb => by rw [upd_ne (ne_of_none hb g)]; exact hb
    refine ⟨upd G a (.lst xs), ⟨e.sub.trans s1, e.keep, fun b o hb hg hn => ?_, e.dom, e.old, e.row⟩, r.grow s1 (fun b o hb => ?_) fun b ys z hb => ⟨hb, ?_⟩, .lst upd_same (q.mono s1)⟩
    · rw [upd_ne (show b ≠ a from ne_of_none hb n)]
      exact e.cold b o hb hg hn
    · by_cases hba : b = a
      · subst hba; rw [upd_same] at hb; cases hb; exact h1
      · rw [upd_ne hba] at hb; exact r.le b o hb
    · rw [upd_ne (fun hba => c (by rw [← hba]; exact z))]
      exact (r.hotG z)
/-- a value waits while another expression is run -/
theorem SvR.wait {ρ1 : Rho} (h : SvR G H σ ρ H0 v sv) (e : Ext G H σ ρ G1 H1 σ ρ1) : SvR G1 H1 σ ρ1 H0 v sv := by
  cases h with
  | val q => exact .val (q.mono e.sub)
  | own h1 g q n c => exact .own (e.keep _ _ h1 c) (e.cold _ _ h1 g c) (q.mono e.sub) n (e.cool h1 c)
/-- the heap ahead moved back -/
theorem SvR.older {H00 : Hp} (h : SvR G H σ ρ H0 v sv) (k : ∀ a, H0 a = none → H00 a = none) : SvR G H σ ρ H00 v sv := by
  cases h with
  | val q => exact .val q
  | own h1 g q n c => exact .own h1 g q (k _ n) c
end
/-- what may be read as d -/
def RdR (G H : Hp) (v : V) (d : D) : Prop := Dr G v d ∨ ∃ a xs ds, v = .ref a ∧ H a = some (.lst xs) ∧ Drs G xs ds ∧ d = .list ds
end DP

/-! the operations, by values -/
namespace DP
open PySem PySem.Spec PyProof.Rows L2

theorem okL_le {n : Nat} (h : okL n = true) : n < sizeLine := by
  have := of_decide_eq_true h
  rw [sizeLine_eq]; exact this
theorem same_upd {H : Hp} {p : Addr} {o : HO} (h : H p = none) : Same H (upd H p o) := fun b x e => by
  rw [upd_ne (ne_of_none e h)]; exact e
theorem ite_some {α : Type} {c : Bool} {a b : α} (h : (if c = true then some a else none) = some b) : c = true ∧ a = b := by
  cases c with
  | true => exact ⟨rfl, Option.some.inj h⟩
  | false => cases h
section
variable {G H : Hp} {x : V} {d : D} {ds : List D}
/-- a value that stands already -/
theorem svn_old (s : Same G H) (h : Dr G x d) : SvN G H x (.val d) H := ⟨G, Same.refl _, s, Same.refl _, fun _ _ _ g => g, h⟩
theorem svn_int {s : Same G H} (i : Int) : SvN G H (.int i) (.val (.int i)) H := svn_old s (.int i)
/-- a new tuple -/
theorem svn_tup {p : Addr} {xs : List V} (s : Same G H) (h : Drs G xs ds) (n : H p = none) : SvN G H (.ref p) (.val (.tuple ds)) (upd H p (.tup xs)) := by
  have gn := s.free n
  refine ⟨upd G p (.tup xs), same_upd gn, fun b o e => ?_, same_upd n, fun a o e g => ?_, .tup upd_same (h.mono (same_upd gn))⟩
  · by_cases hb : b = p
    · subst hb; rw [upd_same] at e ⊢; exact e
    · rw [upd_ne hb] at e ⊢; exact s b o e
  · rw [upd_ne (ne_of_none e n)]; exact g
theorem svn_lst {p : Addr} {xs : List V} (s : Same G H) (h : Drs G xs ds) (n : H p = none) : SvN G H (.ref p) (.own ds) (upd H p (.lst xs)) :=
  ⟨G, Same.refl _, s.trans (same_upd n), same_upd n, fun _ _ _ g => g, p, xs, rfl, n, s.free n, upd_same, h⟩
end

/-! ### tuple * 1, tuple * 0 -/
theorem tuple_mul1 (l : Addr) (items : Array Value) (n : Nat) (dd : Option Addr) (sl : Array (Option Value)) (u : Tok) :
    Meets (Builtin.«tuple.__mul__» ⟨[.ref l, .int 1 u], []⟩) (fun _ R s => s.heap.get? l = some { cls := .type "tuple", dict := dd, data := .seq items n, slots := sl } ∧ R (.ok (.ret (Value.ref l))) s) :=
  .of_wp fun prog w A R s h => by
    obtain ⟨hp, g, d, tk, os⟩ := s
    obtain ⟨hl, h⟩ := h
    have f1 := AutoSeq1.idx_int
    have c0 : (decide ((1 : Int) < -(2 ^ 63)) || decide ((1 : Int) ≥ 2 ^ 63)) = false := by decide
    have c1 : (items.isEmpty || (1 : Int) == 1) = true := by simp
    wp_walk using wpAny_loadPart' hl
    repeat (first
      | (refine wpAny_ite_false (decide_eq_false (by rw [c0]; exact Bool.false_ne_true)) ?_; wp_walk using wpAny_loadPart' hl)
      | (refine wpAny_ite_true (decide_eq_true c1) ?_; wp_walk using wpAny_loadPart' hl))
    try exact ⟨_, rfl, h⟩
theorem tuple_mul0 (l : Addr) (items : Array Value) (n : Nat) (dd : Option Addr) (sl : Array (Option Value)) (x : Int) (u : Tok) (hx : x ≤ 0) (hx2 : -1000 ≤ x) (hi : items.isEmpty = false) :
    Meets (Builtin.«tuple.__mul__» ⟨[.ref l, .int x u], []⟩) (fun _ R s => s.heap.get? l = some { cls := .type "tuple", dict := dd, data := .seq items n, slots := sl } ∧
      R (.ok (.ret (Value.ref s.heap.objs.size))) { s with heap := s.heap.push { cls := Value.type "tuple", data := Data.seq #[] }, toks := s.toks }) :=
  .of_wp fun prog w A R s h => by
    obtain ⟨hp, g, d, tk, os⟩ := s
    obtain ⟨hl, h⟩ := h
    have f1 := AutoSeq1.idx_int
    have c0 : (decide (x < -(2 ^ 63)) || decide (x ≥ 2 ^ 63)) = false := by
      rw [decide_eq_false (by omega), decide_eq_false (by omega)] <;> rfl
    have c1 : (items.isEmpty || x == 1) = false := by
      rw [hi, Bool.false_or]; exact beq_eq_false_iff_ne.mpr (by omega)
    have c2 : (decide (x ≤ 0) || items.isEmpty) = true := by rw [decide_eq_true hx]; rfl
    wp_walk using wpAny_loadPart' hl
    repeat (first
      | (refine wpAny_ite_false (decide_eq_false (by rw [c0]; exact Bool.false_ne_true)) ?_; wp_walk using wpAny_loadPart' hl)
      | (refine wpAny_ite_false (decide_eq_false (by rw [c1]; exact Bool.false_ne_true)) ?_; wp_walk using wpAny_loadPart' hl)
      | (refine wpAny_ite_true (decide_eq_true c2) ?_; wp_walk using wpAny_loadPart' hl))
    try exact ⟨_, rfl, h⟩
section
variable {X : Cx}
/-- tuple * int -/
def rRepA (K : PySem.W.Frag) : R2 := fun x y H Q => ∃ l k xs, x = .ref l ∧ y = .int k ∧ SqT K H l xs ∧ xs ≠ [] ∧ -1000 ≤ k ∧ k ≤ 1000 ∧ xs.length ≤ 1000 ∧
  (k = 1 → Q (.ref l) H) ∧ (k ≠ 1 → ∀ p, H p = none → Q (.ref p) (upd H p (.tup (List.replicate k.toNat xs).flatten)))
theorem op_repA : OpR X (binaryOp .Mult) (rRepA X.K) := by
  intro pins s σ H x y v u Q I rx ry h
  obtain ⟨l, k, xs, rfl, rfl, hT, hne, h0, h2, hz, q1, q2⟩ := h
  by_cases hk : 2 ≤ k
  · exact op_repT pins s σ H _ _ v u Q I rx ry ⟨l, k, xs, rfl, rfl, hT, hne, hk, h2, hz, q2 (by omega)⟩
  · cases rx
    obtain ⟨t, rfl⟩ := ry
    obtain ⟨its, r, ⟨⟨cls, dd, data, sl⟩, ho, hc, n, hd⟩, hs⟩ := I.tuple hT
    simp only at hc hd
    subst hc hd
    have hn : its.toArray.isEmpty = false := by
      cases its with
      | nil => cases r; exact absurd rfl hne
      | cons a b => rfl
    by_cases h1 : k = 1
    · subst h1
      exact wpAny_binaryOp_repeat_ref (T := "tuple") (U := "int") (by decide) ⟨_, ho, rfl⟩ (fun s' => typeIs_int s' 1 t) noFill_tuple_mul F.fills_int_mul F.slot_int_rmul repeat_tuple F.slot_int_index.lookup
        (call_meets F.slot_int_rmul (typeIs_int s 1 t) F.entry_int_rmul (F.args_int_rmul_2 _ _) (int_rmul_tuple 1 t l its.toArray n dd sl)
          ⟨ho, rfl, ⟨_, ho, rfl⟩, call_meets F.slot_tuple_mul ⟨_, ho, rfl⟩ F.entry_tuple_mul (F.args_tuple_mul_2 _ _) (tuple_mul1 l its.toArray n dd sl t) ⟨ho, ⟨.ref l, H, I, rfl, q1 rfl⟩⟩⟩)
    · refine wpAny_binaryOp_repeat_ref (T := "tuple") (U := "int") (by decide) ⟨_, ho, rfl⟩ (fun s' => typeIs_int s' k t) noFill_tuple_mul F.fills_int_mul F.slot_int_rmul repeat_tuple F.slot_int_index.lookup
        (call_meets F.slot_int_rmul (typeIs_int s k t) F.entry_int_rmul (F.args_int_rmul_2 _ _) (int_rmul_tuple k t l its.toArray n dd sl)
          ⟨ho, rfl, ⟨_, ho, rfl⟩, call_meets F.slot_tuple_mul ⟨_, ho, rfl⟩ F.entry_tuple_mul (F.args_tuple_mul_2 _ _) (tuple_mul0 l its.toArray n dd sl k t (by omega) h0 hn) ⟨ho, ?_⟩⟩)
      have ek : k.toNat = 0 := by omega
      have q3 := q2 h1 s.heap.objs.size (I.hok.fresh (Nat.le_refl _))
      rw [ek] at q3
      exact ⟨.ref s.heap.objs.size, _, I.laid (t' := s.toks) (o := .tup []) (fun b ob q => Heap.get?_push_of_some _ q) (Nat.le_refl _) ⟨Nat.zero_le _, [], .nil, IsTup.new _ _⟩, rfl, q3⟩

/-! ### + - * // % ** -/
def opO : Op2 → Operator
  | .add => .Add
  | .sub => .Sub
  | .mul => .Mult
  | .fdiv => .FloorDiv
  | .mod => .Mod
  | .pow => .Pow
def rOp (o : Op2) : R2 := fun x y H Q => ∃ G dx dy sv, Same G H ∧ Dr G x dx ∧ Dr G y dy ∧ op2 o dx dy = some sv ∧ ∀ v H', SvN G H v sv H' → Q v H'
theorem big_log {i : Int} (h : big i = true) : i.natAbs.log2 < 9000 := of_decide_eq_true h
theorem opr_imp {f : Value → Value → Sem Value} {r r' : R2} (h : OpR X f r) (k : ∀ x y H Q, r' x y H Q → r x y H Q) : OpR X f r' :=
  fun pins s σ H x y v u Q I rx ry q => h pins s σ H x y v u Q I rx ry (k _ _ _ _ q)
theorem op_ok (o : Op2) : OpR X (binaryOp (opO o)) (rOp o) := by
  intro pins s σ H x y v u Q I rx ry h
  obtain ⟨G, dx, dy, sv, sG, hx, hy, e, q⟩ := h
  cases o with
  | add =>
    cases hx with
    | int i =>
      cases hy with
      | int j => cases e; exact op_add pins s σ H _ _ v u Q I rx ry ⟨i, j, rfl, rfl, q _ _ (svn_int (s := sG) _)⟩
      | _ => cases e
    | str a =>
      cases hy with
      | str b =>
        obtain ⟨hz, e⟩ := ite_some e
        cases e
        exact op_add_str pins s σ H _ _ v u Q I rx ry ⟨a, b, rfl, rfl, Nat.le_of_lt (okL_le hz), q _ _ (svn_old sG (.str _))⟩
      | _ => cases e
    | lst ha ra =>
      cases hy with
      | lst hb rb =>
        obtain ⟨hz, e⟩ := ite_some e
        cases e
        have hl : _ := okL_le hz
        rw [← ra.length, ← rb.length] at hl
        exact op_cat pins s σ H _ _ v u Q I rx ry ⟨_, _, _, _, rfl, rfl, sG _ _ ha, sG _ _ hb, Nat.le_of_lt hl, fun p np => q _ _ (svn_lst sG (ra.append rb) np)⟩
      | _ => cases e
    | @tup a xs ds ha ra =>
      cases hy with
      | @tup b ys es hb rb =>
        obtain ⟨hz, e⟩ := ite_some e
        cases e
        have hl : _ := okL_le hz
        rw [← ra.length, ← rb.length] at hl
        refine op_catA pins s σ H _ _ v u Q I rx ry ⟨a, b, xs, ys, rfl, rfl, SqT.of (sG _ _ ha), SqT.of (sG _ _ hb), Nat.le_of_lt hl, fun e1 => ?_, fun _ e2 => ?_, fun _ _ p np => q _ _ (svn_tup sG (ra.append rb) np)⟩
        · subst e1
          cases ra
          exact q _ _ (svn_old sG (.tup hb rb))
        · subst e2
          cases rb
          rw [List.append_nil] at q
          exact q _ _ (svn_old sG (.tup ha ra))
      | _ => cases e
    | _ => cases e
  | sub =>
    cases hx with
    | int i =>
      cases hy with
      | int j => cases e; exact op_sub pins s σ H _ _ v u Q I rx ry ⟨i, j, rfl, rfl, q _ _ (svn_int (s := sG) _)⟩
      | _ => cases e
    | _ => cases e
  | mul =>
    cases hx with
    | int i =>
      cases hy with
      | int j =>
        obtain ⟨hz, e⟩ := ite_some e
        cases e
        rw [Bool.and_eq_true] at hz
        have h1 := big_log hz.1
        have h2 := big_log hz.2
        exact op_mulW pins s σ H _ _ v u Q I rx ry ⟨i, j, rfl, rfl, by show _ + _ < _; omega, q _ _ (svn_int (s := sG) _)⟩
      | _ => cases e
    | lst ha ra =>
      cases hy with
      | int k =>
        obtain ⟨hz, e⟩ := ite_some e
        cases e
        simp only [Bool.and_eq_true, decide_eq_true_eq] at hz
        obtain ⟨⟨z1, z2⟩, z3⟩ := hz
        have hl : _ := okL_le z1
        rw [← ra.length] at hl
        exact op_rep pins s σ H _ _ v u Q I rx ry ⟨_, k, _, rfl, rfl, sG _ _ ha, by omega, by omega, Nat.le_of_lt hl, fun p np => q _ _ (svn_lst sG (ra.rep k.toNat) np)⟩
      | _ => cases e
    | tup ha ra =>
      cases hy with
      | int k =>
        obtain ⟨hz, e⟩ := ite_some e
        cases e
        simp only [Bool.and_eq_true, decide_eq_true_eq] at hz
        obtain ⟨⟨⟨z1, z2⟩, z3⟩, z4⟩ := hz
        have hl := ra.length
        refine op_repA pins s σ H _ _ v u Q I rx ry ⟨_, k, _, rfl, rfl, SqT.of (sG _ _ ha), fun e1 => ?_, z2, z1, by omega, fun e1 => ?_, fun _ p np => q _ _ (svn_tup sG (ra.rep k.toNat) np)⟩
        · rw [e1] at hl
          rw [← hl] at z3
          exact absurd z3 (by simp)
        · subst e1
          have e2 : ∀ ds : List D, repD ds (1 : Int).toNat = ds := fun ds => by
            show (List.replicate 1 ds).flatten = ds
            simp
          rw [e2] at q
          exact q _ _ (svn_old sG (.tup ha ra))
      | _ => cases e
    | _ => cases e
  | fdiv =>
    cases hx with
    | int i =>
      cases hy with
      | int j =>
        obtain ⟨hz, e⟩ := ite_some e
        cases e
        simp only [Bool.and_eq_true, decide_eq_true_eq] at hz
        exact op_fdivW pins s σ H _ _ v u Q I rx ry ⟨i, j, rfl, rfl, ⟨hz.1, big_log hz.2⟩, q _ _ (svn_int (s := sG) _)⟩
      | _ => cases e
    | _ => cases e
  | mod =>
    cases hx with
    | int i =>
      cases hy with
      | int j =>
        obtain ⟨hz, e⟩ := ite_some e
        cases e
        exact op_mod pins s σ H _ _ v u Q I rx ry ⟨i, j, rfl, rfl, of_decide_eq_true hz, q _ _ (svn_int (s := sG) _)⟩
      | _ => cases e
    | _ => cases e
  | pow =>
    cases hx with
    | int i =>
      cases hy with
      | int j =>
        obtain ⟨hz, e⟩ := ite_some e
        cases e
        simp only [Bool.and_eq_true, decide_eq_true_eq] at hz
        exact op_pow pins s σ H _ _ v u Q I rx ry ⟨i, j, rfl, rfl, ⟨hz.1.1, hz.1.2, hz.2⟩, q _ _ (svn_int (s := sG) _)⟩
      | _ => cases e
    | _ => cases e
end
end DP

/-! comparisons, subscripts, slices, built-ins, by values -/
namespace DP
open PySem PySem.Spec PyProof.Rows L2

/-! ### comparisons -/
def cmO : Cm → CmpOp
  | .eq => .Eq
  | .ne => .NotEq
  | .lt => .Lt
  | .le => .LtE
  | .gt => .Gt
  | .ge => .GtE
  | .isin => .In
  | .notin => .NotIn
def rCm (o : Cm) : R2 := fun x y H Q => ∃ G dx dy b, Same G H ∧ Dr G x dx ∧ Dr G y dy ∧ cmp2 o dx dy = some b ∧ Q (.bl b) H
theorem shp_can {d : D} (h : shp d = true) : d.canLay0 = true := SeqAt.canLay_of_shaped h
theorem flat_v {G : Hp} {x : V} {d : D} (h : Dr G x d) (f : flatD d = true) : flatV x = true := by
  cases h with
  | non => rfl
  | bl _ => rfl
  | int _ => rfl
  | str _ => rfl
  | lst _ _ => cases f
  | tup _ _ => cases f
  | scr _ _ => cases f
theorem flat_vs {G : Hp} : ∀ {xs : List V} {ds : List D}, Drs G xs ds → ds.all flatD = true → xs.all flatV = true
  | _, _, .nil, _ => rfl
  | _, _, .cons h r, f => by
    rw [List.all_cons, Bool.and_eq_true] at f ⊢
    exact ⟨flat_v h f.1, flat_vs r f.2⟩
theorem eqv_flat {G : Hp} {x y : V} {dx dy : D} (hx : Dr G x dx) (hy : Dr G y dy) (fx : flatD dx = true) (fy : flatD dy = true) : eqV y x = PyData.eqv dy dx := by
  cases hy with
  | lst _ _ => cases fy
  | tup _ _ => cases fy
  | scr _ _ => cases fy
  | _ =>
    cases hx with
    | lst _ _ => cases fx
    | tup _ _ => cases fx
    | scr _ _ => cases fx
    | _ => simp [eqV, PyData.eqv]
theorem any_flat {G : Hp} {x : V} {dx : D} (hx : Dr G x dx) (fx : flatD dx = true) : ∀ {xs : List V} {ds : List D}, Drs G xs ds → ds.all flatD = true → inV x xs = ds.any fun z => PyData.eqv z dx
  | _, _, .nil, _ => rfl
  | y :: xs, d :: ds, .cons h r, f => by
    rw [List.all_cons, Bool.and_eq_true] at f
    have ih := any_flat hx fx r f.2
    unfold inV at ih ⊢
    rw [List.any_cons, List.any_cons, eqv_flat hx h fx f.1, ih]
theorem cmp_eq {dx dy : D} {b : Bool} (e : cmp2 .eq dx dy = some b) : (∃ i j, dx = .int i ∧ dy = .int j ∧ b = decide (i = j)) ∨ (if (shp dx && shp dy) = true then some (PyData.eqv dx dy) else none) = some b := by
  cases dx <;> cases dy <;> first | exact .inl ⟨_, _, rfl, rfl, (Option.some.inj e).symm⟩ | exact .inr e
theorem cmp_ne {dx dy : D} {b : Bool} (e : cmp2 .ne dx dy = some b) : (∃ i j, dx = .int i ∧ dy = .int j ∧ b = !decide (i = j)) ∨ (if (shp dx && shp dy) = true then some (!PyData.eqv dx dy) else none) = some b := by
  cases dx <;> cases dy <;> first | exact .inl ⟨_, _, rfl, rfl, (Option.some.inj e).symm⟩ | exact .inr e
theorem ob_some {α β : Type} {x : Option α} {f : α → Option β} {b : β} (h : ob x f = some b) : ∃ a, x = some a ∧ f a = some b := by
  cases x with
  | none => cases h
  | some a => exact ⟨a, rfl, h⟩
/-- what has items -/
theorem items_of {G H : Hp} {K : PySem.W.Frag} {x : V} {d : D} {ds : List D} (sG : Same G H) (h : RdR G H x d) (e : itemsD d = some ds) : ∃ a xs, x = .ref a ∧ Drs G xs ds ∧ (SqL K H a xs ∨ SqT K H a xs) := by
  rcases h with h | ⟨a, xs, es, rfl, ha, ra, rfl⟩
  · cases h with
    | lst ha ra => cases e; exact ⟨_, _, rfl, ra, .inl (SqL.of (sG _ _ ha))⟩
    | tup ha ra => cases e; exact ⟨_, _, rfl, ra, .inr (SqT.of (sG _ _ ha))⟩
    | scr ns ha => cases e; exact ⟨_, _, rfl, Drs.ints ns, .inl (.inl (.inr ⟨_, sG _ _ ha⟩))⟩
    | _ => cases e
  · cases e
    exact ⟨a, xs, rfl, ra, .inl (SqL.of ha)⟩
theorem seq_items {d : D} {ds : List D} (e : seqD d = some ds) : itemsD d = some ds := by
  cases d <;> first | exact e | cases e
section
variable {X : Cx}
theorem eq_gen (hu : X.A.units + 64 < cLine) {pins : List (Addr × Obj)} {s : Shared} {σ : L2.St} {H G : Hp} {x y : V} {v u : Value} {Q : VK} {dx dy : D} {b : Bool} (I : Inv X pins σ H s) (rx : RelV x v) (ry : RelV y u) (sG : Same G H) (hx : Dr G x dx) (hy : Dr G y dy)
    (e : (if (shp dx && shp dy) = true then some (PyData.eqv dx dy) else none) = some b) (q : Q (.bl b) H) : wpAny (model X.prog X.w) X.A (compareOp .Eq v u) (EP X pins σ Q) X.xe s := by
  obtain ⟨hz, e⟩ := ite_some e
  subst e
  rw [Bool.and_eq_true] at hz
  exact op_eqD hu pins s σ H x y v u Q I rx ry ⟨dx, dy, hx.dp sG (shp_can hz.1), hy.dp sG (shp_can hz.2), hz.1, hz.2, q⟩
theorem ne_gen (hu : X.A.units + 64 < cLine) {pins : List (Addr × Obj)} {s : Shared} {σ : L2.St} {H G : Hp} {x y : V} {v u : Value} {Q : VK} {dx dy : D} {b : Bool} (I : Inv X pins σ H s) (rx : RelV x v) (ry : RelV y u) (sG : Same G H) (hx : Dr G x dx) (hy : Dr G y dy)
    (e : (if (shp dx && shp dy) = true then some (!PyData.eqv dx dy) else none) = some b) (q : Q (.bl b) H) : wpAny (model X.prog X.w) X.A (compareOp .NotEq v u) (EP X pins σ Q) X.xe s := by
  obtain ⟨hz, e⟩ := ite_some e
  subst e
  rw [Bool.and_eq_true] at hz
  exact op_neD hu pins s σ H x y v u Q I rx ry ⟨dx, dy, hx.dp sG (shp_can hz.1), hy.dp sG (shp_can hz.2), hz.1, hz.2, q⟩
theorem cm_ok (hu : X.A.units + 65 < cLine) (o : Cm) : OpR X (compareOp (cmO o)) (rCm o) := by
  intro pins s σ H x y v u Q I rx ry h
  obtain ⟨G, dx, dy, b, sG, hx, hy, e, q⟩ := h
  cases o with
  | eq =>
    rcases cmp_eq e with ⟨i, j, rfl, rfl, rfl⟩ | e
    · cases hx
      cases hy
      exact op_eq pins s σ H _ _ v u Q I rx ry ⟨rfl, by rw [show decide (V.int i = V.int j) = decide (i = j) from by by_cases z : i = j <;> simp [z]]; exact q⟩
    · exact eq_gen (by omega) I rx ry sG hx hy e q
  | ne =>
    rcases cmp_ne e with ⟨i, j, rfl, rfl, rfl⟩ | e
    · cases hx
      cases hy
      exact op_ne pins s σ H _ _ v u Q I rx ry ⟨rfl, by rw [show decide (V.int i = V.int j) = decide (i = j) from by by_cases z : i = j <;> simp [z]]; exact q⟩
    · exact ne_gen (by omega) I rx ry sG hx hy e q
  | lt =>
    cases hx with
    | int i =>
      cases hy with
      | int j => cases e; exact op_lt pins s σ H _ _ v u Q I rx ry ⟨i, j, rfl, rfl, q⟩
      | _ => cases e
    | _ => cases e
  | le =>
    cases hx with
    | int i =>
      cases hy with
      | int j => cases e; exact op_le pins s σ H _ _ v u Q I rx ry ⟨i, j, rfl, rfl, q⟩
      | _ => cases e
    | _ => cases e
  | gt =>
    cases hx with
    | int i =>
      cases hy with
      | int j => cases e; exact op_gt pins s σ H _ _ v u Q I rx ry ⟨i, j, rfl, rfl, q⟩
      | _ => cases e
    | _ => cases e
  | ge =>
    cases hx with
    | int i =>
      cases hy with
      | int j => cases e; exact op_ge pins s σ H _ _ v u Q I rx ry ⟨i, j, rfl, rfl, q⟩
      | _ => cases e
    | _ => cases e
  | isin =>
    cases hy with
    | @lst a ys ds ha ra =>
      have e : (if (shp dx && shp (.list ds)) = true then some (ds.any fun z => PyData.eqv z dx) else none) = some b := by cases dx <;> exact e
      obtain ⟨hz, e⟩ := ite_some e
      subst e
      rw [Bool.and_eq_true] at hz
      exact op_inD hu pins s σ H _ _ v u Q I rx ry ⟨dx, ds, hx.dp sG (shp_can hz.1), Dr.dp sG (.lst ha ra) (shp_can hz.2), hz.1, hz.2, q⟩
    | @tup a ys ds ha ra =>
      have e : (if (flatD dx && ds.all flatD) = true then some (ds.any fun z => PyData.eqv z dx) else none) = some b := by cases dx <;> exact e
      obtain ⟨hz, e⟩ := ite_some e
      subst e
      rw [Bool.and_eq_true] at hz
      exact op_in_seq pins s σ H _ _ v u Q I rx ry ⟨_, _, rfl, .inr (SqT.of (sG _ _ ha)), flat_v hx hz.1, flat_vs ra hz.2, by rw [if_neg Bool.false_ne_true, any_flat hx hz.1 ra hz.2]; exact q⟩
    | _ => cases dx <;> cases e
  | notin =>
    cases hy with
    | @lst a ys ds ha ra =>
      have e : (if (shp dx && shp (.list ds)) = true then some (!ds.any fun z => PyData.eqv z dx) else none) = some b := by cases dx <;> exact e
      obtain ⟨hz, e⟩ := ite_some e
      subst e
      rw [Bool.and_eq_true] at hz
      exact op_notInD hu pins s σ H _ _ v u Q I rx ry ⟨dx, ds, hx.dp sG (shp_can hz.1), Dr.dp sG (.lst ha ra) (shp_can hz.2), hz.1, hz.2, q⟩
    | @tup a ys ds ha ra =>
      have e : (if (flatD dx && ds.all flatD) = true then some (!ds.any fun z => PyData.eqv z dx) else none) = some b := by cases dx <;> exact e
      obtain ⟨hz, e⟩ := ite_some e
      subst e
      rw [Bool.and_eq_true] at hz
      exact op_notIn_seq pins s σ H _ _ v u Q I rx ry ⟨_, _, rfl, .inr (SqT.of (sG _ _ ha)), flat_v hx hz.1, flat_vs ra hz.2, by rw [if_pos rfl, any_flat hx hz.1 ra hz.2]; exact q⟩
    | _ => cases dx <;> cases e

/-! ### subscripts, slices -/
theorem Drs.atI {G : Hp} {xs : List V} {ds : List D} {i : Int} {d : D} (r : Drs G xs ds) (h : ixD ds i = some d) : ∃ v, atI xs i = some v ∧ Dr G v d := by
  unfold ixD L2.atI at h
  unfold L2.atI
  rw [r.length]
  cases e : ixN ds.length i with
  | none => rw [e] at h; cases h
  | some n =>
    rw [e] at h
    exact r.getD h
theorem Drs.cut {G : Hp} {xs : List V} {ds : List D} (r : Drs G xs ds) (lo hi : Option Int) : Drs G (cutV xs lo hi) (cutD ds lo hi) := by
  unfold cutV cutD
  rw [r.length]
  exact (r.drop _).take _
/-- x read as dx -/
def rIdx (K : PySem.W.Frag) : R2 := fun x y H Q => ∃ G dx dy d, Same G H ∧ RdR G H x dx ∧ Dr G y dy ∧ idx2 dx dy = some d ∧ ∀ v, Dr G v d → Q v H
theorem idx_ok : IxR X (rIdx X.K) := by
  intro value slice pins s σ H x y v u Q I rx ry h hs
  obtain ⟨G, dx, dy, d, sG, hx, hy, e, q⟩ := h
  have fin : rIx X.K x y H Q := by
    cases hy with
    | int i =>
      obtain ⟨ds, e1, e2⟩ := ob_some e
      obtain ⟨a, xs, rfl, ra, hS⟩ := items_of (K := X.K) sG hx e1
      obtain ⟨w, h1, h2⟩ := ra.atI e2
      rcases hS with hS | hS
      · exact .inl ⟨_, _, i, w, rfl, rfl, hS, h1, q w h2⟩
      · exact .inr (.inl ⟨_, _, i, w, rfl, rfl, hS, h1, q w h2⟩)
    | _ => cases e
  exact ix_seq value slice pins s σ H x y v u Q I rx ry fin hs
def rSli (lo hi : Option Int) : V → Hp → VK → Prop := fun x H Q => ∃ G dx sv, Same G H ∧ RdR G H x dx ∧ slice3 lo hi dx = some sv ∧ ∀ v H', SvN G H v sv H' → Q v H'
theorem sli_ok : SlR X (fun x lo hi H Q => rSli lo hi x H Q) := by
  intro pins s σ H x v vl vu lo hi sl Q I rx hs pl pu h
  obtain ⟨G, dx, sv, sG, hx, e, q⟩ := h
  rcases hx with hx | ⟨a, xs, ds, rfl, ha, ra, rfl⟩
  · cases hx with
    | lst ha ra =>
      cases e
      exact sl_list pins s σ H _ v vl vu lo hi sl Q I rx hs pl pu ⟨_, _, rfl, SqL.of (sG _ _ ha), fun p np => q _ _ (svn_lst sG (ra.cut lo hi) np)⟩
    | @tup a xs ds ha ra =>
      cases e
      refine sl_tupA pins s σ H _ v vl vu lo hi sl Q I rx hs pl pu ⟨a, xs, rfl, SqT.of (sG _ _ ha), fun hw => q _ _ (svn_old sG ?_), fun _ p np => q _ _ (svn_tup sG (ra.cut lo hi) np)⟩
      have e2 : cutD ds lo hi = ds := by
        unfold cutD
        rw [← ra.length, hw.1, hw.2]
        simp [ra.length]
      rw [e2]
      exact .tup ha ra
    | _ => cases e
  · cases e
    exact sl_list pins s σ H _ v vl vu lo hi sl Q I rx hs pl pu ⟨_, _, rfl, SqL.of ha, fun p np => q _ _ (svn_lst sG (ra.cut lo hi) np)⟩

/-! ### a list's item by value -/
theorem get_list : PGet X (rIxL X.K) := by
  intro pins s σ H o i ov iv Q I ro ri h
  obtain ⟨p, xs, k, v, rfl, rfl, hS, hv, q⟩ := h
  cases ro
  obtain ⟨t, rfl⟩ := ri
  obtain ⟨its, r, pl, hz⟩ := I.list hS
  obtain ⟨j, h1, h2, h3, h4, h5⟩ := atI_get hv
  obtain ⟨u, hu, ru⟩ := r.get h2
  have hn := line63
  have hl := r.length
  have fin : EP X pins σ Q u s := ⟨v, H, I, ru, q⟩
  by_cases h0 : 0 ≤ k
  · have hj : k.toNat = j := by
      rw [seqIndex_of h0 h5] at h1
      exact Option.some.inj h1
    exact wpAny_getItem_list pl.isList h0 (by omega) (by rw [hj]; simpa using hu) fin
  · have hj : (k + (its.toArray.size : Int)).toNat = j := by
      rw [seqIndex_neg (by omega) h4] at h1
      rw [List.size_toArray, ← hl]
      exact Option.some.inj h1
    exact wpAny_getItem_list_neg pl.isList (by omega) (by rw [List.size_toArray, ← hl]; omega) (by omega) (by rw [hj]; simpa using hu) fin
end
end DP

/-! built-ins, by values -/
namespace DP
open PySem PySem.Spec PyProof.Rows L2

/-! ### sum, max, min of a tuple of ints -/
section
variable {prog : Program} {w : World} {A : Around} {E : Value → Shared → Prop} {s : Shared} {l : Addr} {its : List Value} {ns : List Int} {Q : Value → Shared → Prop}
theorem iter_tup {items : Array Value} {R : Value → Shared → Prop} (ht : s.heap.IsTuple l items)
    (h : ∀ s2 : Shared, s2 = { s with heap := s.heap.push { cls := .type "tuple_iterator", data := .fields #[.ref l, .int 0 0] } } → (s2.heap.IsTupleIter s.heap.objs.size l 0 ∧ s2.heap.IsTuple l items) → (∀ b ∈ [s.heap.objs.size, l], b < s2.heap.objs.size) → l ≠ s.heap.objs.size → R (.ref s.heap.objs.size) s2) :
    wpAny (model prog w) A (pyIter (.ref l)) R E s := by
  have hlt : l < s.heap.objs.size := by obtain ⟨_, e, _⟩ := ht; exact Heap.lt_size e
  refine wpAny_pyIter_tuple ht (h _ rfl ⟨⟨_, Heap.get?_push_size _ rfl, rfl, rfl⟩, ht.push _⟩ (fun b hb => ?_) (Nat.ne_of_lt hlt))
  show b < (s.heap.push _).objs.size
  rw [Heap.size_push]
  rcases List.mem_cons.mp hb with rfl | hb
  · exact Nat.lt_succ_self _
  · rcases List.mem_cons.mp hb with rfl | hb
    · exact Nat.lt_succ_of_lt hlt
    · cases hb
theorem old_keptT {h' : Heap} (hk : ∀ b o, b ∉ [s.heap.objs.size] → (s.heap.push { cls := .type "tuple_iterator", data := .fields #[.ref l, .int 0 0] }).get? b = some o → h'.get? b = some o) :
    ∀ b o, s.heap.get? b = some o → h'.get? b = some o := fun b o e => by
  refine hk b o (fun hm => ?_) (Heap.get?_push_of_some _ e)
  rcases List.mem_cons.mp hm with e1 | hm
  · exact absurd (e1 ▸ Heap.lt_size e) (Nat.lt_irrefl _)
  · cases hm
theorem sum_rawT (hh : A.handled = none) (hl : s.heap.IsTuple l its.toArray) (hi : IntsAre its ns)
    (h : ∀ h' tk t', (∀ b o, s.heap.get? b = some o → h'.get? b = some o) → Q (.int ns.sum t') { s with heap := h', toks := tk }) : wpAny (model prog w) A (call (.builtin "sum") [.ref l]) Q E s := by
  obtain ⟨xs, e⟩ := hi.allInts.items
  have hn : numsOf (intItems xs).toList = ns := by rw [← e]; exact hi.numsOf
  rw [nums_intItems] at hn
  rw [e] at hl
  refine call_sum_walkG (iter_tup hl fun s2 e2 st hfp hlI => ?_)
  subst e2
  refine ⟨_, _, _, _, _, _, numAt xs, rfl, Walks.tuple (A := A.in1) hh _ l hlI (intItems xs), st, hfp, (fun _ _ => intItems_at), fun h' tk t' hk => ?_⟩
  have := h h' tk t' (old_keptT hk)
  rw [← hn] at this
  rw [preSum_eq, List.take_of_length_le (by simp [intItems])]
  exact this
theorem max_rawT (hh : A.handled = none) (hl : s.heap.IsTuple l its.toArray) (hi : IntsAre its ns) (hne : 0 < ns.length)
    (h : ∀ h' tk M t', (∀ b o, s.heap.get? b = some o → h'.get? b = some o) → M ∈ ns → (∀ a, a ∈ ns → a ≤ M) → Q (.int M t') { s with heap := h', toks := tk }) : wpAny (model prog w) A (call (.builtin "max") [.ref l]) Q E s := by
  obtain ⟨xs, e⟩ := hi.allInts.items
  have hn : numsOf (intItems xs).toList = ns := by rw [← e]; exact hi.numsOf
  rw [nums_intItems] at hn
  subst hn
  rw [e] at hl
  have hsz : 0 < xs.size := by simpa using hne
  refine call_max_walk (iter_tup hl fun s2 e2 st hfp hlI => ?_)
  subst e2
  refine ⟨_, _, _, _, _, _, _, rfl, Walks.tuple (A := A.in1) hh _ l hlI (intItems xs), st, hfp, by simpa [intItems] using hsz, CmpOf.ints_gt (numAt xs) (fun _ _ => intItems_at), fun v h' tk hP hk => ?_⟩
  have hP : (intItems xs)[argBest (fun i j => decide (numAt xs i > numAt xs j)) (xs.size - 1)]? = some v := by simpa [intItems] using hP
  obtain ⟨t, rfl⟩ := intItems_at hP
  obtain ⟨h1, h2⟩ := argBest_gt (numAt xs) (xs.size - 1)
  refine h h' tk _ t (old_keptT hk) ?_ fun a ha => ?_
  · rw [numAt_eq]; exact PySem.getD_mem (by rw [List.length_map, Array.length_toList]; omega)
  · obtain ⟨j, hj, rfl⟩ := mem_getD ha
    rw [List.length_map, Array.length_toList] at hj
    rw [← numAt_eq]; exact h2 j (by omega)
theorem min_rawT (hh : A.handled = none) (hl : s.heap.IsTuple l its.toArray) (hi : IntsAre its ns) (hne : 0 < ns.length)
    (h : ∀ h' tk M t', (∀ b o, s.heap.get? b = some o → h'.get? b = some o) → M ∈ ns → (∀ a, a ∈ ns → M ≤ a) → Q (.int M t') { s with heap := h', toks := tk }) : wpAny (model prog w) A (call (.builtin "min") [.ref l]) Q E s := by
  obtain ⟨xs, e⟩ := hi.allInts.items
  have hn : numsOf (intItems xs).toList = ns := by rw [← e]; exact hi.numsOf
  rw [nums_intItems] at hn
  subst hn
  rw [e] at hl
  have hsz : 0 < xs.size := by simpa using hne
  refine call_min_walk (iter_tup hl fun s2 e2 st hfp hlI => ?_)
  subst e2
  refine ⟨_, _, _, _, _, _, _, rfl, Walks.tuple (A := A.in1) hh _ l hlI (intItems xs), st, hfp, by simpa [intItems] using hsz, CmpOf.ints_lt (numAt xs) (fun _ _ => intItems_at), fun v h' tk hP hk => ?_⟩
  have hP : (intItems xs)[argBest (fun i j => decide (numAt xs i < numAt xs j)) (xs.size - 1)]? = some v := by simpa [intItems] using hP
  obtain ⟨t, rfl⟩ := intItems_at hP
  obtain ⟨h1, h2⟩ := argBest_lt (numAt xs) (xs.size - 1)
  refine h h' tk _ t (old_keptT hk) ?_ fun a ha => ?_
  · rw [numAt_eq]; exact PySem.getD_mem (by rw [List.length_map, Array.length_toList]; omega)
  · obtain ⟨j, hj, rfl⟩ := mem_getD ha
    rw [List.length_map, Array.length_toList] at hj
    rw [← numAt_eq]; exact h2 j (by omega)
end

/-! ### what max, min, sorted are -/
theorem maxI_mem : ∀ (r : List Int) (m : Int), maxI m r ∈ m :: r
  | [], m => List.mem_cons_self
  | x :: r, m => by
    unfold maxI
    by_cases z : m < x
    · rw [if_pos z]
      exact List.mem_cons_of_mem _ (maxI_mem r x)
    · rw [if_neg z]
      rcases List.mem_cons.mp (maxI_mem r m) with e | e
      · rw [e]; exact List.mem_cons_self
      · exact List.mem_cons_of_mem _ (List.mem_cons_of_mem _ e)
theorem maxI_le : ∀ (r : List Int) (m : Int), ∀ y ∈ m :: r, y ≤ maxI m r
  | [], m, y, h => by simp at h; subst h; exact Int.le_refl _
  | x :: r, m, y, h => by
    unfold maxI
    by_cases z : m < x
    · rw [if_pos z]
      have ih := maxI_le r x
      have h0 := ih _ List.mem_cons_self
      rcases List.mem_cons.mp h with e | h
      · subst e; omega
      · exact ih y h
    · rw [if_neg z]
      have ih := maxI_le r m
      have h0 := ih _ List.mem_cons_self
      rcases List.mem_cons.mp h with e | h
      · subst e; omega
      · rcases List.mem_cons.mp h with e | h
        · subst e; omega
        · exact ih y (List.mem_cons_of_mem _ h)
theorem minI_mem : ∀ (r : List Int) (m : Int), minI m r ∈ m :: r
  | [], m => List.mem_cons_self
  | x :: r, m => by
    unfold minI
    by_cases z : x < m
    · rw [if_pos z]
      exact List.mem_cons_of_mem _ (minI_mem r x)
    · rw [if_neg z]
      rcases List.mem_cons.mp (minI_mem r m) with e | e
      · rw [e]; exact List.mem_cons_self
      · exact List.mem_cons_of_mem _ (List.mem_cons_of_mem _ e)
theorem minI_le : ∀ (r : List Int) (m : Int), ∀ y ∈ m :: r, minI m r ≤ y
  | [], m, y, h => by simp at h; subst h; exact Int.le_refl _
  | x :: r, m, y, h => by
    unfold minI
    by_cases z : x < m
    · rw [if_pos z]
      have ih := minI_le r x
      have h0 := ih _ List.mem_cons_self
      rcases List.mem_cons.mp h with e | h
      · subst e; omega
      · exact ih y h
    · rw [if_neg z]
      have ih := minI_le r m
      have h0 := ih _ List.mem_cons_self
      rcases List.mem_cons.mp h with e | h
      · subst e; omega
      · rcases List.mem_cons.mp h with e | h
        · subst e; omega
        · exact ih y (List.mem_cons_of_mem _ h)
theorem insI_perm (x : Int) : ∀ r : List Int, (insI x r).Perm (x :: r)
  | [] => .refl _
  | y :: r => by
    unfold insI
    split
    · exact .refl _
    · exact ((insI_perm x r).cons y).trans (.swap x y r)
theorem sortI_perm : ∀ r : List Int, (sortI r).Perm r
  | [] => .refl _
  | x :: r => (insI_perm x (sortI r)).trans ((sortI_perm r).cons x)
theorem insI_sorted (x : Int) : ∀ r : List Int, r.Pairwise (· ≤ ·) → (insI x r).Pairwise (· ≤ ·)
  | [], _ => by unfold insI; exact List.pairwise_singleton _ _
  | y :: r, h => by
    rw [List.pairwise_cons] at h
    unfold insI
    split
    · next hxy =>
      refine List.pairwise_cons.mpr ⟨fun z hz => ?_, List.pairwise_cons.mpr h⟩
      rcases List.mem_cons.mp hz with e | hz
      · rw [e]; exact hxy
      · exact Int.le_trans hxy (h.1 z hz)
    · next hxy =>
      refine List.pairwise_cons.mpr ⟨fun z hz => ?_, insI_sorted x r h.2⟩
      rcases List.mem_cons.mp ((insI_perm x r).mem_iff.mp hz) with e | hz
      · rw [e]; omega
      · exact h.1 z hz
theorem sortI_sorted : ∀ r : List Int, (sortI r).Pairwise (· ≤ ·)
  | [] => .nil
  | x :: r => insI_sorted x _ (sortI_sorted r)
theorem sortI_one {a r : List Int} (p : a.Perm r) (s : a.Pairwise (· ≤ ·)) : a = sortI r :=
  List.Perm.eq_of_pairwise (fun x y _ _ h1 h2 => Int.le_antisymm h1 h2) s (sortI_sorted r) (p.trans (sortI_perm r).symm)

/-! ### the calls -/
def rB1 (f : B1) : List V → Hp → VK → Prop := fun vs H Q => ∃ x G d sv, vs = [x] ∧ Same G H ∧ RdR G H x d ∧ blt1 f d = some sv ∧ ∀ v H', SvN G H v sv H' → Q v H'
def rB2 (f : B2) : List V → Hp → VK → Prop := fun vs H Q => ∃ x y G dx dy d, vs = [x, y] ∧ Same G H ∧ Dr G x dx ∧ Dr G y dy ∧ blt2 f dx dy = some d ∧ ∀ v, Dr G v d → Q v H
theorem ints_items {G H : Hp} {K : PySem.W.Frag} {x : V} {d : D} {ds : List D} {ns : List Int} (sG : Same G H) (h : RdR G H x d) (e1 : seqD d = some ds) (e2 : intsD ds = some ns) :
    ∃ a, x = .ref a ∧ (SqL K H a (ns.map V.int) ∨ SqT K H a (ns.map V.int)) := by
  obtain ⟨a, xs, rfl, ra, hS⟩ := items_of (K := K) sG h (seq_items e1)
  obtain ⟨e3, _⟩ := ra.ints_of e2
  subst e3
  exact ⟨a, rfl, hS⟩
section
variable {X : Cx}
theorem b1_len : CallR X (.builtin "len") (rB1 .len) := by
  intro pins s σ H vs us Q I r h
  obtain ⟨x, G, d, sv, rfl, sG, hx, e, q⟩ := h
  obtain ⟨ds, e1, e2⟩ := ob_some (f := fun ds : List D => some (SV.val (.int ds.length))) e
  cases e2
  obtain ⟨a, xs, rfl, ra, hS⟩ := items_of (K := X.K) sG hx e1
  exact call_len_seq pins s σ H _ us Q I r ⟨a, xs, rfl, hS, by rw [ra.length]; exact q _ _ (svn_int (s := sG) _)⟩
theorem b1_sum (hc : X.calm = true) : CallR X (.builtin "sum") (rB1 .sum) := by
  intro pins s σ H vs us Q I r h
  obtain ⟨x, G, d, sv, rfl, sG, hx, e, q⟩ := h
  obtain ⟨ds, e1, e⟩ := ob_some (f := fun ds : List D => ob (intsD ds) fun ns => some (SV.val (.int ns.sum))) e
  obtain ⟨ns, e2, e⟩ := ob_some e
  cases e
  obtain ⟨a, rfl, hS⟩ := ints_items (K := X.K) sG hx e1 e2
  rcases hS with hS | hS
  · exact cr_sum hc pins s σ H _ us Q I r ⟨a, ns, rfl, hS, q _ _ (svn_int (s := sG) _)⟩
  · obtain ⟨its, rv, ht, _⟩ := I.tuple hS
    rw [Vals.ref1 r]
    exact sum_rawT (I.ok.hd hc) (show s.heap.IsTuple a its.toArray from ht) rv.ints fun h' tk t' hk => ⟨.int _, H, I.kept hk, ⟨_, rfl⟩, q _ _ (svn_int (s := sG) _)⟩
theorem b1_max (hc : X.calm = true) : CallR X (.builtin "max") (rB1 .max) := by
  intro pins s σ H vs us Q I r h
  obtain ⟨x, G, d, sv, rfl, sG, hx, e, q⟩ := h
  obtain ⟨ds, e1, e⟩ := ob_some (f := fun ds : List D => ob (intsD ds) fun ns => (match ns with | [] => none | x :: r => some (SV.val (.int (maxI x r))))) e
  obtain ⟨ns, e2, e⟩ := ob_some e
  cases ns with
  | nil => cases e
  | cons n0 r0 =>
    cases e
    have one : ∀ m, m ∈ n0 :: r0 → (∀ y, y ∈ n0 :: r0 → y ≤ m) → m = maxI n0 r0 := fun m h1 h2 => Int.le_antisymm (maxI_le r0 n0 m h1) (h2 _ (maxI_mem r0 n0))
    obtain ⟨a, rfl, hS⟩ := ints_items (K := X.K) sG hx e1 e2
    rcases hS with hS | hS
    · exact cr_max hc pins s σ H _ us Q I r ⟨a, n0 :: r0, rfl, hS, Nat.succ_pos _, fun m h1 h2 => by rw [one m h1 h2]; exact q _ _ (svn_int (s := sG) _)⟩
    · obtain ⟨its, rv, ht, _⟩ := I.tuple hS
      rw [Vals.ref1 r]
      exact max_rawT (I.ok.hd hc) (show s.heap.IsTuple a its.toArray from ht) rv.ints (Nat.succ_pos _) fun h' tk m t' hk h1 h2 => ⟨.int m, H, I.kept hk, ⟨_, rfl⟩, by rw [one m h1 h2]; exact q _ _ (svn_int (s := sG) _)⟩
theorem b1_min (hc : X.calm = true) : CallR X (.builtin "min") (rB1 .min) := by
  intro pins s σ H vs us Q I r h
  obtain ⟨x, G, d, sv, rfl, sG, hx, e, q⟩ := h
  obtain ⟨ds, e1, e⟩ := ob_some (f := fun ds : List D => ob (intsD ds) fun ns => (match ns with | [] => none | x :: r => some (SV.val (.int (minI x r))))) e
  obtain ⟨ns, e2, e⟩ := ob_some e
  cases ns with
  | nil => cases e
  | cons n0 r0 =>
    cases e
    have one : ∀ m, m ∈ n0 :: r0 → (∀ y, y ∈ n0 :: r0 → m ≤ y) → m = minI n0 r0 := fun m h1 h2 => Int.le_antisymm (h2 _ (minI_mem r0 n0)) (minI_le r0 n0 m h1)
    obtain ⟨a, rfl, hS⟩ := ints_items (K := X.K) sG hx e1 e2
    rcases hS with hS | hS
    · exact cr_min hc pins s σ H _ us Q I r ⟨a, n0 :: r0, rfl, hS, Nat.succ_pos _, fun m h1 h2 => by rw [one m h1 h2]; exact q _ _ (svn_int (s := sG) _)⟩
    · obtain ⟨its, rv, ht, _⟩ := I.tuple hS
      rw [Vals.ref1 r]
      exact min_rawT (I.ok.hd hc) (show s.heap.IsTuple a its.toArray from ht) rv.ints (Nat.succ_pos _) fun h' tk m t' hk h1 h2 => ⟨.int m, H, I.kept hk, ⟨_, rfl⟩, by rw [one m h1 h2]; exact q _ _ (svn_int (s := sG) _)⟩
theorem b1_abs : CallR X (.builtin "abs") (rB1 .abs) := by
  intro pins s σ H vs us Q I r h
  obtain ⟨x, G, d, sv, rfl, sG, hx, e, q⟩ := h
  rcases hx with hx | ⟨a, xs, ds, rfl, ha, ra, rfl⟩
  · cases hx with
    | int i => cases e; exact call_abs pins s σ H _ us Q I r ⟨i, rfl, q _ _ (svn_int (s := sG) _)⟩
    | _ => cases e
  · cases e
theorem b1_int : CallR X (.type "int") (rB1 .int) := by
  intro pins s σ H vs us Q I r h
  obtain ⟨x, G, d, sv, rfl, sG, hx, e, q⟩ := h
  rcases hx with hx | ⟨a, xs, ds, rfl, ha, ra, rfl⟩
  · cases hx with
    | int i => cases e; exact call_int1 pins s σ H _ us Q I r (.inl ⟨i, rfl, q _ _ (svn_int (s := sG) _)⟩)
    | bl b => cases e; exact call_int1 pins s σ H _ us Q I r (.inr ⟨b, rfl, q _ _ (svn_int (s := sG) _)⟩)
    | _ => cases e
  · cases e
theorem b1_tuple : CallR X (.type "tuple") (rB1 .tuple) := by
  intro pins s σ H vs us Q I r h
  obtain ⟨x, G, d, sv, rfl, sG, hx, e, q⟩ := h
  rcases hx with hx | ⟨a, xs, ds, rfl, ha, ra, rfl⟩
  · cases hx with
    | lst ha ra => cases e; exact call_tuple_of pins s σ H _ us Q I r ⟨_, _, rfl, .inl ⟨SqL.of (sG _ _ ha), fun l nl => q _ _ (svn_tup sG ra nl)⟩⟩
    | tup ha ra => cases e; exact call_tuple_of pins s σ H _ us Q I r ⟨_, _, rfl, .inr ⟨SqT.of (sG _ _ ha), q _ _ (svn_old sG (.tup ha ra))⟩⟩
    | _ => cases e
  · cases e
    exact call_tuple_of pins s σ H _ us Q I r ⟨_, _, rfl, .inl ⟨SqL.of ha, fun l nl => q _ _ (svn_tup sG ra nl)⟩⟩
theorem b1_list : CallR X (.type "list") (rB1 .list) := by
  intro pins s σ H vs us Q I r h
  obtain ⟨x, G, d, sv, rfl, sG, hx, e, q⟩ := h
  rcases hx with hx | ⟨a, xs, ds, rfl, ha, ra, rfl⟩
  · cases hx with
    | lst ha ra => cases e; exact call_list_of pins s σ H _ us Q I r ⟨_, _, rfl, .inl (SqL.of (sG _ _ ha)), fun l nl => q _ _ (svn_lst sG ra nl)⟩
    | tup ha ra => cases e; exact call_list_of pins s σ H _ us Q I r ⟨_, _, rfl, .inr (SqT.of (sG _ _ ha)), fun l nl => q _ _ (svn_lst sG ra nl)⟩
    | _ => cases e
  · cases e
    exact call_list_of pins s σ H _ us Q I r ⟨_, _, rfl, .inl (SqL.of ha), fun l nl => q _ _ (svn_lst sG ra nl)⟩
theorem b1_sorted : CallR X (.builtin "sorted") (rB1 .sorted) := by
  intro pins s σ H vs us Q I r h
  obtain ⟨x, G, d, sv, rfl, sG, hx, e, q⟩ := h
  have hd : ∃ ds, d = .list ds := by cases d <;> first | exact ⟨_, rfl⟩ | cases e
  obtain ⟨ds, rfl⟩ := hd
  obtain ⟨ns, e2, e⟩ := ob_some (f := fun ns : List Int => some (SV.own ((sortI ns).map .int))) e
  cases e
  have fin : ∀ a, SqL X.K H a (ns.map V.int) → x = .ref a → wpAny (model X.prog X.w) X.A (call (.builtin "sorted") us) (EP X pins σ Q) X.xe s := fun a hS ea => by
    subst ea
    refine cr_sortedI pins s σ H _ us Q I r ⟨a, ns, rfl, hS, fun ns' p h1 h2 np => ?_⟩
    rw [sortI_one h1 h2]
    exact q _ _ (svn_lst sG (Drs.ints _) np)
  rcases hx with hx | ⟨a, xs, es, rfl, ha, ra, e3⟩
  · cases hx with
    | lst ha ra =>
      obtain ⟨e3, _⟩ := ra.ints_of e2
      subst e3
      exact fin _ (SqL.of (sG _ _ ha)) rfl
  · cases e3
    obtain ⟨e3, _⟩ := ra.ints_of e2
    subst e3
    exact fin _ (SqL.of ha) rfl
theorem b2_max (hc : X.calm = true) : CallR X (.builtin "max") (rB2 .max) := by
  intro pins s σ H vs us Q I r h
  obtain ⟨x, y, G, dx, dy, d, rfl, sG, hx, hy, e, q⟩ := h
  cases hx with
  | int i =>
    cases hy with
    | int j => cases e; exact call_max2 hc pins s σ H _ us Q I r ⟨i, j, rfl, q _ (.int _)⟩
    | _ => cases e
  | _ => cases e
theorem b2_min (hc : X.calm = true) : CallR X (.builtin "min") (rB2 .min) := by
  intro pins s σ H vs us Q I r h
  obtain ⟨x, y, G, dx, dy, d, rfl, sG, hx, hy, e, q⟩ := h
  cases hx with
  | int i =>
    cases hy with
    | int j => cases e; exact call_min2 hc pins s σ H _ us Q I r ⟨i, j, rfl, q _ (.int _)⟩
    | _ => cases e
  | _ => cases e

/-! ### isinstance -/
def tyS : Ty → String
  | .int => "int"
  | .bool => "bool"
  | .tuple => "tuple"
  | .list => "list"
  | .str => "str"
theorem kit_yes {K : PySem.W.Frag} {H G : Hp} {x : V} {d : D} (sG : Same G H) (h : Dr G x d) : ∃ tv, TyX K H x tv ∧ ∀ t b, isiT d t = some b → PySem.W.kitOne K tv (.type (tyS t)) = some b := by
  cases h with
  | non => refine ⟨_, .base .non, fun t b e => ?_⟩; cases t <;> cases e <;> exact kit_ty (by decide +kernel)
  | bl c => refine ⟨_, .base (.bl c), fun t b e => ?_⟩; cases t <;> cases e <;> exact kit_ty (by decide +kernel)
  | int i => refine ⟨_, .base (.int i), fun t b e => ?_⟩; cases t <;> cases e <;> exact kit_ty (by decide +kernel)
  | str z => refine ⟨_, .base (.str z), fun t b e => ?_⟩; cases t <;> cases e <;> exact kit_ty (by decide +kernel)
  | lst ha ra => refine ⟨_, .base (.lst (sG _ _ ha)), fun t b e => ?_⟩; cases t <;> cases e <;> exact kit_ty (by decide +kernel)
  | tup ha ra => refine ⟨_, .base (.tup (sG _ _ ha)), fun t b e => ?_⟩; cases t <;> cases e <;> exact kit_ty (by decide +kernel)
  | scr _ ha => exact ⟨_, .base (.frz (sG _ _ ha)), fun t b e => by cases e⟩

/-! ### methods of lists -/
def rMf (m : Mf) : V → List V → Hp → VK → Prop := fun x vs H Q => ∃ y G dx dy d, vs = [y] ∧ Same G H ∧ Dr G x dx ∧ Dr G y dy ∧ methD m dx dy = some d ∧ ∀ v, Dr G v d → Q v H
theorem m_count : MtR X "list.count" (rMf .count) := by
  intro pins s σ H x xs v us Q I rx rxs h
  obtain ⟨y, G, dx, dy, d, rfl, sG, hx, hy, e, q⟩ := h
  cases hx with
  | lst ha ra =>
    cases hy with
    | int k =>
      obtain ⟨ns, e2, e⟩ := ob_some (f := fun ns : List Int => some (PyData.int (ns.count k))) e
      cases e
      obtain ⟨e3, _⟩ := ra.ints_of e2
      subst e3
      exact mt_lcount pins s σ H _ _ v us Q I rx rxs ⟨_, ns, k, rfl, rfl, SqL.of (sG _ _ ha), q _ (.int _)⟩
    | _ => cases e
  | _ => cases dy <;> cases e
theorem find_at {k : Int} : ∀ {ns : List Int} {j : Nat}, (ns.findIdx? fun z => z == k) = some j → ns[j]? = some k ∧ ∀ m z, m < j → ns[m]? = some z → z ≠ k := fun {ns j} h => by
  rw [List.findIdx?_eq_some_iff_getElem] at h
  obtain ⟨h1, h2, h3⟩ := h
  refine ⟨by rw [List.getElem?_eq_getElem h1]; simpa using h2, fun m z hm hz => ?_⟩
  obtain ⟨h4, h5⟩ := List.getElem?_eq_some_iff.mp hz
  have := h3 m hm
  rw [← h5]
  simpa using this
theorem m_index : MtR X "list.index" (rMf .index) := by
  intro pins s σ H x xs v us Q I rx rxs h
  obtain ⟨y, G, dx, dy, d, rfl, sG, hx, hy, e, q⟩ := h
  cases hx with
  | lst ha ra =>
    cases hy with
    | int k =>
      obtain ⟨ns, e2, e⟩ := ob_some (f := fun ns : List Int => ob (ns.findIdx? fun z => z == k) fun j => some (PyData.int (j : Nat))) e
      obtain ⟨j, e3, e⟩ := ob_some e
      cases e
      obtain ⟨e4, _⟩ := ra.ints_of e2
      subst e4
      obtain ⟨f1, f2⟩ := find_at e3
      refine mt_index pins s σ H _ _ v us Q I rx rxs ⟨_, _, .int k, j, .int k, rfl, rfl, SqL.of (sG _ _ ha), rfl, ?_, ?_, ?_, fun m z hm hz => ?_, q _ (.int _)⟩
      · rw [List.all_map]; exact List.all_eq_true.mpr fun _ _ => rfl
      · rw [List.getElem?_map, f1]; rfl
      · show (k == k) = true
        exact beq_self_eq_true k
      · rw [List.getElem?_map] at hz
        cases e5 : ns[m]? with
        | none => rw [e5] at hz; cases hz
        | some z2 =>
          rw [e5] at hz
          cases hz
          exact beq_eq_false_iff_ne.mpr (f2 m z2 hm e5)
    | _ => cases e
  | _ => cases dy <;> cases e
end
end DP

/-! what a loop walks: lists, tuples, ranges, enumerate, zip (lists and tuples in any mix) -/
namespace DP
open PySem PySem.Spec PyProof.Rows L2

/-! ### a list or a tuple, by kind -/
def SqK (K : PySem.W.Frag) (H : Hp) (k : Bool) (a : Addr) (xs : List V) : Prop := match k with
  | true => SqL K H a xs
  | false => SqT K H a xs
def itK (k : Bool) (h : Heap) (it a : Addr) (i : Nat) : Prop := match k with
  | true => h.IsListIter it a i
  | false => h.IsTupleIter it a i
def conK (k : Bool) (a : Addr) (items : Array Value) (h : Heap) : Prop := match k with
  | true => h.IsList a items
  | false => h.IsTuple a items
def objK (k : Bool) (a : Addr) : Obj := match k with
  | true => { cls := .type "list_iterator", data := .fields #[.ref a, .int 0 0] }
  | false => { cls := .type "tuple_iterator", data := .fields #[.ref a, .int 0 0] }
theorem itK.look {k : Bool} {h : Heap} {it a : Addr} {i : Nat} (x : itK k h it a i) : ∃ o, h.get? it = some o ∧ ∀ v, o.data ≠ .cell v := by
  cases k with
  | true => obtain ⟨o, e, c, d⟩ := x; exact ⟨o, e, fun v z => by rw [d] at z; cases z⟩
  | false => obtain ⟨o, e, c, d⟩ := x; exact ⟨o, e, fun v z => by rw [d] at z; cases z⟩
theorem itK.at {k : Bool} {h h' : Heap} {it a : Addr} {i : Nat} (x : itK k h it a i) (q : ∀ o, h.get? it = some o → h'.get? it = some o) : itK k h' it a i := by
  cases k with
  | true => obtain ⟨o, e, c, d⟩ := x; exact ⟨o, q o e, c, d⟩
  | false => obtain ⟨o, e, c, d⟩ := x; exact ⟨o, q o e, c, d⟩
theorem itK.new {k : Bool} {h : Heap} {it a : Addr} (e : h.get? it = some (objK k a)) : itK k h it a 0 := by
  cases k with
  | true => exact ⟨_, e, rfl, rfl⟩
  | false => exact ⟨_, e, rfl, rfl⟩
theorem conK.at {k : Bool} {h h' : Heap} {a : Addr} {items : Array Value} (x : conK k a items h) (q : ∀ o, h.get? a = some o → h'.get? a = some o) : conK k a items h' := by
  cases k with
  | true => obtain ⟨o, e, r⟩ := x; exact ⟨o, q o e, r⟩
  | false => obtain ⟨o, e, r⟩ := x; exact ⟨o, q o e, r⟩
theorem drawsK {prog : Program} {w : World} {A : Around} (hh : A.handled = none) (k : Bool) (it a : Addr) (ne : a ≠ it) (items : Array Value) :
    Draws prog w A it [it, a] items.size (fun i v => items[i]? = some v) (fun i h => itK k h it a i ∧ conK k a items h) := by
  cases k with
  | true => exact Draws.list hh it a ne items
  | false => exact Draws.tuple hh it a ne items
theorem beginsK (k : Bool) (a : Addr) (items : Array Value) : Begins (.ref a) (objK k a) (conK k a items) := by
  cases k with
  | true => exact begins_list a items
  | false => exact begins_tuple a items
section
variable {X : Cx} {pins : List (Addr × Obj)} {σ : L2.St} {H : Hp} {s : Shared} {k : Bool} {a : Addr} {xs ys : List V}
theorem seqK (I : Inv X pins σ H s) (h : SqK X.K H k a xs) : ∃ its : List Value, Vals xs its ∧ conK k a its.toArray s.heap ∧ a < s.heap.objs.size := by
  cases k with
  | true => obtain ⟨its, r, p, _⟩ := I.list h; exact ⟨its, r, p.isList, p.lt⟩
  | false => obtain ⟨its, r, p, _⟩ := I.tuple h; exact ⟨its, r, p, p.lt⟩
theorem seqK_inj (I : Inv X pins σ H s) (h : SqK X.K H k a xs) (h' : SqK X.K H k a ys) : xs = ys := by
  cases k with
  | true => exact I.list_inj h h'
  | false => exact I.tuple_inj h h'
end

/-! ### enumerate -/
def ItE (K : PySem.W.Frag) (k : Bool) (a : Addr) : It :=
  ⟨fun i H => ∃ (xs : List V) (x : V), SqK K H k a xs ∧ xs[i]? = some x, fun i H v H' => ∃ T x, v = .ref T ∧ H T = none ∧ H' = upd H T (.tup [.int (i : Nat), x]) ∧ ∀ xs, SqK K H k a xs → xs[i]? = some x, fun i H => ∃ xs : List V, SqK K H k a xs ∧ xs.length = i⟩
theorem is_two {h : Heap} {T : Addr} {u v : Value} {x y : V} {P : Program} {w : World} {H : Hp} (t : h.IsTuple T #[u, v]) (r1 : RelV x u) (r2 : RelV y v) : ObjOk P w H h T (.tup [x, y]) :=
  ⟨by show 2 ≤ sizeLine; decide, [u, v], .cons r1 (.cons r2 .nil), t⟩
theorem turn_en {P : Program} {w : World} {K : PySem.W.Frag} {elts : List Expr} {kk : Nat} {tpos : Pos} (k : Bool) (a e it : Addr) :
    Turn P w K (.Tuple elts kk tpos) (ItE K k a) [e, it] e (fun i h => (∃ old, IsEnum h e it (0 + ((i : Nat) : Int)) old) ∧ itK k h it a i ∧ e ≠ it ∧ a ≠ it ∧ e ≠ a) where
  mem := List.mem_cons_self
  obj := fun i h st b hb => by
    obtain ⟨⟨old, he⟩, hi, _⟩ := st
    rcases List.mem_cons.mp hb with z | hb
    · rw [z]; exact ⟨_, he, fun v q => nomatch q⟩
    · rcases List.mem_cons.mp hb with z | hb
      · rw [z]; exact hi.look
      · cases hb
  keep := fun i h h' st kp => let ⟨⟨old, he⟩, hi, r⟩ := st; ⟨⟨old, kp e (by simp) _ he⟩, hi.at fun o q => kp it (by simp) o q, r⟩
  item := by
    intro X hP hw hK hc i pins s σ H E I hf st hg
    subst hP hw hK
    obtain ⟨he, hit, n1, n2, n3⟩ := st
    obtain ⟨xs, x, hq, hx⟩ := hg
    obtain ⟨its, rv, p, hz⟩ := seqK I hq
    obtain ⟨u, hu, ru⟩ := rv.get hx
    have hlt : i < its.toArray.size := by simpa using (List.getElem?_eq_some_iff.mp hu).1
    have W := GoesN.enumFrom (prog := X.prog) (w := X.w) (A := X.A) (elts := elts) (x1 := kk) (pos := tpos) 0 (drawsK (A := X.A.in1) (I.ok.hd hc) k it a n2 its.toArray) e n1 (by simp [n1, n3]) (by simp)
    have hel : e < s.heap.objs.size := by obtain ⟨old, q⟩ := he; exact Heap.lt_size q
    have hil : it < s.heap.objs.size := by obtain ⟨o, q, _⟩ := hit.look; exact Heap.lt_size q
    refine W.goes i s (fun v s2 => ∃ x H', Inv X pins σ H' s2 ∧ RelV x v ∧ (ItE X.K k a).yld i H x H' ∧ ((∃ old, IsEnum s2.heap e it (0 + ((i + 1 : Nat) : Int)) old) ∧ itK k s2.heap it a (i + 1) ∧ e ≠ it ∧ a ≠ it ∧ e ≠ a) ∧ ∀ b ∈ [e, it], H' b = none) E hlt ⟨he, hit, p⟩ fun v h' tk hY st' hk _ => ?_
    obtain ⟨T, t, y, rfl, hT, hy, hTu⟩ := hY
    have ey : y = u := by
      have q : its.toArray[i]? = some u := by simpa using hu
      rw [q] at hy; exact (Option.some.inj hy).symm
    subst ey
    have e0 : (0 : Int) + (i : Int) = (i : Int) := Int.zero_add _
    rw [e0] at hTu
    have new : ObjOk X.prog X.w (upd H T (.tup [.int (i : Nat), x])) h' T (.tup [.int (i : Nat), x]) := is_two hTu ⟨t, rfl⟩ ru
    have I1 := I.turnedNew (t' := tk) (ch := [e, it]) (fun b ob hb q => hk b ob hb q) hf hT new
    refine ⟨.ref T, _, I1, rfl, ⟨T, x, rfl, I.hok.fresh hT, rfl, fun ys hy => by rw [seqK_inj I hy hq]; exact hx⟩, ⟨st'.1, st'.2.1, n1, n2, n3⟩, fun b hb => ?_⟩
    have hb' : b < s.heap.objs.size := by
      rcases List.mem_cons.mp hb with z | hb
      · rw [z]; exact hel
      · rcases List.mem_cons.mp hb with z | hb
        · rw [z]; exact hil
        · cases hb
    rw [upd_ne (Nat.ne_of_lt (Nat.lt_of_lt_of_le hb' hT))]
    exact (hf b hb).1
  done := by
    intro X hP hw hK hc i pins s σ H E I hf st hg
    subst hP hw hK
    obtain ⟨he, hit, n1, n2, n3⟩ := st
    obtain ⟨xs, hq, hx⟩ := hg
    obtain ⟨its, rv, p, hz⟩ := seqK I hq
    have hn : its.toArray.size = i := by rw [← hx, rv.length]; simp
    have W := GoesN.enumFrom (prog := X.prog) (w := X.w) (A := X.A) (elts := elts) (x1 := kk) (pos := tpos) 0 (drawsK (A := X.A.in1) (I.ok.hd hc) k it a n2 its.toArray) e n1 (by simp [n1, n3]) (by simp)
    refine W.stops s (fun s2 => Inv X pins σ H s2) E (by rw [hn]; exact ⟨he, hit, p⟩) fun h' tk hk _ => ?_
    exact I.turnedL (t' := tk) (ch := [e, it]) (fun b ob hb q => hk b ob hb q) hf
  self := fun A i s Q E st h => let ⟨⟨_, he⟩, _⟩ := st; wpAny_pyIter_enum he h
theorem enum_made {v : Value} {ob : Obj} {P : Heap → Prop} (B : Begins v ob P) :
    Meets (Builtin.«enumerate.__new__» ⟨[.type "enumerate", v], []⟩) (fun _ R s => P s.heap ∧
      R (.ok (.ret (.ref (s.heap.push ob).objs.size))) { s with heap := (s.heap.push ob).push { cls := .type "enumerate", data := .fields #[.none, .bool false, .ref s.heap.objs.size, rawInt 0, .none, .none] } }) :=
  .of_wp fun prog w A R s h => by
    obtain ⟨hp, gn, dn, tk, os⟩ := s
    obtain ⟨hP, h⟩ := h
    have hsub := sub_enumerate
    have begun : ∀ {A' : Around} {E : Value → Shared → Prop} {Q : Value → Shared → Prop}, Q (.ref hp.objs.size) ⟨hp.push ob, gn, dn, tk, os⟩ → wpAny (model prog w) A' (pyIter v) Q E ⟨hp, gn, dn, tk, os⟩ :=
      fun q => B.iter prog w _ _ ⟨hp, gn, dn, tk, os⟩ _ hP q
    wp_walk using begun
    refine wpAny_stack_any fun st => wpAny_pure ?_
    split
    · rename_i c _ _ _ _ _
      cases (c == Value.type "enumerate") <;> (wp_walk using begun; exact ⟨_, rfl, h⟩)
    · wp_walk using begun
      exact ⟨_, rfl, h⟩
theorem enum_call {prog : Program} {w : World} {A : Around} {E : Value → Shared → Prop} {s : Shared} {v : Value} {ob : Obj} {P : Heap → Prop} {Q : Value → Shared → Prop} (B : Begins v ob P) (hP : P s.heap)
    (h : ∀ h', IsEnum h' (s.heap.objs.size + 1) s.heap.objs.size 0 .none → h'.get? s.heap.objs.size = some ob →
      (∀ b o, s.heap.get? b = some o → h'.get? b = some o) → Q (.ref (s.heap.objs.size + 1)) { s with heap := h' }) :
    wpAny (model prog w) A (call (.type "enumerate") [v]) Q E s := by
  refine callType_new F.called_enumerate (by decide) (F.typeCall_enumerate_1 _) (F.newCall_enumerate_1 _) (fun obj => F.args_object_init_2 obj _) F.entry_enumerate_new (enum_made B) ⟨hP, ?_⟩
  have hz : (s.heap.push ob).objs.size = s.heap.objs.size + 1 := Heap.size_push ..
  show _ ∧ _
  rw [hz]
  have he : IsEnum ((s.heap.push ob).push { cls := .type "enumerate", data := .fields #[.none, .bool false, .ref s.heap.objs.size, rawInt 0, .none, .none] }) (s.heap.objs.size + 1) s.heap.objs.size 0 .none := by
    have q := Heap.get?_push_size (s.heap.push ob) (o := { cls := .type "enumerate", data := .fields #[.none, .bool false, .ref s.heap.objs.size, rawInt 0, .none, .none] }) rfl
    rw [hz] at q
    exact q
  exact ⟨⟨_, he, rfl⟩, h _ he (Heap.get?_push_of_some _ (Heap.get?_push_size _ B.free)) fun b o x => Heap.get?_push_of_some _ (Heap.get?_push_of_some _ x)⟩
def iEn (K : PySem.W.Frag) (ta : TA) : TI := fun σ H R => ta σ H fun vs H1 => ∃ k a xs, vs = [.ref a] ∧ SqK K H1 k a xs ∧ R (ItE K k a) H1
theorem pi_en {X : Cx} {e : Expr} {ta : TA} {p pos tpos : Pos} {elts : List Expr} {kk : Nat} (hg : Gl X "enumerate") (hm : X.mg "enumerate" = none) (ha : PA X [e] ta) (hs : starEach [e] X.env = [(false, eval e X.env)]) :
    PI X (.Tuple elts kk tpos) (.Call (.Name "enumerate" p) [e] [] pos) (iEn X.K ta) := by
  refine ⟨fun pins s σ H R I h => ?_⟩
  refine Call_ (ld_blt I hg hm boot_enumerate (PyProof.Rows.callWith_type1 (thn (ha.run pos pins s σ H _ I h) fun us s1 ⟨vs, H1, I1, r1, q1⟩ => ?_) hs rfl))
  obtain ⟨k, a, xs, ex, hq, q⟩ := q1
  subst ex
  rw [Vals.ref1 r1]
  obtain ⟨its, rv, p', hz⟩ := seqK I1 hq
  refine enum_call (beginsK k a its.toArray) p' fun h' he hit hk => wpAny_pyIter_enum he ?_
  have I2 : Inv X pins σ H1 { s1 with heap := h' } := I1.kept (t' := s1.toks) hk
  refine ⟨s1.heap.objs.size + 1, [s1.heap.objs.size + 1, s1.heap.objs.size], _, _, H1, rfl, I2, turn_en k a (s1.heap.objs.size + 1) s1.heap.objs.size, ⟨⟨.none, he⟩, itK.new hit, Nat.succ_ne_self _, Nat.ne_of_lt hz, Nat.ne_of_gt (Nat.lt_succ_of_lt hz)⟩, fun b hb => ?_, q⟩
  have hle : s1.heap.objs.size ≤ b := by
    rcases List.mem_cons.mp hb with z | hb
    · rw [z]; exact Nat.le_add_right _ _
    · rcases List.mem_cons.mp hb with z | hb
      · rw [z]; exact Nat.le_refl _
      · cases hb
  exact I1.fpOk hle (I1.hok.fresh hle)

/-! ### zip -/
theorem nlt {N i j : Nat} (h : i < j) : N + i < N + j := Nat.add_lt_add_left h N
theorem nlt0 {N j : Nat} (h : 0 < j) : N < N + j := Nat.lt_add_of_pos_right h
def ItZ (K : PySem.W.Frag) (k l : Bool) (a b : Addr) : It :=
  ⟨fun i H => ∃ (xs ys : List V) (x y : V), SqK K H k a xs ∧ SqK K H l b ys ∧ xs[i]? = some x ∧ ys[i]? = some y,
    fun i H v H' => ∃ T x y, v = .ref T ∧ H T = none ∧ H' = upd H T (.tup [x, y]) ∧ (∀ xs, SqK K H k a xs → xs[i]? = some x) ∧ ∀ ys, SqK K H l b ys → ys[i]? = some y,
    fun i H => ∃ xs ys : List V, SqK K H k a xs ∧ SqK K H l b ys ∧ min xs.length ys.length = i⟩
theorem turn_zi {P : Program} {w : World} {K : PySem.W.Frag} {elts : List Expr} {kk : Nat} {tpos : Pos} (k l : Bool) (a b N : Addr) (la : a < N) (lb : b < N) :
    Turn P w K (.Tuple elts kk tpos) (ItZ K k l a b) [N + 4, N + 2, N + 3, N, N + 1] (N + 4) (fun i h => IsZip h (N + 4) (N + 2) (N + 3) .none ∧ IsTupOf2 h (N + 2) (.ref N) (.ref (N + 1)) ∧ (∃ x y, IsTupOf2 h (N + 3) x y) ∧ itK k h N a i ∧ itK l h (N + 1) b i) where
  mem := List.mem_cons_self
  obj := fun i h st c hc => by
    obtain ⟨hz, hTI, ⟨x, y, hTO⟩, h1, h2⟩ := st
    have e' : c = N + 4 ∨ c = N + 2 ∨ c = N + 3 ∨ c = N ∨ c = N + 1 := by simpa using hc
    rcases e' with q | q | q | q | q
    · rw [q]; exact ⟨_, hz, fun v q => nomatch q⟩
    · rw [q]; exact ⟨_, hTI, fun v q => nomatch q⟩
    · rw [q]; exact ⟨_, hTO, fun v q => nomatch q⟩
    · rw [q]; exact h1.look
    · rw [q]; exact h2.look
  keep := fun i h h' st kp => by
    obtain ⟨hz, hTI, ⟨x, y, hTO⟩, h1, h2⟩ := st
    exact ⟨kp _ (by simp) _ hz, kp _ (by simp) _ hTI, ⟨x, y, kp _ (by simp) _ hTO⟩, h1.at fun o q => kp _ (by simp) o q, h2.at fun o q => kp _ (by simp) o q⟩
  item := by
    intro X hP hw hK hc i pins s σ H E I hf st hg
    subst hP hw hK
    obtain ⟨hz, hTI, hTO, h1, h2⟩ := st
    obtain ⟨xs, ys, x, y, hqx, hqy, hx, hy⟩ := hg
    obtain ⟨its, rv, p, _⟩ := seqK I hqx
    obtain ⟨its2, rv2, p2, _⟩ := seqK I hqy
    obtain ⟨u, hu, ru⟩ := rv.get hx
    obtain ⟨u2, hu2, ru2⟩ := rv2.get hy
    have hlt : i < min its.toArray.size its2.toArray.size := by
      have q1 : i < its.toArray.size := by simpa using (List.getElem?_eq_some_iff.mp hu).1
      have q2 : i < its2.toArray.size := by simpa using (List.getElem?_eq_some_iff.mp hu2).1
      omega
    have S := zip_sep2 (N := N) (fp1 := [a]) (fp2 := [b]) (by simpa using la) (by simpa using lb)
    have W := GoesN.zip2 (prog := X.prog) (w := X.w) (A := X.A) (elts := elts) (x1 := kk) (pos := tpos) S (drawsK (A := X.A.in1) (I.ok.hd hc) k N a (Nat.ne_of_lt la) its.toArray)
      (drawsK (A := X.A.in1) (I.ok.hd hc) l (N + 1) b (Nat.ne_of_lt (Nat.lt_succ_of_lt lb)) its2.toArray)
    have hNz : N + 4 < s.heap.objs.size := Heap.lt_size hz
    refine W.goes i s (fun v s2 => ∃ x H', Inv X pins σ H' s2 ∧ RelV x v ∧ (ItZ X.K k l a b).yld i H x H' ∧ (IsZip s2.heap (N + 4) (N + 2) (N + 3) .none ∧ IsTupOf2 s2.heap (N + 2) (.ref N) (.ref (N + 1)) ∧ (∃ x y, IsTupOf2 s2.heap (N + 3) x y) ∧ itK k s2.heap N a (i + 1) ∧ itK l s2.heap (N + 1) b (i + 1)) ∧ ∀ c ∈ [N + 4, N + 2, N + 3, N, N + 1], H' c = none) E hlt ⟨hz, hTI, hTO, ⟨h1, p⟩, h2, p2⟩ fun v h' tk hY st' hk _ => ?_
    obtain ⟨T, y1, y2, rfl, hT, hy1, hy2, hTu⟩ := hY
    have ey1 : y1 = u := by
      have q : its.toArray[i]? = some u := by simpa using hu
      rw [q] at hy1; exact (Option.some.inj hy1).symm
    have ey2 : y2 = u2 := by
      have q : its2.toArray[i]? = some u2 := by simpa using hu2
      rw [q] at hy2; exact (Option.some.inj hy2).symm
    subst ey1 ey2
    have new : ObjOk X.prog X.w (upd H T (.tup [x, y])) h' T (.tup [x, y]) := is_two hTu ru ru2
    have I1 := I.turnedNew (t' := tk) (ch := [N + 4, N + 2, N + 3, N, N + 1]) (fun c ob hb q => hk c ob (fun z => hb (by
      rcases List.mem_cons.mp z with z | z
      · rw [z]; simp
      · rcases List.mem_cons.mp z with z | z
        · rw [z]; simp
        · rcases List.mem_cons.mp z with z | z
          · rw [z]; simp
          · rcases List.mem_cons.mp z with z | z
            · rw [z]; simp
            · cases z)) q) hf hT new
    refine ⟨.ref T, _, I1, rfl, ⟨T, x, y, rfl, I.hok.fresh hT, rfl, fun zs hzs => by rw [seqK_inj I hzs hqx]; exact hx, fun zs hzs => by rw [seqK_inj I hzs hqy]; exact hy⟩, ⟨st'.1, st'.2.1, st'.2.2.1, st'.2.2.2.1.1, st'.2.2.2.2.1⟩, fun c hcm => ?_⟩
    have hb' : c < s.heap.objs.size := by
      have e' : c = N + 4 ∨ c = N + 2 ∨ c = N + 3 ∨ c = N ∨ c = N + 1 := by simpa using hcm
      have hN4 : (N + 4 : Nat) < s.heap.objs.size := hNz
      rcases e' with q | q | q | q | q
      · rw [q]; exact hNz
      · rw [q]; exact Nat.lt_trans (nlt (by decide)) hN4
      · rw [q]; exact Nat.lt_trans (nlt (by decide)) hN4
      · rw [q]; exact Nat.lt_trans (nlt0 (by decide)) hN4
      · rw [q]; exact Nat.lt_trans (nlt (by decide)) hN4
    rw [upd_ne (Nat.ne_of_lt (Nat.lt_of_lt_of_le hb' hT))]
    exact (hf c hcm).1
  done := by
    intro X hP hw hK hc i pins s σ H E I hf st hg
    subst hP hw hK
    obtain ⟨hz, hTI, hTO, h1, h2⟩ := st
    obtain ⟨xs, ys, hqx, hqy, hend⟩ := hg
    obtain ⟨its, rv, p, _⟩ := seqK I hqx
    obtain ⟨its2, rv2, p2, _⟩ := seqK I hqy
    have l1 := rv.length
    have l2 := rv2.length
    have S := zip_sep2 (N := N) (fp1 := [a]) (fp2 := [b]) (by simpa using la) (by simpa using lb)
    have W := GoesN.zip2 (prog := X.prog) (w := X.w) (A := X.A) (elts := elts) (x1 := kk) (pos := tpos) S (drawsK (A := X.A.in1) (I.ok.hd hc) k N a (Nat.ne_of_lt la) its.toArray)
      (drawsK (A := X.A.in1) (I.ok.hd hc) l (N + 1) b (Nat.ne_of_lt (Nat.lt_succ_of_lt lb)) its2.toArray)
    have hn : min its.toArray.size its2.toArray.size = i := by rw [List.size_toArray, List.size_toArray, ← l1, ← l2]; exact hend
    refine W.stops s (fun s2 => Inv X pins σ H s2) E (by rw [hn]; exact ⟨hz, hTI, hTO, ⟨h1, p⟩, h2, p2⟩) fun h' tk hk _ => ?_
    refine I.turnedL (t' := tk) (ch := [N + 4, N + 2, N + 3, N, N + 1]) (fun c ob hb q => hk c ob (fun z => hb ?_) q) hf
    rcases List.mem_cons.mp z with z | z
    · rw [z]; simp
    · rcases List.mem_cons.mp z with z | z
      · rw [z]; simp
      · rcases List.mem_cons.mp z with z | z
        · rw [z]; simp
        · rcases List.mem_cons.mp z with z | z
          · rw [z]; simp
          · cases z
  self := fun A i s Q E st h => wpAny_pyIter_zip st.1 h
def iZi (K : PySem.W.Frag) (ta : TA) : TI := fun σ H R => ta σ H fun vs H1 => ∃ k l a b xs ys, vs = [.ref a, .ref b] ∧ SqK K H1 k a xs ∧ SqK K H1 l b ys ∧ R (ItZ K k l a b) H1
theorem pi_zi {X : Cx} {e e2 : Expr} {ta : TA} {p pos tpos : Pos} {elts : List Expr} {kk : Nat} (hg : Gl X "zip") (hm : X.mg "zip" = none) (ha : PA X [e, e2] ta)
    (hs : starEach [e, e2] X.env = (false, eval e X.env) :: starEach [e2] X.env) (hpl : (backTo pos (starEach [e2] X.env)).any (·.1) = false) :
    PI X (.Tuple elts kk tpos) (.Call (.Name "zip" p) [e, e2] [] pos) (iZi X.K ta) := by
  refine ⟨fun pins s σ H R I h => ?_⟩
  refine Call_ (ld_blt I hg hm PyProof.Rows.boot_zip (PyProof.Rows.callWith_type1 (thn (ha.run pos pins s σ H _ I h) fun us s1 ⟨vs, H1, I1, r1, q1⟩ => ?_) hs hpl))
  obtain ⟨k, l, a, b, xs, ys, ex, hqx, hqy, q⟩ := q1
  subst ex
  obtain ⟨u, v, rfl, ru, rv0⟩ := r1.two
  cases ru
  cases rv0
  obtain ⟨its, rv, p1, la⟩ := seqK I1 hqx
  obtain ⟨its2, rv2, p2, lb⟩ := seqK I1 hqy
  refine zip_begins2 (beginsK k a its.toArray) (beginsK l b its2.toArray) p1 p2 fun h' hz hTI hTO h1 h2 hsz hk => wpAny_pyIter_zip hz ?_
  have I2 : Inv X pins σ H1 { s1 with heap := h' } := I1.kept (t' := s1.toks) hk
  refine ⟨s1.heap.objs.size + 4, [s1.heap.objs.size + 4, s1.heap.objs.size + 2, s1.heap.objs.size + 3, s1.heap.objs.size, s1.heap.objs.size + 1], _, _, H1, rfl, I2, turn_zi k l a b s1.heap.objs.size la lb, ⟨hz, hTI, ⟨_, _, hTO⟩, itK.new h1, itK.new h2⟩, fun c hcm => ?_, q⟩
  have hle : s1.heap.objs.size ≤ c := by
    have e' : c = s1.heap.objs.size + 4 ∨ c = s1.heap.objs.size + 2 ∨ c = s1.heap.objs.size + 3 ∨ c = s1.heap.objs.size ∨ c = s1.heap.objs.size + 1 := by simpa using hcm
    rcases e' with z | z | z | z | z
    · rw [z]; exact Nat.le_add_right _ _
    · rw [z]; exact Nat.le_add_right _ _
    · rw [z]; exact Nat.le_add_right _ _
    · rw [z]; exact Nat.le_refl _
    · rw [z]; exact Nat.le_add_right _ _
  exact I1.fpOk hle (I1.hok.fresh hle)
end DP

/-! expressions: the evaluator's answer is the program's, one lemma a construct -/
namespace DP
open PySem PySem.Spec PyProof.Rows L2

theorem PE.le {X : Cx} {e : Expr} {t t' : TE} (h : PE X e t) (k : ∀ σ H Q, t' σ H Q → t σ H Q) : PE X e t' := ⟨fun pins s σ H Q I q => h.run pins s σ H Q I (k σ H Q q)⟩
theorem PT.le {X : Cx} {e : Expr} {t t' : TT} (h : PT X e t) (k : ∀ σ H Q, t' σ H Q → t σ H Q) : PT X e t' := ⟨fun pins s σ H Q I q => h.run pins s σ H Q I (k σ H Q q)⟩
theorem PA.le {X : Cx} {e : List Expr} {t t' : TA} (h : PA X e t) (k : ∀ σ H Q, t' σ H Q → t σ H Q) : PA X e t' := ⟨fun pos pins s σ H Q I q => h.run pos pins s σ H Q I (k σ H Q q)⟩
theorem PS.le {X : Cx} {e : Stmt} {t t' : TS} (h : PS X e t) (k : ∀ D σ H, t' D σ H → t D σ H) : PS X e t' := ⟨fun pins s σ H D I q => h.run pins s σ H D I (k D σ H q)⟩
theorem PSs.le {X : Cx} {e : List Stmt} {t t' : TS} (h : PSs X e t) (k : ∀ D σ H, t' D σ H → t D σ H) : PSs X e t' := ⟨fun pins s σ H D I q => h.run pins s σ H D I (k D σ H q)⟩
theorem PI.le {X : Cx} {tg e : Expr} {t t' : TI} (h : PI X tg e t) (k : ∀ σ H Q, t' σ H Q → t σ H Q) : PI X tg e t' := ⟨fun pins s σ H Q I q => h.run pins s σ H Q I (k σ H Q q)⟩
theorem PG.le {X : Cx} {e : Expr} {t t' : TG} (h : PG X e t) (k : ∀ v σ H Q, t' v σ H Q → t v σ H Q) : PG X e t' := ⟨fun pins s σ H v u Q I r q => h.run pins s σ H v u Q I r (k v σ H Q q)⟩
theorem PO.le {X : Cx} {e : Option Expr} {t t' : TO} (h : PO X e t) (k : ∀ σ H Q, t' σ H Q → t σ H Q) : PO X e t' := ⟨fun pins s σ H Q I q => h.run pins s σ H Q I (k σ H Q q)⟩

theorem bz_some {β : Type} {x : Option (SV × Rho)} {f : D → Rho → Option β} {b : β} (h : bz x f = some b) : ∃ sv ρ d, x = some (sv, ρ) ∧ frz sv = some d ∧ f d ρ = some b := by
  cases x with
  | none => cases h
  | some p =>
    obtain ⟨sv, ρ⟩ := p
    cases e : frz sv with
    | none => simp only [bz, e] at h; cases h
    | some d => simp only [bz, e] at h; exact ⟨sv, ρ, d, rfl, e, h⟩
theorem bt_some {β : Type} {x : Option (SV × Rho)} {f : Bool → Rho → Option β} {b : β} (h : bt x f = some b) : ∃ sv ρ d, x = some (sv, ρ) ∧ truth sv = some d ∧ f d ρ = some b := by
  cases x with
  | none => cases h
  | some p =>
    obtain ⟨sv, ρ⟩ := p
    cases e : truth sv with
    | none => simp only [bt, e] at h; cases h
    | some d => simp only [bt, e] at h; exact ⟨sv, ρ, d, rfl, e, h⟩
theorem bd_some {α β : Type} {x : Option (α × Rho)} {f : α → Rho → Option β} {b : β} (h : bd x f = some b) : ∃ a ρ, x = some (a, ρ) ∧ f a ρ = some b := by
  cases x with
  | none => cases h
  | some p => exact ⟨p.1, p.2, rfl, h⟩
theorem truth_val {sv : SV} {b : Bool} (h : truth sv = some b) : sv = .val (.bool b) := by
  cases sv with
  | val d => cases d <;> first | (cases h; rfl) | cases h
  | _ => cases h

/-! ### readings -/
def tE (c : FT) (e : E) : TE := fun σ H Q => ∃ G ρ sv ρ', Rel G H σ ρ ∧ ev c e ρ = some (sv, ρ') ∧ ∀ v H' G', Ext G H σ ρ G' H' σ ρ' → Rel G' H' σ ρ' → SvR G' H' σ ρ' H v sv → Q v H'
def tD (c : FT) (e : E) : TE := fun σ H Q => ∃ G ρ sv d ρ', Rel G H σ ρ ∧ ev c e ρ = some (sv, ρ') ∧ frz sv = some d ∧ ∀ v H' G', Ext G H σ ρ G' H' σ ρ' → Rel G' H' σ ρ' → Dr G' v d → Q v H'
def tT (c : FT) (e : E) : TT := fun σ H Q => ∃ G ρ sv b ρ', Rel G H σ ρ ∧ ev c e ρ = some (sv, ρ') ∧ truth sv = some b ∧ ∀ H' G', Ext G H σ ρ G' H' σ ρ' → Rel G' H' σ ρ' → Q b H'
def tR (c : FT) (e : E) : TE := fun σ H Q => ∃ G ρ d ρ', Rel G H σ ρ ∧ rdr ρ e (ev c e ρ) = some (d, ρ') ∧ ∀ v H' G', Ext G H σ ρ G' H' σ ρ' → Rel G' H' σ ρ' → RdR G' H' v d → Q v H'
def tA (c : FT) (es : E) : TA := fun σ H Q => ∃ G ρ ds ρ', Rel G H σ ρ ∧ evs c es ρ = some (ds, ρ') ∧ ∀ vs H' G', Ext G H σ ρ G' H' σ ρ' → Rel G' H' σ ρ' → Drs G' vs ds → Q vs H'
section
variable {X : Cx} {c : FT} {a b d i lo hi es : E} {a0 b0 d0 i0 : Expr} {pos : Pos}
theorem sD (h : PE X a0 (tE c a)) : PE X a0 (tD c a) := PE.le h fun σ H Q ⟨G, ρ, sv, d, ρ', R, e, z, q⟩ =>
  ⟨G, ρ, sv, ρ', R, e, fun v H' G' E R' S => by
    obtain ⟨G2, E2, R2, D2⟩ := freeze E R' S z
    exact q v H' G2 E2 R2 D2⟩
/-- a test that is a value's truth -/
theorem sT_plain (h : PE X a0 (tE c a)) (he : ∀ whole, isTrue a0 X.env whole = (do let v ← whole; standAt a0.pos; holding [v] (truthy v))) : PT X a0 (tT c a) :=
  PT.le (pt_truth h he) fun σ H Q ⟨G, ρ, sv, k, ρ', R, e, z, q⟩ => ⟨G, ρ, sv, ρ', R, e, fun v H' G' E R' S => by
    cases truth_val z
    cases S with
    | val D =>
      cases D with
      | bl _ => exact ⟨k, rfl, q H' G' E R'⟩⟩
/-- a value that is a bool, by the test's rule -/
theorem tT_tE {σ : St} {H : Hp} {Q : Bool → Hp → Prop} (h : tT c a σ H Q) : tE c a σ H fun x H' => ∃ k, x = .bl k ∧ Q k H' := by
  obtain ⟨G, ρ, sv, k, ρ', R, e, z, q⟩ := h
  refine ⟨G, ρ, sv, ρ', R, e, fun v H' G' E R' S => ?_⟩
  cases truth_val z
  cases S with
  | val D =>
    cases D with
    | bl _ => exact ⟨k, rfl, q H' G' E R'⟩

/-! ### names, constants -/
theorem rd_get {ρ : Rho} {j : Nat} {sv : SV} (h : rd ρ j = sv) (n : sv ≠ .un) : ρ[j]? = some sv := by
  unfold rd at h
  rw [List.getD_eq_getElem?_getD] at h
  cases e : ρ[j]? with
  | none => rw [e] at h; exact absurd h.symm n
  | some w => rw [e] at h; rw [← h]; rfl
theorem Rel.at {G H : Hp} {σ : St} {ρ : Rho} (r : Rel G H σ ρ) {j : Nat} {sv : SV} (h : ρ[j]? = some sv) : ∃ o, σ[j]? = some o ∧ SlotR G H o sv := by
  have hl : j < σ.length := by rw [r.len]; exact (List.getElem?_eq_some_iff.mp h).1
  exact ⟨σ[j], List.getElem?_eq_getElem hl, r.slot j _ sv (List.getElem?_eq_getElem hl) h⟩
theorem set_at {α : Type} {l : List α} {j k : Nat} {x y : α} (h : (l.set j x)[k]? = some y) : (k = j ∧ y = x) ∨ (k ≠ j ∧ l[k]? = some y) := by
  by_cases e : j = k
  · subst e
    by_cases hj : j < l.length
    · rw [List.getElem?_set_self hj] at h; exact .inl ⟨rfl, (Option.some.inj h).symm⟩
    · rw [List.getElem?_eq_none (by simpa using hj)] at h; cases h
  · rw [List.getElem?_set_ne e] at h; exact .inr ⟨fun z => e z.symm, h⟩
/-- a list that a name holds is frozen -/
theorem Rel.thaw {G H : Hp} {σ : St} {ρ : Rho} (r : Rel G H σ ρ) {j : Nat} {ds : List D} (h : ρ[j]? = some (.own ds)) :
    ∃ a G', σ[j]? = some (some (.ref a)) ∧ Ext G H σ ρ G' H σ (ρ.set j (.val (.list ds))) ∧ Rel G' H σ (ρ.set j (.val (.list ds))) ∧ Dr G' (.ref a) (.list ds) := by
  obtain ⟨o, h1, h2⟩ := r.at h
  cases h2 with
  | @own a xs ds hH hG hD =>
    have s1 : Same G (upd G a (.lst xs)) := same_upd hG
    have hotA : HotAt σ ρ a := ⟨j, _, h1, h, rfl⟩
    have dr : Dr (upd G a (.lst xs)) (.ref a) (.list ds) := .lst upd_same (hD.mono s1)
    have other : ∀ b, HotAt σ (ρ.set j (.val (.list ds))) b → HotAt σ ρ b ∧ b ≠ a := fun b ⟨k, sv, k1, k2, k3⟩ => by
      rcases set_at k2 with ⟨rfl, rfl⟩ | ⟨hk, k2⟩
      · cases k3
      · refine ⟨⟨k, sv, k1, k2, k3⟩, fun z => hk ?_⟩
        subst z
        exact r.sep k j _ _ _ k1 k2 k3 h1 h rfl
    refine ⟨a, upd G a (.lst xs), h1, ⟨s1, fun b o q _ => q, fun b o q g n => ?_, fun b q => q, fun b q => .inl (other b q).1, fun k b es k1 k2 => ⟨k1, es, ?_⟩⟩, ⟨fun b o q => ?_, by rw [List.length_set]; exact r.len, fun k o sv k1 k2 => ?_, fun k l b sv sv' k1 k2 k3 l1 l2 l3 => ?_⟩, dr⟩
    · rw [upd_ne (fun z => n (by rw [z]; exact hotA))]; exact g
    · have hk : j ≠ k := fun z => by subst z; rw [h] at k2; cases k2
      rw [List.getElem?_set_ne hk]; exact k2
    · by_cases hb : b = a
      · subst hb; rw [upd_same] at q; cases q; exact hH
      · rw [upd_ne hb] at q; exact r.le b o q
    · rcases set_at k2 with ⟨rfl, rfl⟩ | ⟨hk, k2'⟩
      · rw [h1] at k1; cases k1; exact .val dr
      · have q := r.slot k o sv k1 k2'
        cases q with
        | un => exact .un _
        | val q => exact .val (q.mono s1)
        | own x1 x2 x3 => exact .own x1 (by rw [upd_ne (other _ ⟨k, _, k1, k2, rfl⟩).2]; exact x2) (x3.mono s1)
        | row x1 x2 x3 => exact .row x1 (by rw [upd_ne (other _ ⟨k, _, k1, k2, rfl⟩).2]; exact x2) (x3.mono s1)
    · rcases set_at k2 with ⟨_, rfl⟩ | ⟨_, k2⟩
      · cases k3
      · rcases set_at l2 with ⟨_, rfl⟩ | ⟨_, l2⟩
        · cases l3
        · exact r.sep k l b sv sv' k1 k2 k3 l1 l2 l3
theorem s_var {j : Nat} (h : PE X a0 (tVar j)) : PE X a0 (tE c (.var j)) := PE.le h fun σ H Q ⟨G, ρ, sv, ρ', R, e, q⟩ => by
  unfold ev at e
  cases z : rd ρ j with
  | val d =>
    rw [z] at e
    cases e
    obtain ⟨o, h1, h2⟩ := R.at (rd_get z (by intro z; cases z))
    cases h2 with
    | val hd => exact ⟨_, h1, q _ H G Ext.refl R (.val hd)⟩
  | own ds =>
    rw [z] at e
    cases e
    obtain ⟨a, G', h1, E1, R1, D1⟩ := R.thaw (rd_get z (by intro z; cases z))
    exact ⟨_, h1, q _ H G' E1 R1 (.val D1)⟩
  | un => rw [z] at e; cases e
  | row ds => rw [z] at e; cases e
theorem s_const {v : V} {dd : D} (h : PE X a0 (tC v)) (hd : ∀ G, Dr G v dd) (he : ∀ ρ, ev c a ρ = some (.val dd, ρ)) : PE X a0 (tE c a) := PE.le h fun σ H Q ⟨G, ρ, sv, ρ', R, e, q⟩ => by
  rw [he] at e
  cases e
  exact q v H G Ext.refl R (.val (hd G))

/-! ### operators -/
theorem s_op {o : Op2} (ha : PE X a0 (tE c a)) (hb : PE X b0 (tE c b)) : PE X (.BinOp a0 (opO o) b0 pos) (tE c (.op o a b)) :=
  PE.le (pe_op (op_ok o) (sD ha) (sD hb)) fun σ H Q ⟨G, ρ, sv, ρ', R, e, q⟩ => by
    unfold ev at e
    obtain ⟨sva, ρ1, dx, e1, z1, e⟩ := bz_some e
    obtain ⟨svb, ρ2, dy, e2, z2, e⟩ := bz_some e
    obtain ⟨w, e3, e⟩ := ob_some e
    cases e
    refine ⟨G, ρ, sva, dx, _, R, e1, z1, fun x H1 G1 E1 R1 D1 => ⟨G1, _, svb, dy, _, R1, e2, z2, fun y H2 G2 E2 R2 D2 => ⟨G2, dx, dy, sv, R2.le, D1.mono E2.sub, D2, e3, fun v H3 N => ?_⟩⟩⟩
    obtain ⟨G3, E3, R3, S3⟩ := fin_new R2 N
    exact q v H3 G3 ((E1.trans E2).trans E3) R3 (S3.older (E1.trans E2).dom)
theorem s_neg (ha : PE X a0 (tE c a)) : PE X (.UnaryOp .USub a0 pos) (tE c (.neg a)) :=
  PE.le (pe_un un_neg (sD ha)) fun σ H Q ⟨G, ρ, sv, ρ', R, e, q⟩ => by
    unfold ev at e
    obtain ⟨sva, ρ1, dx, e1, z1, e⟩ := bz_some e
    refine ⟨G, ρ, sva, dx, _, R, e1, z1, fun x H1 G1 E1 R1 D1 => ?_⟩
    cases D1 with
    | int n => cases e; exact ⟨n, rfl, q _ H1 G1 E1 R1 (.val (.int _))⟩
    | _ => cases e
theorem s_cmp {o : Cm} {k : Nat} (hr : Room k X.A) (hm : behindInMarks (cmO o) b0 = false) (ha : PE X a0 (tE c a)) (hb : PE X b0 (tE c b)) : PE X (.Compare a0 [cmO o] [b0] pos) (tE c (.cmp o a b)) :=
  PE.le (pe_cmpR (cm_ok (by have := hr.un; omega) o) (sD ha) (sD hb) hm) fun σ H Q ⟨G, ρ, sv, ρ', R, e, q⟩ => by
    unfold ev at e
    obtain ⟨sva, ρ1, dx, e1, z1, e⟩ := bz_some e
    obtain ⟨svb, ρ2, dy, e2, z2, e⟩ := bz_some e
    obtain ⟨w, e3, e⟩ := ob_some e
    cases e
    exact ⟨G, ρ, sva, dx, _, R, e1, z1, fun x H1 G1 E1 R1 D1 => ⟨G1, _, svb, dy, _, R1, e2, z2, fun y H2 G2 E2 R2 D2 => ⟨G2, dx, dy, w, R2.le, D1.mono E2.sub, D2, e3, q _ H2 G2 (E1.trans E2) R2 (.val (.bl _))⟩⟩⟩
theorem t_cmp {o : Cm} {k : Nat} (hr : Room k X.A) (hm : behindInMarks (cmO o) b0 = false) (ha : PE X a0 (tE c a)) (hb : PE X b0 (tE c b)) : PT X (.Compare a0 [cmO o] [b0] pos) (tT c (.cmp o a b)) :=
  PT.le (pt_cmpR (cm_ok (by have := hr.un; omega) o) (sD ha) (sD hb) hm) fun σ H Q ⟨G, ρ, sv, bb, ρ', R, e, z, q⟩ => by
    unfold ev at e
    obtain ⟨sva, ρ1, dx, e1, z1, e⟩ := bz_some e
    obtain ⟨svb, ρ2, dy, e2, z2, e⟩ := bz_some e
    obtain ⟨w, e3, e⟩ := ob_some e
    cases e
    cases z
    exact ⟨G, ρ, sva, dx, _, R, e1, z1, fun x H1 G1 E1 R1 D1 => ⟨G1, _, svb, dy, _, R1, e2, z2, fun y H2 G2 E2 R2 D2 => ⟨G2, dx, dy, bb, R2.le, D1.mono E2.sub, D2, e3, bb, rfl, q H2 G2 (E1.trans E2) R2⟩⟩⟩
theorem none_iff {G : Hp} {v : V} {dd : D} (h : Dr G v dd) : decide (v = .non) = isNon dd := by
  cases h <;> rfl
theorem s_isn {j : Nat} {p : Pos} (ha : PE X a0 (tE c a)) : PE X (.Compare a0 [.Is] [.Constant .none j p] pos) (tE c (.isn a)) :=
  PE.le (pe_cmpR op_isN (sD ha) pe_non (nomark _)) fun σ H Q ⟨G, ρ, sv, ρ', R, e, q⟩ => by
    unfold ev at e
    obtain ⟨sva, ρ1, dx, e1, z1, e⟩ := bz_some e
    cases e
    refine ⟨G, ρ, sva, dx, _, R, e1, z1, fun x H1 G1 E1 R1 D1 => ⟨rfl, ?_⟩⟩
    rw [none_iff D1]
    exact q _ H1 G1 E1 R1 (.val (.bl _))
theorem s_isnt {j : Nat} {p : Pos} (ha : PE X a0 (tE c a)) : PE X (.Compare a0 [.IsNot] [.Constant .none j p] pos) (tE c (.isnt a)) :=
  PE.le (pe_cmpR op_notN (sD ha) pe_non (nomark _)) fun σ H Q ⟨G, ρ, sv, ρ', R, e, q⟩ => by
    unfold ev at e
    obtain ⟨sva, ρ1, dx, e1, z1, e⟩ := bz_some e
    cases e
    refine ⟨G, ρ, sva, dx, _, R, e1, z1, fun x H1 G1 E1 R1 D1 => ⟨rfl, ?_⟩⟩
    rw [none_iff D1]
    exact q _ H1 G1 E1 R1 (.val (.bl _))
theorem t_isn {j : Nat} {p : Pos} (ha : PE X a0 (tE c a)) : PT X (.Compare a0 [.Is] [.Constant .none j p] pos) (tT c (.isn a)) :=
  PT.le (pt_cmpR op_isN (sD ha) pe_non (nomark _)) fun σ H Q ⟨G, ρ, sv, bb, ρ', R, e, z, q⟩ => by
    unfold ev at e
    obtain ⟨sva, ρ1, dx, e1, z1, e⟩ := bz_some e
    cases e
    refine ⟨G, ρ, sva, dx, _, R, e1, z1, fun x H1 G1 E1 R1 D1 => ⟨rfl, bb, ?_, q H1 G1 E1 R1⟩⟩
    rw [none_iff D1]
    exact congrArg V.bl (Option.some.inj z)
theorem t_isnt {j : Nat} {p : Pos} (ha : PE X a0 (tE c a)) : PT X (.Compare a0 [.IsNot] [.Constant .none j p] pos) (tT c (.isnt a)) :=
  PT.le (pt_cmpR op_notN (sD ha) pe_non (nomark _)) fun σ H Q ⟨G, ρ, sv, bb, ρ', R, e, z, q⟩ => by
    unfold ev at e
    obtain ⟨sva, ρ1, dx, e1, z1, e⟩ := bz_some e
    cases e
    refine ⟨G, ρ, sva, dx, _, R, e1, z1, fun x H1 G1 E1 R1 D1 => ⟨rfl, bb, ?_, q H1 G1 E1 R1⟩⟩
    rw [none_iff D1]
    exact congrArg V.bl (Option.some.inj z)
theorem chain_rd {o p : Cm} {σ : St} {H : Hp} {Q : VK} (h : tE c (.chain o p a b d) σ H Q) : tChain (rCm o) (rCm p) (tD c a) (tD c b) (tD c d) σ H Q := by
  obtain ⟨G, ρ, sv, ρ', R, e, q⟩ := h
  unfold ev at e
  obtain ⟨sva, ρ1, dx, e1, z1, e⟩ := bz_some e
  obtain ⟨svb, ρ2, dy, e2, z2, e⟩ := bz_some e
  obtain ⟨w, e3, e⟩ := ob_some e
  refine ⟨G, ρ, sva, dx, _, R, e1, z1, fun x H1 G1 E1 R1 D1 => ⟨G1, _, svb, dy, _, R1, e2, z2, fun y H2 G2 E2 R2 D2 => ⟨G2, dx, dy, w, R2.le, D1.mono E2.sub, D2, e3, w, rfl, ?_⟩⟩⟩
  cases w with
  | true =>
    rw [if_pos rfl] at e ⊢
    obtain ⟨svc, ρ3, dz, e4, z4, e⟩ := bz_some e
    obtain ⟨w2, e5, e⟩ := ob_some e
    cases e
    exact ⟨G2, _, svc, dz, _, R2, e4, z4, fun u H3 G3 E3 R3 D3 => ⟨G3, dy, dz, w2, R3.le, D2.mono E3.sub, D3, e5, q _ H3 G3 ((E1.trans E2).trans E3) R3 (.val (.bl _))⟩⟩
  | false =>
    rw [if_neg Bool.false_ne_true] at e ⊢
    cases e
    exact q _ H2 G2 (E1.trans E2) R2 (.val (.bl _))
theorem s_chain {o p : Cm} {k : Nat} (hr : Room k X.A) (hm : lastMarks [cmO o, cmO p] [b0, d0] = false) (ha : PE X a0 (tE c a)) (hb : PE X b0 (tE c b)) (hd : PE X d0 (tE c d)) : PE X (.Compare a0 [cmO o, cmO p] [b0, d0] pos) (tE c (.chain o p a b d)) :=
  PE.le (pe_chain (cm_ok (by have := hr.un; omega) o) (cm_ok (by have := hr.un; omega) p) (sD ha) (sD hb) (sD hd) hm) fun σ H Q h => chain_rd h
theorem t_chain {o p : Cm} {k : Nat} (hr : Room k X.A) (hm : lastMarks [cmO o, cmO p] [b0, d0] = false) (ha : PE X a0 (tE c a)) (hb : PE X b0 (tE c b)) (hd : PE X d0 (tE c d)) : PT X (.Compare a0 [cmO o, cmO p] [b0, d0] pos) (tT c (.chain o p a b d)) :=
  PT.le (pt_chain (cm_ok (by have := hr.un; omega) o) (cm_ok (by have := hr.un; omega) p) (sD ha) (sD hb) (sD hd) hm) fun σ H Q h => chain_rd (tT_tE h)

/-! ### and, or, not, if else -/
theorem s_not (ha : PE X a0 (tE c a)) : PE X (.UnaryOp .Not a0 pos) (tE c (.not a)) :=
  PE.le (pe_not ha) fun σ H Q ⟨G, ρ, sv, ρ', R, e, q⟩ => by
    unfold ev at e
    obtain ⟨sva, ρ1, k, e1, z1, e⟩ := bt_some e
    cases e
    exact tT_tE ⟨G, ρ, sva, k, _, R, e1, z1, fun H1 G1 E1 R1 => q _ H1 G1 E1 R1 (.val (.bl _))⟩
theorem t_not (ha : PT X a0 (tT c a)) : PT X (.UnaryOp .Not a0 pos) (tT c (.not a)) :=
  PT.le (pt_not ha) fun σ H Q ⟨G, ρ, sv, bb, ρ', R, e, z, q⟩ => by
    unfold ev at e
    obtain ⟨sva, ρ1, k, e1, z1, e⟩ := bt_some e
    cases e
    cases z
    exact ⟨G, ρ, sva, k, _, R, e1, z1, fun H1 G1 E1 R1 => q H1 G1 E1 R1⟩
variable {rest : List Expr}
theorem s_and (ha : PE X a0 (tE c a)) (hb : PE X (.BoolOp .And (b0 :: rest) pos) (tE c b)) : PE X (.BoolOp .And (a0 :: b0 :: rest) pos) (tE c (.and a b)) :=
  PE.le (pe_and ha hb) fun σ H Q ⟨G, ρ, sv, ρ', R, e, q⟩ => by
    unfold ev at e
    obtain ⟨sva, ρ1, k, e1, z1, e⟩ := bt_some e
    refine tT_tE ⟨G, ρ, sva, k, _, R, e1, z1, fun H1 G1 E1 R1 => ?_⟩
    cases k with
    | true =>
      rw [if_pos rfl] at e ⊢
      exact ⟨G1, ρ1, sv, ρ', R1, e, fun v H2 G2 E2 R2 S2 => q v H2 G2 (E1.trans E2) R2 (S2.older E1.dom)⟩
    | false =>
      rw [if_neg Bool.false_ne_true] at e ⊢
      cases e
      exact q _ H1 G1 E1 R1 (.val (.bl _))
theorem s_or (ha : PE X a0 (tE c a)) (hb : PE X (.BoolOp .Or (b0 :: rest) pos) (tE c b)) : PE X (.BoolOp .Or (a0 :: b0 :: rest) pos) (tE c (.or a b)) :=
  PE.le (pe_or ha hb) fun σ H Q ⟨G, ρ, sv, ρ', R, e, q⟩ => by
    unfold ev at e
    obtain ⟨sva, ρ1, k, e1, z1, e⟩ := bt_some e
    refine tT_tE ⟨G, ρ, sva, k, _, R, e1, z1, fun H1 G1 E1 R1 => ?_⟩
    cases k with
    | true =>
      rw [if_pos rfl] at e ⊢
      cases e
      exact q _ H1 G1 E1 R1 (.val (.bl _))
    | false =>
      rw [if_neg Bool.false_ne_true] at e ⊢
      exact ⟨G1, ρ1, sv, ρ', R1, e, fun v H2 G2 E2 R2 S2 => q v H2 G2 (E1.trans E2) R2 (S2.older E1.dom)⟩
theorem pt_pw {op : BoolOp} {vs : List Expr} {t : TT} (h : PT X (.BoolOp op vs pos) t) : PW X (.BoolOp op vs pos) t := ⟨fun whole pins s σ H Q I q => h.run pins s σ H Q I q⟩
theorem t_one {op : BoolOp} (ha : PT X a0 (tT c a)) : PT X (.BoolOp op [a0] pos) (tT c a) := by
  cases op with
  | And => exact (pw_and1 ha).pt
  | Or => exact (pw_or1 ha).pt
theorem t_and (ha : PT X a0 (tT c a)) (hb : PT X (.BoolOp .And (b0 :: rest) pos) (tT c b)) : PT X (.BoolOp .And (a0 :: b0 :: rest) pos) (tT c (.and a b)) :=
  PT.le (pw_and ha (pt_pw hb)).pt fun σ H Q ⟨G, ρ, sv, bb, ρ', R, e, z, q⟩ => by
    unfold ev at e
    obtain ⟨sva, ρ1, k, e1, z1, e⟩ := bt_some e
    refine ⟨G, ρ, sva, k, _, R, e1, z1, fun H1 G1 E1 R1 => ?_⟩
    cases k with
    | true =>
      rw [if_pos rfl] at e ⊢
      exact ⟨G1, ρ1, sv, bb, ρ', R1, e, z, fun H2 G2 E2 R2 => q H2 G2 (E1.trans E2) R2⟩
    | false =>
      rw [if_neg Bool.false_ne_true] at e ⊢
      cases e
      cases z
      exact q H1 G1 E1 R1
theorem t_or (ha : PT X a0 (tT c a)) (hb : PT X (.BoolOp .Or (b0 :: rest) pos) (tT c b)) : PT X (.BoolOp .Or (a0 :: b0 :: rest) pos) (tT c (.or a b)) :=
  PT.le (pw_or ha (pt_pw hb)).pt fun σ H Q ⟨G, ρ, sv, bb, ρ', R, e, z, q⟩ => by
    unfold ev at e
    obtain ⟨sva, ρ1, k, e1, z1, e⟩ := bt_some e
    refine ⟨G, ρ, sva, k, _, R, e1, z1, fun H1 G1 E1 R1 => ?_⟩
    cases k with
    | true =>
      rw [if_pos rfl] at e ⊢
      cases e
      cases z
      exact q H1 G1 E1 R1
    | false =>
      rw [if_neg Bool.false_ne_true] at e ⊢
      exact ⟨G1, ρ1, sv, bb, ρ', R1, e, z, fun H2 G2 E2 R2 => q H2 G2 (E1.trans E2) R2⟩
theorem s_ife (hk : PT X d0 (tT c d)) (ha : PE X a0 (tE c a)) (hb : PE X b0 (tE c b)) : PE X (.IfExp d0 a0 b0 pos) (tE c (.ife d a b)) :=
  PE.le (pe_ifExp hk ha hb) fun σ H Q ⟨G, ρ, sv, ρ', R, e, q⟩ => by
    unfold ev at e
    obtain ⟨sva, ρ1, k, e1, z1, e⟩ := bt_some e
    refine ⟨G, ρ, sva, k, _, R, e1, z1, fun H1 G1 E1 R1 => ?_⟩
    cases k with
    | true =>
      rw [if_pos rfl] at e ⊢
      exact ⟨G1, ρ1, sv, ρ', R1, e, fun v H2 G2 E2 R2 S2 => q v H2 G2 (E1.trans E2) R2 (S2.older E1.dom)⟩
    | false =>
      rw [if_neg Bool.false_ne_true] at e ⊢
      exact ⟨G1, ρ1, sv, ρ', R1, e, fun v H2 G2 E2 R2 S2 => q v H2 G2 (E1.trans E2) R2 (S2.older E1.dom)⟩

/-! ### arguments, displays -/
theorem a_nil : PA X [] (tA c .nil) := PA.le pa_nil fun σ H Q ⟨G, ρ, ds, ρ', R, e, q⟩ => by
  unfold evs at e
  cases e
  exact q [] H G Ext.refl R .nil
theorem a_cons {es0 : List Expr} (hs : starEach (a0 :: es0) X.env = (false, eval a0 X.env) :: starEach es0 X.env) (ha : PE X a0 (tE c a)) (hb : PA X es0 (tA c es)) : PA X (a0 :: es0) (tA c (.cons a es)) :=
  PA.le (pa_cons (sD ha) hb hs) fun σ H Q ⟨G, ρ, ds, ρ', R, e, q⟩ => by
    unfold evs at e
    obtain ⟨sva, ρ1, dx, e1, z1, e⟩ := bz_some e
    obtain ⟨dr, ρ2, e2, e⟩ := bd_some e
    cases e
    exact ⟨G, ρ, sva, dx, _, R, e1, z1, fun x H1 G1 E1 R1 D1 => ⟨G1, _, dr, _, R1, e2, fun xs H2 G2 E2 R2 D2 => q (x :: xs) H2 G2 (E1.trans E2) R2 (.cons (D1.mono E2.sub) D2)⟩⟩
theorem s_tup {es0 : List Expr} {k : Nat} (h : PA X es0 (tA c es)) : PE X (.Tuple es0 k pos) (tE c (.tup es)) :=
  PE.le (pe_tup h) fun σ H Q ⟨G, ρ, sv, ρ', R, e, q⟩ => by
    unfold ev at e
    obtain ⟨ds, ρ1, e1, e⟩ := bd_some e
    obtain ⟨hz, e⟩ := ite_some e
    cases e
    refine ⟨G, ρ, ds, ρ', R, e1, fun xs H1 G1 E1 R1 D1 => ⟨by rw [D1.length]; exact Nat.le_of_lt (okL_le hz), fun p np => ?_⟩⟩
    obtain ⟨G2, E2, R2, S2⟩ := fin_new R1 (svn_tup R1.le D1 np)
    exact q _ _ G2 (E1.trans E2) R2 (S2.older E1.dom)
theorem s_lst {es0 : List Expr} (h : PA X es0 (tA c es)) : PE X (.List es0 pos) (tE c (.lst es)) :=
  PE.le (pe_lst h) fun σ H Q ⟨G, ρ, sv, ρ', R, e, q⟩ => by
    unfold ev at e
    obtain ⟨ds, ρ1, e1, e⟩ := bd_some e
    obtain ⟨hz, e⟩ := ite_some e
    cases e
    refine ⟨G, ρ, ds, ρ', R, e1, fun xs H1 G1 E1 R1 D1 => ⟨by rw [D1.length]; exact Nat.le_of_lt (okL_le hz), fun p np => ?_⟩⟩
    obtain ⟨G2, E2, R2, S2⟩ := fin_new R1 (svn_lst R1.le D1 np)
    exact q _ _ G2 (E1.trans E2) R2 (S2.older E1.dom)

/-! ### what is read -/
theorem slot_rd {G H : Hp} {σ : St} {ρ : Rho} {j : Nat} {dd : D} (R : Rel G H σ ρ) (h : slotD ρ j = some dd) : ∃ v, σ[j]? = some (some v) ∧ RdR G H v dd := by
  unfold slotD at h
  cases z : rd ρ j with
  | val d =>
    rw [z] at h
    cases h
    obtain ⟨o, h1, h2⟩ := R.at (rd_get z (by intro z; cases z))
    cases h2 with
    | val hd => exact ⟨_, h1, .inl hd⟩
  | own ds =>
    rw [z] at h
    cases h
    obtain ⟨o, h1, h2⟩ := R.at (rd_get z (by intro z; cases z))
    cases h2 with
    | own x1 x2 x3 => exact ⟨_, h1, .inr ⟨_, _, _, rfl, x1, x3, rfl⟩⟩
  | row ds =>
    rw [z] at h
    cases h
    obtain ⟨o, h1, h2⟩ := R.at (rd_get z (by intro z; cases z))
    cases h2 with
    | row x1 x2 x3 => exact ⟨_, h1, .inr ⟨_, _, _, rfl, x1, x3, rfl⟩⟩
  | un => rw [z] at h; cases h
theorem sR (hv : ∀ j, a = .var j → PE X a0 (tVar j)) (h : PE X a0 (tE c a)) : PE X a0 (tR c a) := by
  cases e : isVar a with
  | some j =>
    have ea : a = .var j := by cases a <;> first | (cases e; rfl) | cases e
    subst ea
    refine PE.le (hv j rfl) fun σ H Q ⟨G, ρ, d, ρ', R, e, q⟩ => ?_
    obtain ⟨dd, e1, e⟩ := ob_some (f := fun d => some (d, ρ)) e
    cases e
    obtain ⟨v, h1, h2⟩ := slot_rd R e1
    exact ⟨v, h1, q v H G Ext.refl R h2⟩
  | none =>
    refine PE.le (sD h) fun σ H Q ⟨G, ρ, d, ρ', R, e1, q⟩ => ?_
    unfold rdr at e1
    rw [e] at e1
    obtain ⟨sv, ρ1, dd, e2, z2, e1⟩ := bz_some e1
    cases e1
    exact ⟨G, ρ, sv, _, _, R, e2, z2, fun v H1 G1 E1 R1 D1 => q v H1 G1 E1 R1 (.inl D1)⟩
theorem s_idx (hv : ∀ j, a = .var j → PE X a0 (tVar j)) (ha : PE X a0 (tE c a)) (hi : PE X i0 (tE c i)) (hs : PlainIx i0) : PE X (.Subscript a0 i0 pos) (tE c (.idx a i)) := by
  cases ea : isVar a with
  | some j =>
    have e0 : a = .var j := by cases a <;> first | (cases ea; rfl) | cases ea
    subst e0
    refine PE.le (pe_ix idx_ok (hv j rfl) (sD hi) hs) fun σ H Q ⟨G, ρ, sv, ρ', R, e, q⟩ => ?_
    unfold ev at e
    simp only [isVar] at e
    obtain ⟨d0, e0, e⟩ := ob_some e
    obtain ⟨svi, ρ1, dy, e1, z1, e⟩ := bz_some e
    obtain ⟨dx, e2, e⟩ := ob_some e
    obtain ⟨dd, e3, e⟩ := ob_some e
    cases e
    obtain ⟨v0, hv0, _⟩ := slot_rd R e0
    refine ⟨v0, hv0, G, ρ, svi, dy, ρ', R, e1, z1, fun y H1 G1 E1 R1 D1 => ?_⟩
    obtain ⟨v, h1, h2⟩ := slot_rd R1 e2
    rw [hv0] at h1
    cases h1
    exact ⟨G1, dx, dy, dd, R1.le, h2, D1, e3, fun v D => q v H1 G1 E1 R1 (.val D)⟩
  | none =>
    refine PE.le (pe_ix idx_ok (sD ha) (sD hi) hs) fun σ H Q ⟨G, ρ, sv, ρ', R, e, q⟩ => ?_
    unfold ev at e
    simp only [ea] at e
    obtain ⟨sva, ρ1, dx, e1, z1, e⟩ := bz_some e
    obtain ⟨svi, ρ2, dy, e2, z2, e⟩ := bz_some e
    obtain ⟨dd, e3, e⟩ := ob_some e
    cases e
    exact ⟨G, ρ, sva, dx, _, R, e1, z1, fun x H1 G1 E1 R1 D1 => ⟨G1, ρ1, svi, dy, ρ', R1, e2, z2, fun y H2 G2 E2 R2 D2 => ⟨G2, dx, dy, dd, R2.le, .inl (D1.mono E2.sub), D2, e3, fun v D => q v H2 G2 (E1.trans E2) R2 (.val D)⟩⟩⟩
end
end DP

/-! slices, calls, built-ins, what is walked, comprehensions -/
namespace DP
open PySem PySem.Spec PyProof.Rows L2

/-! ### a hot slot's list is written -/
theorem slotL_at {G H : Hp} {σ : St} {ρ : Rho} {j : Nat} {ds : List D} (R : Rel G H σ ρ) (h : slotL ρ j = some ds) :
    ∃ a xs sv, σ[j]? = some (some (.ref a)) ∧ ρ[j]? = some sv ∧ hot sv = true ∧ H a = some (.lst xs) ∧ G a = none ∧ Drs G xs ds := by
  unfold slotL at h
  cases z : rd ρ j with
  | val d => rw [z] at h; cases h
  | own es =>
    rw [z] at h
    cases h
    have z2 := rd_get z (by intro z; cases z)
    obtain ⟨o, h1, h2⟩ := R.at z2
    cases h2 with
    | own x1 x2 x3 => exact ⟨_, _, _, h1, z2, rfl, x1, x2, x3⟩
  | row es =>
    rw [z] at h
    cases h
    have z2 := rd_get z (by intro z; cases z)
    obtain ⟨o, h1, h2⟩ := R.at z2
    cases h2 with
    | row x1 x2 x3 => exact ⟨_, _, _, h1, z2, rfl, x1, x2, x3⟩
  | un => rw [z] at h; cases h
theorem putL_is {ρ ρ2 : Rho} {j : Nat} {es : List D} (h : putL ρ j es = some ρ2) : (∃ ds, ρ[j]? = some (.own ds) ∧ ρ2 = ρ.set j (.own es)) ∨ (∃ ds, ρ[j]? = some (.row ds) ∧ ρ2 = ρ.set j (.row es)) := by
  unfold putL at h
  cases z : rd ρ j with
  | own ds => rw [z] at h; exact .inl ⟨ds, rd_get z (by intro z; cases z), (Option.some.inj h).symm⟩
  | row ds => rw [z] at h; exact .inr ⟨ds, rd_get z (by intro z; cases z), (Option.some.inj h).symm⟩
  | val d => rw [z] at h; cases h
  | un => rw [z] at h; cases h
theorem Rel.wrote {G H G' H' : Hp} {σ : St} {ρ ρ2 : Rho} (R : Rel G H σ ρ) {j : Nat} {a : Addr} {xs : List V} {es : List D} (ha : σ[j]? = some (some (.ref a))) (e : putL ρ j es = some ρ2)
    (s1 : Same G G') (s2 : Same G' H') (kp : ∀ b o, b ≠ a → H b = some o → H' b = some o) (cl : ∀ b o, b ≠ a → H b = some o → G b = none → G' b = none) (g : G' a = none) (h : H' a = some (.lst xs)) (q : Drs G' xs es) :
    Ext G H σ ρ G' H' σ ρ2 ∧ Rel G' H' σ ρ2 ∧ ∀ b, HotAt σ ρ2 b → HotAt σ ρ b := by
  have main : ∀ (sv0 sv : SV), ρ[j]? = some sv0 → hot sv0 = true → hot sv = true → ρ2 = ρ.set j sv → SlotR G' H' (some (.ref a)) sv → (∀ ds, sv0 = .row ds → ∃ ds', sv = .row ds') → Ext G H σ ρ G' H' σ ρ2 ∧ Rel G' H' σ ρ2 ∧ ∀ b, HotAt σ ρ2 b → HotAt σ ρ b := by
    intro sv0 sv h0 hh0 hh e2 sl hrow
    subst e2
    have hotA : HotAt σ ρ a := ⟨j, _, ha, h0, hh0⟩
    have back : ∀ b, HotAt σ (ρ.set j sv) b → HotAt σ ρ b := fun b ⟨k, w, k1, k2, k3⟩ => by
      rcases set_at k2 with ⟨rfl, rfl⟩ | ⟨hk, k2⟩
      · rw [ha] at k1; cases k1; exact hotA
      · exact ⟨k, w, k1, k2, k3⟩
    have hjl : j < ρ.length := (List.getElem?_eq_some_iff.mp h0).1
    refine ⟨⟨s1, fun b o hb hn => kp b o (fun z => hn (by rw [z]; exact hotA)) hb, fun b o hb hg hn => cl b o (fun z => hn (by rw [z]; exact hotA)) hb hg, fun b hb => ?_, fun b hb => .inl (back b hb), fun k b ds k1 k2 => ⟨k1, ?_⟩⟩, ⟨s2, by rw [List.length_set]; exact R.len, fun k o w k1 k2 => ?_, fun k l b w w' k1 k2 k3 l1 l2 l3 => ?_⟩, back⟩
    · cases z : H b with
      | none => rfl
      | some o =>
        by_cases hba : b = a
        · subst hba; rw [h] at hb; cases hb
        · rw [kp b o hba z] at hb; cases hb
    · by_cases hk : j = k
      · subst hk
        rw [h0] at k2
        obtain ⟨ds', e3⟩ := hrow ds (Option.some.inj k2)
        exact ⟨ds', by rw [List.getElem?_set_self hjl, e3]⟩
      · exact ⟨ds, by rw [List.getElem?_set_ne hk]; exact k2⟩
    · rcases set_at k2 with ⟨rfl, rfl⟩ | ⟨hk, k2'⟩
      · rw [ha] at k1; cases k1; exact sl
      · have q0 := R.slot k o w k1 k2'
        have apart : ∀ b, o = some (.ref b) → hot w = true → b ≠ a := fun b eb hw z => hk (by subst eb; subst z; exact R.sep k j _ _ _ k1 k2' hw ha h0 hh0)
        cases q0 with
        | un => exact .un _
        | val q0 => exact .val (q0.mono s1)
        | own x1 x2 x3 => exact .own (kp _ _ (apart _ rfl rfl) x1) (cl _ _ (apart _ rfl rfl) x1 x2) (x3.mono s1)
        | row x1 x2 x3 => exact .row (kp _ _ (apart _ rfl rfl) x1) (cl _ _ (apart _ rfl rfl) x1 x2) (x3.mono s1)
    · have kk : ∃ w0, ρ[k]? = some w0 ∧ hot w0 = true := by
        rcases set_at k2 with ⟨rfl, _⟩ | ⟨_, k2⟩
        · exact ⟨_, h0, hh0⟩
        · exact ⟨_, k2, k3⟩
      have ll : ∃ w0, ρ[l]? = some w0 ∧ hot w0 = true := by
        rcases set_at l2 with ⟨rfl, _⟩ | ⟨_, l2⟩
        · exact ⟨_, h0, hh0⟩
        · exact ⟨_, l2, l3⟩
      obtain ⟨w0, q1, q2⟩ := kk
      obtain ⟨w1, q3, q4⟩ := ll
      exact R.sep k l b w0 w1 k1 q1 q2 l1 q3 q4
  rcases putL_is e with ⟨ds, h0, e2⟩ | ⟨ds, h0, e2⟩
  · exact main _ _ h0 rfl rfl e2 (.own h g q) fun _ z => nomatch z
  · exact main _ _ h0 rfl rfl e2 (.row h g q) fun _ _ => ⟨es, rfl⟩
/-- the list at a, written in place, all else as it was -/
theorem Rel.write {G H : Hp} {σ : St} {ρ ρ2 : Rho} (R : Rel G H σ ρ) {j : Nat} {a : Addr} {xs : List V} {es : List D} (ha : σ[j]? = some (some (.ref a))) (hg : G a = none) (e : putL ρ j es = some ρ2) (q : Drs G xs es) :
    Ext G H σ ρ G (upd H a (.lst xs)) σ ρ2 ∧ Rel G (upd H a (.lst xs)) σ ρ2 := by
  have w := R.wrote (G' := G) (H' := upd H a (.lst xs)) ha e (Same.refl _) (fun b o hb => ?_) (fun b o hb h => by rw [upd_ne hb]; exact h) (fun b o _ _ g => g) hg upd_same q
  · exact ⟨w.1, w.2.1⟩
  · rw [upd_ne (fun z => by rw [z, hg] at hb; cases hb)]
    exact R.le b o hb

section
variable {X : Cx} {c : FT} {a b d i lo hi es : E} {a0 b0 d0 i0 : Expr} {pos : Pos}
/-! ### slices -/
def tO (c : FT) (e : E) : TO := fun σ H Q => ∃ G ρ o ρ', Rel G H σ ρ ∧ prt ρ e (ev c e ρ) = some (o, ρ') ∧ ∀ H' G', Ext G H σ ρ G' H' σ ρ' → Rel G' H' σ ρ' → Q o H'
theorem o_none (h : isNil a = true) : PO X none (tO c a) := PO.le po_none fun σ H Q ⟨G, ρ, o, ρ', R, e, q⟩ => by
  unfold prt at e
  rw [h] at e
  cases e
  exact q H G Ext.refl R
theorem o_some (hn : isNil a = false) (h : PE X a0 (tE c a)) : PO X (some a0) (tO c a) := PO.le (po_some (sD h)) fun σ H Q ⟨G, ρ, o, ρ', R, e, q⟩ => by
  unfold prt at e
  rw [hn] at e
  obtain ⟨sv, ρ1, dd, e1, z1, e⟩ := bz_some e
  obtain ⟨o', e2, e⟩ := ob_some e
  cases e
  refine ⟨G, ρ, sv, dd, _, R, e1, z1, fun v H1 G1 E1 R1 D1 => ?_⟩
  cases D1 with
  | int n => cases e2; exact ⟨n, rfl, q H1 G1 E1 R1⟩
  | _ => cases e2
theorem s_slice {l0 h0 : Option Expr} {p2 : Pos} (hv : ∀ j, a = .var j → PE X a0 (tVar j)) (ha : PE X a0 (tE c a)) (hl : PO X l0 (tO c lo)) (hh : PO X h0 (tO c hi)) : PE X (.Subscript a0 (.Slice l0 h0 none p2) pos) (tE c (.slice a lo hi)) := by
  cases ea : isVar a with
  | some j =>
    have e0 : a = .var j := by cases a <;> first | (cases ea; rfl) | cases ea
    subst e0
    refine PE.le (pe_slice sli_ok (hv j rfl) hl hh) fun σ H Q ⟨G, ρ, sv, ρ', R, e, q⟩ => ?_
    unfold ev at e
    simp only [isVar] at e
    obtain ⟨d0, e0, e⟩ := ob_some e
    obtain ⟨l, ρ2, e1, e⟩ := bd_some e
    obtain ⟨h, ρ3, e2, e⟩ := bd_some e
    obtain ⟨x, e3, e⟩ := ob_some e
    obtain ⟨w, e4, e⟩ := ob_some e
    cases e
    obtain ⟨v0, hv0, _⟩ := slot_rd R e0
    refine ⟨v0, hv0, G, ρ, l, ρ2, R, e1, fun H1 G1 E1 R1 => ⟨G1, ρ2, h, _, R1, e2, fun H2 G2 E2 R2 => ?_⟩⟩
    obtain ⟨v, k1, k2⟩ := slot_rd R2 e3
    rw [hv0] at k1
    cases k1
    refine ⟨G2, x, sv, R2.le, k2, e4, fun v H3 N => ?_⟩
    obtain ⟨G3, E3, R3, S3⟩ := fin_new R2 N
    exact q v H3 G3 ((E1.trans E2).trans E3) R3 (S3.older (E1.trans E2).dom)
  | none =>
    refine PE.le (pe_slice sli_ok (sD ha) hl hh) fun σ H Q ⟨G, ρ, sv, ρ', R, e, q⟩ => ?_
    unfold ev at e
    simp only [ea] at e
    obtain ⟨sva, ρ1, dx, e0, z0, e⟩ := bz_some e
    obtain ⟨l, ρ2, e1, e⟩ := bd_some e
    obtain ⟨h, ρ3, e2, e⟩ := bd_some e
    obtain ⟨w, e4, e⟩ := ob_some e
    cases e
    refine ⟨G, ρ, sva, dx, ρ1, R, e0, z0, fun x H0 G0 E0 R0 D0 => ⟨G0, ρ1, l, ρ2, R0, e1, fun H1 G1 E1 R1 => ⟨G1, ρ2, h, _, R1, e2, fun H2 G2 E2 R2 => ⟨G2, dx, sv, R2.le, .inl (D0.mono (E1.trans E2).sub), e4, fun v H3 N => ?_⟩⟩⟩⟩
    obtain ⟨G3, E3, R3, S3⟩ := fin_new R2 N
    exact q v H3 G3 ((E0.trans (E1.trans E2)).trans E3) R3 (S3.older (E0.trans (E1.trans E2)).dom)
theorem s_rev {k : Nat} {p1 p2 p3 : Pos} (hv : ∀ j, a = .var j → PE X a0 (tVar j)) (ha : PE X a0 (tE c a)) : PE X (.Subscript a0 (.Slice none none (some (.UnaryOp .USub (.Constant (.int 1) k p1) p2)) p3) pos) (tE c (.rev a)) :=
  PE.le (pe_revL (sR hv ha)) fun σ H Q ⟨G, ρ, sv, ρ', R, e, q⟩ => by
    unfold ev at e
    obtain ⟨x, ρ1, e1, e⟩ := bd_some e
    have hx : ∃ ds, x = .list ds := by cases x <;> first | exact ⟨_, rfl⟩ | cases e
    obtain ⟨ds, rfl⟩ := hx
    cases e
    refine ⟨G, ρ, .list ds, _, R, e1, fun v H1 G1 E1 R1 D1 => ?_⟩
    obtain ⟨p, xs, rfl, ra, hS⟩ : ∃ p xs, v = .ref p ∧ Drs G1 xs ds ∧ SqL X.K H1 p xs := by
      rcases D1 with D1 | ⟨p, xs, es, rfl, h1, h2, h3⟩
      · cases D1 with
        | lst h1 h2 => exact ⟨_, _, rfl, h2, SqL.of (R1.le _ _ h1)⟩
      · cases h3; exact ⟨p, xs, rfl, h2, SqL.of h1⟩
    refine ⟨p, xs, rfl, hS, fun r nr => ?_⟩
    obtain ⟨G3, E3, R3, S3⟩ := fin_new R1 (svn_lst R1.le ra.rev nr)
    exact q _ _ G3 (E1.trans E3) R3 (S3.older E1.dom)

/-! ### built-ins -/
def nmB1 : B1 → String
  | .len => "len"
  | .sum => "sum"
  | .tuple => "tuple"
  | .list => "list"
  | .int => "int"
  | .abs => "abs"
  | .max => "max"
  | .min => "min"
  | .sorted => "sorted"
  | .str => "str"
def tyB1 : B1 → Bool
  | .tuple => true
  | .list => true
  | .int => true
  | .str => true
  | _ => false
def valB1 (f : B1) : Value := if tyB1 f then .type (nmB1 f) else .builtin (nmB1 f)
theorem b1_call (hc : X.calm = true) (f : B1) : CallR X (valB1 f) (rB1 f) := by
  cases f with
  | len => exact b1_len
  | sum => exact b1_sum hc
  | tuple => exact b1_tuple
  | list => exact b1_list
  | int => exact b1_int
  | abs => exact b1_abs
  | max => exact b1_max hc
  | min => exact b1_min hc
  | sorted => exact b1_sorted
  | str =>
    intro pins s σ H vs us Q I r h
    obtain ⟨x, G, dd, sv, rfl, sG, hx, e, q⟩ := h
    cases e
theorem boot_b1 (f : B1) : bootBuiltins (Str.ofString (nmB1 f)) = some (valB1 f) := by cases f <;> decide +kernel
theorem nm_b1 (f : B1) : Str.ofString (nmB1 f) ≠ Str.ofString "__name__" ∧ (Str.ofString (nmB1 f) == Str.ofString "__debug__") = false := by cases f <;> decide +kernel
theorem a_one {t : TE} (hs : starEach [a0] X.env = (false, eval a0 X.env) :: starEach [] X.env) (ha : PE X a0 t) : PA X [a0] (tCons t tNil) := pa_cons ha pa_nil hs
theorem s_blt1 {f : B1} {p : Pos} (hc : X.calm = true) (hg : Gl X (Str.ofString (nmB1 f))) (hm : X.mg (Str.ofString (nmB1 f)) = none) (hs : starEach [a0] X.env = (false, eval a0 X.env) :: starEach [] X.env)
    (hv : ∀ j, a = .var j → PE X a0 (tVar j)) (ha : PE X a0 (tE c a)) : PE X (.Call (.Name (Str.ofString (nmB1 f)) p) [a0] [] pos) (tE c (.blt1 f a)) := by
  have go : PE X (.Call (.Name (Str.ofString (nmB1 f)) p) [a0] [] pos) (tCB (rB1 f) (tCons (tR c a) tNil)) := by
    have h1 := b1_call (X := X) hc f
    have h2 := boot_b1 f
    have h3 := nm_b1 f
    unfold valB1 at h1 h2
    cases z : tyB1 f with
    | true => rw [z] at h1 h2; exact pe_callTy h1 hg hm h2 (a_one hs (sR hv ha)) h3.1 h3.2 hs rfl
    | false => rw [z] at h1 h2; exact pe_callB h1 hg hm h2 (a_one hs (sR hv ha)) h3.1 h3.2 hs rfl
  refine PE.le go fun σ H Q ⟨G, ρ, sv, ρ', R, e, q⟩ => ?_
  unfold ev at e
  obtain ⟨x, ρ1, e1, e⟩ := bd_some e
  obtain ⟨w, e2, e⟩ := ob_some e
  cases e
  refine ⟨G, ρ, x, _, R, e1, fun v H1 G1 E1 R1 D1 => ⟨v, G1, x, sv, rfl, R1.le, D1, e2, fun v2 H2 N => ?_⟩⟩
  obtain ⟨G3, E3, R3, S3⟩ := fin_new R1 N
  exact q _ _ G3 (E1.trans E3) R3 (S3.older E1.dom)
def nmB2 : B2 → String
  | .max => "max"
  | .min => "min"
theorem boot_b2 (f : B2) : bootBuiltins (Str.ofString (nmB2 f)) = some (.builtin (nmB2 f)) := by cases f <;> decide +kernel
theorem nm_b2 (f : B2) : Str.ofString (nmB2 f) ≠ Str.ofString "__name__" ∧ (Str.ofString (nmB2 f) == Str.ofString "__debug__") = false := by cases f <;> decide +kernel
theorem s_blt2 {f : B2} {p : Pos} (hc : X.calm = true) (hg : Gl X (Str.ofString (nmB2 f))) (hm : X.mg (Str.ofString (nmB2 f)) = none) (hs : starEach [a0, b0] X.env = (false, eval a0 X.env) :: starEach [b0] X.env) (hs2 : starEach [b0] X.env = (false, eval b0 X.env) :: starEach [] X.env)
    (hpl : (backTo pos (starEach [b0] X.env)).any (·.1) = false) (ha : PE X a0 (tE c a)) (hb : PE X b0 (tE c b)) : PE X (.Call (.Name (Str.ofString (nmB2 f)) p) [a0, b0] [] pos) (tE c (.blt2 f a b)) := by
  have go : PE X (.Call (.Name (Str.ofString (nmB2 f)) p) [a0, b0] [] pos) (tCB (rB2 f) (tCons (tD c a) (tCons (tD c b) tNil))) := by
    have h1 : CallR X (.builtin (nmB2 f)) (rB2 f) := by
      cases f with
      | max => exact b2_max hc
      | min => exact b2_min hc
    exact pe_callB h1 hg hm (boot_b2 f) (pa_cons (sD ha) (pa_cons (sD hb) pa_nil hs2) hs) (nm_b2 f).1 (nm_b2 f).2 hs hpl
  refine PE.le go fun σ H Q ⟨G, ρ, sv, ρ', R, e, q⟩ => ?_
  unfold ev at e
  obtain ⟨sva, ρ1, dx, e1, z1, e⟩ := bz_some e
  obtain ⟨svb, ρ2, dy, e2, z2, e⟩ := bz_some e
  obtain ⟨w, e3, e⟩ := ob_some e
  cases e
  exact ⟨G, ρ, sva, dx, _, R, e1, z1, fun x H1 G1 E1 R1 D1 => ⟨G1, _, svb, dy, _, R1, e2, z2, fun y H2 G2 E2 R2 D2 => ⟨x, y, G2, dx, dy, w, rfl, R2.le, D1.mono E2.sub, D2, e3, fun v D => q v H2 G2 (E1.trans E2) R2 (.val D)⟩⟩⟩

/-! ### isinstance -/
theorem boot_ty (t : Ty) : bootBuiltins (Str.ofString (tyS t)) = some (.type (tyS t)) := by cases t <;> decide +kernel
theorem nm_ty (t : Ty) : Str.ofString (tyS t) ≠ Str.ofString "__name__" ∧ (Str.ofString (tyS t) == Str.ofString "__debug__") = false := by cases t <;> decide +kernel
theorem p_ty {t : Ty} {p : Pos} (hg : Gl X (Str.ofString (tyS t))) (hm : X.mg (Str.ofString (tyS t)) = none) : PE X (.Name (Str.ofString (tyS t)) p) (tC (.ty (tyS t))) :=
  pe_bltn hg hm (boot_ty t) rfl (nm_ty t).1 (nm_ty t).2
theorem boot_isi : bootBuiltins (Str.ofString "isinstance") = some (.builtin "isinstance") := by decide +kernel
theorem s_isi {t : Ty} {p p2 : Pos} (hg : Gl X (Str.ofString "isinstance")) (hm : X.mg (Str.ofString "isinstance") = none) (hg2 : Gl X (Str.ofString (tyS t))) (hm2 : X.mg (Str.ofString (tyS t)) = none)
    (hs : ∀ r, starEach (a0 :: r) X.env = (false, eval a0 X.env) :: starEach r X.env) (ha : PE X a0 (tE c a)) : PE X (.Call (.Name (Str.ofString "isinstance") p) [a0, .Name (Str.ofString (tyS t)) p2] [] pos) (tE c (.isi a t)) := by
  have go := pe_callB (pos := pos) (p := p) (call_isi (X := X)) hg hm boot_isi (pa_cons (sD ha) (pa_cons (p_ty (p := p2) hg2 hm2) pa_nil) (hs _)) (by decide +kernel) (by decide +kernel) (hs _)
  refine PE.le go fun σ H Q ⟨G, ρ, sv, ρ', R, e, q⟩ => ?_
  unfold ev at e
  obtain ⟨sva, ρ1, dx, e1, z1, e⟩ := bz_some e
  obtain ⟨k, e2, e⟩ := ob_some e
  cases e
  refine ⟨G, ρ, sva, dx, _, R, e1, z1, fun x H1 G1 E1 R1 D1 => ?_⟩
  obtain ⟨tv, k1, k2⟩ := kit_yes (K := X.K) R1.le D1
  exact ⟨x, .ty (tyS t), tv, .type (tyS t), k, rfl, .ty _, k1, k2 _ _ e2, q _ H1 G1 E1 R1 (.val (.bl _))⟩
theorem s_isi2 {t u : Ty} {p p2 p3 p4 : Pos} {k4 : Nat} (hg : Gl X (Str.ofString "isinstance")) (hm : X.mg (Str.ofString "isinstance") = none) (hg2 : Gl X (Str.ofString (tyS t))) (hm2 : X.mg (Str.ofString (tyS t)) = none)
    (hg3 : Gl X (Str.ofString (tyS u))) (hm3 : X.mg (Str.ofString (tyS u)) = none)
    (hs : ∀ r, starEach (a0 :: r) X.env = (false, eval a0 X.env) :: starEach r X.env) (ha : PE X a0 (tE c a)) :
    PE X (.Call (.Name (Str.ofString "isinstance") p) [a0, .Tuple [.Name (Str.ofString (tyS t)) p2, .Name (Str.ofString (tyS u)) p3] k4 p4] [] pos) (tE c (.isi2 a t u)) := by
  have go := pe_callB (pos := pos) (p := p) (call_isiT (X := X)) hg hm boot_isi (pa_cons (sD ha) (pa_cons (pe_tup (x1 := k4) (pos := p4) (pa_cons (p_ty (p := p2) hg2 hm2) (pa_cons (p_ty (p := p3) hg3 hm3) pa_nil))) pa_nil) (hs _)) (by decide +kernel) (by decide +kernel) (hs _)
  refine PE.le go fun σ H Q ⟨G, ρ, sv, ρ', R, e, q⟩ => ?_
  unfold ev at e
  obtain ⟨sva, ρ1, dx, e1, z1, e⟩ := bz_some e
  obtain ⟨k, e2, e⟩ := ob_some e
  obtain ⟨l, e3, e⟩ := ob_some e
  cases e
  refine ⟨G, ρ, sva, dx, _, R, e1, z1, fun x H1 G1 E1 R1 D1 => ⟨by show 2 ≤ sizeLine; decide, fun r nr => ?_⟩⟩
  obtain ⟨G3, E3, R3, S3⟩ := fin_new R1 (svn_tup (xs := []) (ds := []) (p := r) R1.le .nil nr)
  have s1 : Same H1 (upd H1 r (.tup [.ty (tyS t), .ty (tyS u)])) := same_upd nr
  have R2 : Rel G1 (upd H1 r (.tup [.ty (tyS t), .ty (tyS u)])) σ ρ' := R1.grow (Same.refl _) (R1.le.trans s1) fun b xs z h => ⟨s1 _ _ h, R1.hotG z⟩
  have E2 : Ext G1 H1 σ ρ' G1 (upd H1 r (.tup [.ty (tyS t), .ty (tyS u)])) σ ρ' := ⟨Same.refl _, fun b o h _ => s1 b o h, fun _ _ _ g _ => g, fun b h => s1.free h, fun _ h => .inl h, fun _ _ ds h1 h2 => ⟨h1, ds, h2⟩⟩
  obtain ⟨tv, k1, k2⟩ := kit_yes (K := X.K) R2.le D1
  exact ⟨x, r, [.ty (tyS t), .ty (tyS u)], tv, [.type (tyS t), .type (tyS u)], k || l, rfl, upd_same, .cons (.ty _) (.cons (.ty _) .nil), k1,
    kitAny_cons (k2 _ _ e2) (fun hb => by subst hb; exact kitAny_cons (k2 _ _ e3) (fun hb => by subst hb; exact kitAny_nil) fun hb => by subst hb; rfl) (fun hb => by subst hb; rfl),
    q _ _ G1 (E1.trans E2) R2 (.val (.bl _))⟩

/-! ### methods of lists -/
def nmMf : Mf → String
  | .count => "count"
  | .index => "index"
theorem list_ty {K : PySem.W.Frag} {G H : Hp} {m : Mf} {v : V} {dx dy dr : D} (le : Same G H) (h : Dr G v dx) (e : methD m dx dy = some dr) : tyV K "list" v H := by
  cases h with
  | lst ha ra => exact .inl ⟨rfl, _, SqL.of (le _ _ ha)⟩
  | _ => cases m <;> cases dy <;> cases e
theorem m_call (m : Mf) : MtR X ("list." ++ nmMf m) (rMf m) := by
  cases m with
  | count => exact m_count
  | index => exact m_index
theorem s_meth {m : Mf} {ap : Pos} (hbase : attributeBase a0 (Str.ofString (nmMf m)) X.env (eval a0 X.env) = eval a0 X.env)
    (hfew : ((backTo pos (starEach [b0] X.env)).all (fun x => !x.1) && (backToKw pos (keywordEach [] X.env)).all (fun x => x.1.isSome)
      && decide ([b0].length + ([] : List Keyword).length + (if ([] : List Keyword).isEmpty then 0 else 1) < 30)) = true)
    (hline : (ap.endLine == pos.line) = true) (hs : starEach [b0] X.env = (false, eval b0 X.env) :: starEach [] X.env) (ha : PE X a0 (tE c a)) (hb : PE X b0 (tE c b)) :
    PE X (.Call (.Attribute a0 (Str.ofString (nmMf m)) ap) [b0] [] pos) (tE c (.meth m a b)) := by
  have go : PE X (.Call (.Attribute a0 (Str.ofString (nmMf m)) ap) [b0] [] pos) (tBM X.K "list" (rMf m) (tD c a) (tCons (tD c b) tNil)) := by
    cases m with
    | count => exact pe_bm PySem.F.plainAttrs_list PySem.F.slot_list_count PySem.F.type_list_count m_count (sD ha) (a_one hs (sD hb)) hbase hfew hline hs rfl
    | index => exact pe_bm PySem.F.plainAttrs_list PySem.F.slot_list_index PySem.F.type_list_index m_index (sD ha) (a_one hs (sD hb)) hbase hfew hline hs rfl
  refine PE.le go fun σ H Q ⟨G, ρ, sv, ρ', R, e, q⟩ => ?_
  unfold ev at e
  obtain ⟨sva, ρ1, dx, e1, z1, e⟩ := bz_some e
  obtain ⟨svb, ρ2, dy, e2, z2, e⟩ := bz_some e
  obtain ⟨dd, e3, e⟩ := ob_some e
  cases e
  exact ⟨G, ρ, sva, dx, _, R, e1, z1, fun x H1 G1 E1 R1 D1 => ⟨list_ty R1.le D1 e3, G1, _, svb, dy, _, R1, e2, z2, fun y H2 G2 E2 R2 D2 => ⟨y, G2, dx, dy, dd, rfl, R2.le, D1.mono E2.sub, D2, e3, fun v D => q v H2 G2 (E1.trans E2) R2 (.val D)⟩⟩⟩

/-! ### calls of defs -/
/-- what a def that changes the list at a gives -/
def SvIo (G H : Hp) (a : Addr) (v : V) (sv : SV) (es : List D) (H' : Hp) : Prop := ∃ G' xs', Same G G' ∧ Same G' H' ∧ (∀ b o, b ≠ a → H b = some o → H' b = some o) ∧ (∀ b o, b ≠ a → H b = some o → G b = none → G' b = none) ∧
  G' a = none ∧ H' a = some (.lst xs') ∧ Drs G' xs' es ∧ SvV G H G' H' v sv
def spF (c : FT) (f : Nat) : Bool → Sp
  | false => fun vs H Q _ => ∃ G ds sv r, Same G H ∧ Drs G vs ds ∧ c f none ds = some (sv, r) ∧ ∀ v H', SvN G H v sv H' → Q v H'
  | true => fun vs H Q _ => ∃ G a xs row ws ds sv es, vs = .ref a :: ws ∧ Same G H ∧ H a = some (.lst xs) ∧ G a = none ∧ Drs G xs row ∧ Drs G ws ds ∧ c f (some row) ds = some (sv, es) ∧ ∀ v H', SvIo G H a v sv es H' → Q v H'
theorem call_rd {f : Nat} {σ : St} {H : Hp} {Q : VK} (h : tE c (.call f es) σ H Q) : tCall (spF c f false) [] E0 (tA c es) σ H Q := by
  obtain ⟨G, ρ, sv, ρ', R, e, q⟩ := h
  unfold ev at e
  obtain ⟨ds, ρ1, e1, e⟩ := bd_some e
  obtain ⟨p, e2, e⟩ := ob_some e
  obtain ⟨sv2, r⟩ := p
  cases e
  refine ⟨G, ρ, ds, _, R, e1, fun vs H1 G1 E1 R1 D1 => ?_⟩
  show spF c f false (vs ++ []) H1 Q E0
  rw [List.append_nil]
  refine ⟨G1, ds, sv2, r, R1.le, D1, e2, fun v H2 N => ?_⟩
  obtain ⟨G3, E3, R3, S3⟩ := fin_new R1 N
  exact q v H2 G3 (E1.trans E3) R3 (S3.older E1.dom)
theorem s_call {f k : Nat} {fa : Addr} {fd : FuncData} {ps : List Str} {x : Str} {p : Pos} {es0 : List Expr} (F : FnOk X.prog X.w X.K X.mg X.base CX0 k fa fd ps (spF c f false)) (hr : Room k X.A) (hg : Gl X x) (hm : X.mg x = some (.ref fa))
    (hk : PySem.W.keepIn X.K (.ref fa) = true) (hb : Binds X.K fd ps []) (ha : PA X (a0 :: es0) (tA c es)) (hdb : (x == ("__debug__" : Str)) = false) (he : starEach (a0 :: es0) X.env = (false, eval a0 X.env) :: starEach es0 X.env)
    (hpl : (backTo pos (starEach es0 X.env)).any (·.1) = false) : PE X (.Call (.Name x p) (a0 :: es0) [] pos) (tE c (.call f es)) :=
  PE.le (pe_call F hr hg hm hk hb .nil pass0 ha hdb he hpl) fun σ H Q h => call_rd h
theorem s_call0 {f k : Nat} {fa : Addr} {fd : FuncData} {ps : List Str} {x : Str} {p : Pos} (F : FnOk X.prog X.w X.K X.mg X.base CX0 k fa fd ps (spF c f false)) (hr : Room k X.A) (hg : Gl X x) (hm : X.mg x = some (.ref fa))
    (hk : PySem.W.keepIn X.K (.ref fa) = true) (hb : Binds X.K fd ps []) (hdb : (x == ("__debug__" : Str)) = false) : PE X (.Call (.Name x p) [] [] pos) (tE c (.call f .nil)) :=
  PE.le (pe_call0 F hr hg hm hk hb .nil pass0 hdb) fun σ H Q h => by
    obtain ⟨G, ρ, sv, ρ', R, e, q⟩ := h
    unfold ev at e
    obtain ⟨ds, ρ1, e1, e⟩ := bd_some e
    unfold evs at e1
    cases e1
    obtain ⟨p, e2, e⟩ := ob_some e
    obtain ⟨sv2, r⟩ := p
    cases e
    refine ⟨G, [], sv2, r, R.le, .nil, e2, fun v H2 N => ?_⟩
    obtain ⟨G3, E3, R3, S3⟩ := fin_new R N
    exact q v H2 G3 E3 R3 S3
theorem s_callr {f k r : Nat} {fa : Addr} {fd : FuncData} {ps : List Str} {x y : Str} {p p2 : Pos} {es0 : List Expr} (F : FnOk X.prog X.w X.K X.mg X.base CX0 k fa fd ps (spF c f true)) (hr : Room k X.A) (hg : Gl X x) (hm : X.mg x = some (.ref fa))
    (hk : PySem.W.keepIn X.K (.ref fa) = true) (hb : Binds X.K fd ps []) (hv : PE X (.Name y p2) (tVar r)) (ha : PA X es0 (tA c es)) (hdb : (x == ("__debug__" : Str)) = false)
    (hpl : (backTo pos (starEach es0 X.env)).any (·.1) = false) : PE X (.Call (.Name x p) (.Name y p2 :: es0) [] pos) (tE c (.callr f r es)) :=
  PE.le (pe_call F hr hg hm hk hb .nil pass0 (pa_cons hv ha) hdb rfl hpl) fun σ H Q h => by
    obtain ⟨G, ρ, sv, ρ', R, e, q⟩ := h
    unfold ev at e
    obtain ⟨row0, e0, e⟩ := ob_some e
    obtain ⟨ds, ρ1, e1, e⟩ := bd_some e
    obtain ⟨row, e2, e⟩ := ob_some e
    obtain ⟨p, e3, e⟩ := ob_some e
    obtain ⟨sv2, row2⟩ := p
    obtain ⟨ρ2, e4, e⟩ := ob_some e
    cases e
    obtain ⟨a, xs0, sv0, k1, _⟩ := slotL_at R e0
    refine ⟨.ref a, k1, G, ρ, ds, ρ1, R, e1, fun vs H1 G1 E1 R1 D1 => ?_⟩
    obtain ⟨a', xs, sv1, k2, k3, k4, h1, g1, d1⟩ := slotL_at R1 e2
    rw [k1] at k2
    cases k2
    show spF c f true ((.ref a :: vs) ++ []) H1 Q E0
    rw [List.append_nil]
    refine ⟨G1, a, xs, row, vs, ds, sv2, row2, rfl, R1.le, h1, g1, d1, D1, e3, fun v H2 N => ?_⟩
    obtain ⟨G2, xs', s1, s2, kp, cl, g2, h2, d2, V2⟩ := N
    obtain ⟨E2, R2, hb2⟩ := R1.wrote k1 e4 s1 s2 kp cl g2 h2 d2
    refine q v H2 G2 (E1.trans E2) R2 (SvR.older ?_ E1.dom)
    cases sv2 with
    | val dd => exact .val V2
    | own es2 =>
      obtain ⟨a2, ys, rfl, n1, n2, n3, n4⟩ := V2
      exact .own n3 n2 n4 n1 fun z => (R1.new n1).1 (hb2 _ z)
    | un => exact V2.elim
    | row _ => exact V2.elim

/-! ### what is walked -/
def ItR (G : Hp) (J : It) (ds : List D) : Prop := ∀ (j : Nat) (G2 H2 : Hp), Same G G2 → Same G2 H2 → (j < ds.length → J.go j H2) ∧ (j = ds.length → J.stop j H2) ∧
  ∀ x H3 dd, J.yld j H2 x H3 → ds[j]? = some dd → ∃ G3, Same G2 G3 ∧ Same G3 H3 ∧ Same H2 H3 ∧ (∀ b o, H2 b = some o → G2 b = none → G3 b = none) ∧ Dr G3 x dd
def tI (c : FT) (it : E) : TI := fun σ H R => ∃ G ρ ds ρ', Rel G H σ ρ ∧ evi c it ρ = some (ds, ρ') ∧ ∀ J H' G', Ext G H σ ρ G' H' σ ρ' → Rel G' H' σ ρ' → ItR G' J ds → R J H'
theorem Same.none {G H : Hp} (s : Same G H) : ∀ b o, H b = some o → G b = none → G b = none := fun _ _ _ g => g
theorem itr_list {K : PySem.W.Frag} {G : Hp} {p : Addr} {xs : List V} {ds : List D} (h : G p = some (.lst xs)) (r : Drs G xs ds) : ItR G (Itl K p) ds := by
  intro j G2 H2 s1 s2
  have hS : SqL K H2 p xs := SqL.of (s2 _ _ (s1 _ _ h))
  refine ⟨fun hj => ?_, fun hj => ⟨xs, hS, by rw [r.length, hj]; exact Nat.le_refl _⟩, fun x H3 dd y hd => ?_⟩
  · have hj' : j < xs.length := by rw [r.length]; exact hj
    exact ⟨xs, _, hS, List.getElem?_eq_getElem hj'⟩
  · obtain ⟨rfl, hx⟩ := y
    obtain ⟨dd', h1, h2⟩ := r.get (hx _ hS)
    rw [hd] at h1
    cases h1
    exact ⟨G2, Same.refl _, s2, Same.refl _, fun _ _ _ g => g, h2.mono s1⟩
theorem itr_tup {K : PySem.W.Frag} {G : Hp} {p : Addr} {xs : List V} {ds : List D} (h : G p = some (.tup xs)) (r : Drs G xs ds) : ItR G (Itt K p) ds := by
  intro j G2 H2 s1 s2
  have hS : SqT K H2 p xs := SqT.of (s2 _ _ (s1 _ _ h))
  refine ⟨fun hj => ?_, fun hj => ⟨xs, hS, by rw [r.length, hj]; exact Nat.le_refl _⟩, fun x H3 dd y hd => ?_⟩
  · have hj' : j < xs.length := by rw [r.length]; exact hj
    exact ⟨xs, _, hS, List.getElem?_eq_getElem hj'⟩
  · obtain ⟨rfl, hx⟩ := y
    obtain ⟨dd', h1, h2⟩ := r.get (hx _ hS)
    rw [hd] at h1
    cases h1
    exact ⟨G2, Same.refl _, s2, Same.refl _, fun _ _ _ g => g, h2.mono s1⟩
theorem rngD_at {u v : Int} {j : Nat} {dd : D} (h : (rngD u v)[j]? = some dd) : dd = .int (u + (j : Nat)) ∧ j < (v - u).toNat := by
  unfold rngD at h
  rw [List.getElem?_map] at h
  cases e : (List.range (v - u).toNat)[j]? with
  | none => rw [e] at h; cases h
  | some k =>
    rw [e] at h
    cases h
    obtain ⟨h1, h2⟩ := List.getElem?_eq_some_iff.mp e
    rw [List.getElem_range] at h2
    subst h2
    exact ⟨rfl, by simpa using h1⟩
theorem rngD_length (u v : Int) : (rngD u v).length = (v - u).toNat := by unfold rngD; rw [List.length_map, List.length_range]
theorem itr_rng {G : Hp} {u v : Int} : ItR G (Itr u (v - u).toNat) (rngD u v) := by
  intro j G2 H2 s1 s2
  rw [rngD_length]
  refine ⟨fun hj => hj, fun hj => by show (v - u).toNat ≤ j; omega, fun x H3 dd y hd => ?_⟩
  obtain ⟨rfl, rfl⟩ := y
  obtain ⟨rfl, _⟩ := rngD_at hd
  exact ⟨G2, Same.refl _, s2, Same.refl _, fun _ _ _ g => g, .int _⟩
/-- a list or a tuple, by its kind -/
theorem seq_kind {K : PySem.W.Frag} {G : Hp} {v : V} {dd : D} {ds : List D} (h : Dr G v dd) (e : seqD dd = some ds) : ∃ k p xs, v = .ref p ∧ Drs G xs ds ∧ ∀ G2 H2, Same G G2 → Same G2 H2 → SqK K H2 k p xs := by
  cases h with
  | lst ha ra => cases e; exact ⟨true, _, _, rfl, ra, fun G2 H2 s1 s2 => SqL.of (s2 _ _ (s1 _ _ ha))⟩
  | tup ha ra => cases e; exact ⟨false, _, _, rfl, ra, fun G2 H2 s1 s2 => SqT.of (s2 _ _ (s1 _ _ ha))⟩
  | _ => cases e
theorem enumD_at : ∀ {ds : List D} {n j : Nat} {dd : D}, (enumD n ds)[j]? = some dd → ∃ d2, ds[j]? = some d2 ∧ dd = .tuple [.int ((n + j : Nat) : Int), d2]
  | [], _, _, _, h => by simp [enumD] at h
  | x :: xs, n, 0, dd, h => by simp [enumD] at h; exact ⟨x, rfl, by rw [← h]; rfl⟩
  | x :: xs, n, j + 1, dd, h => by
    have h' : (enumD (n + 1) xs)[j]? = some dd := by simpa [enumD] using h
    obtain ⟨d2, h1, h2⟩ := enumD_at h'
    exact ⟨d2, by simpa using h1, by rw [h2]; congr 3; omega⟩
theorem enumD_length : ∀ (ds : List D) (n : Nat), (enumD n ds).length = ds.length
  | [], _ => rfl
  | x :: xs, n => by unfold enumD; rw [List.length_cons, List.length_cons, enumD_length xs]
theorem zipD_at : ∀ {ds es : List D} {j : Nat} {dd : D}, (zipD ds es)[j]? = some dd → ∃ d2 e2, ds[j]? = some d2 ∧ es[j]? = some e2 ∧ dd = .tuple [d2, e2]
  | [], _, _, _, h => by simp [zipD] at h
  | _ :: _, [], _, _, h => by simp [zipD] at h
  | x :: xs, y :: ys, 0, dd, h => by simp [zipD] at h; exact ⟨x, y, rfl, rfl, h.symm⟩
  | x :: xs, y :: ys, j + 1, dd, h => by
    have h' : (zipD xs ys)[j]? = some dd := by simpa [zipD] using h
    obtain ⟨d2, e2, h1, h2, h3⟩ := zipD_at h'
    exact ⟨d2, e2, by simpa using h1, by simpa using h2, h3⟩
theorem zipD_length : ∀ (ds es : List D), (zipD ds es).length = min ds.length es.length
  | [], _ => by simp [zipD]
  | _ :: _, [] => by simp [zipD]
  | x :: xs, y :: ys => by unfold zipD; rw [List.length_cons, List.length_cons, List.length_cons, zipD_length xs ys]; omega
/-- a new pair, told as data -/
theorem new_pair {G2 H2 : Hp} {T : Addr} {x y : V} {dx dy : D} (s2 : Same G2 H2) (n : H2 T = none) (h1 : Dr G2 x dx) (h2 : Dr G2 y dy) :
    ∃ G3, Same G2 G3 ∧ Same G3 (upd H2 T (.tup [x, y])) ∧ Same H2 (upd H2 T (.tup [x, y])) ∧ (∀ b o, H2 b = some o → G2 b = none → G3 b = none) ∧ Dr G3 (.ref T) (.tuple [dx, dy]) := by
  obtain ⟨G', s3, s4, s5, f, q⟩ := svn_tup (p := T) (xs := [x, y]) (ds := [dx, dy]) s2 (.cons h1 (.cons h2 .nil)) n
  exact ⟨G', s3, s4, s5, f, q⟩
theorem i_seq (h : PE X a0 (tE c a)) {tg : Expr} : PI X tg a0 (tI c (.seq a)) := by
  have go : PI X tg a0 (fun σ H R => tD c a σ H fun x H1 => ∃ p, x = .ref p ∧ (((∃ xs, SqL X.K H1 p xs) ∧ R (Itl X.K p) H1) ∨ ((∃ xs, SqT X.K H1 p xs) ∧ R (Itt X.K p) H1))) := by
    refine ⟨fun pins s σ H R I h0 => ?_⟩
    refine thn ((sD h).run pins s σ H _ I h0) fun v s1 ⟨x, H1, I1, r1, p, ep, q⟩ => ?_
    subst ep
    cases r1
    rcases q with ⟨⟨xs, hS⟩, q⟩ | ⟨⟨xs, hS⟩, q⟩
    · obtain ⟨its, rv, pl, hz⟩ := I1.list hS
      refine wpAny_pyIter_list pl.isList ?_
      refine ⟨s1.heap.objs.size, [s1.heap.objs.size], _, _, H1, rfl, I1.kept (t' := s1.toks) fun b o e => Heap.get?_push_of_some _ e, turn_list p _, ⟨_, Heap.get?_push_size _ rfl, rfl, rfl⟩, fun b hb => ?_, q⟩
      have e : b = s1.heap.objs.size := by simpa using hb
      subst e
      exact I1.fpOk (Nat.le_refl _) (I1.hok.fresh (Nat.le_refl _))
    · obtain ⟨its, rv, pl, hz⟩ := I1.tuple hS
      refine wpAny_pyIter_tuple (show s1.heap.IsTuple p its.toArray from pl) ?_
      refine ⟨s1.heap.objs.size, [s1.heap.objs.size], _, _, H1, rfl, I1.kept (t' := s1.toks) fun b o e => Heap.get?_push_of_some _ e, turn_tuple p _, ⟨_, Heap.get?_push_size _ rfl, rfl, rfl⟩, fun b hb => ?_, q⟩
      have e : b = s1.heap.objs.size := by simpa using hb
      subst e
      exact I1.fpOk (Nat.le_refl _) (I1.hok.fresh (Nat.le_refl _))
  refine PI.le go fun σ H R ⟨G, ρ, ds, ρ', R0, e, q⟩ => ?_
  unfold evi at e
  obtain ⟨sva, ρ1, dx, e1, z1, e⟩ := bz_some e
  obtain ⟨es2, e2, e⟩ := ob_some e
  cases e
  refine ⟨G, ρ, sva, dx, _, R0, e1, z1, fun x H1 G1 E1 R1 D1 => ?_⟩
  cases D1 with
  | lst ha ra => cases e2; exact ⟨_, rfl, .inl ⟨⟨_, SqL.of (R1.le _ _ ha)⟩, q _ H1 G1 E1 R1 (itr_list ha ra)⟩⟩
  | tup ha ra => cases e2; exact ⟨_, rfl, .inr ⟨⟨_, SqT.of (R1.le _ _ ha)⟩, q _ H1 G1 E1 R1 (itr_tup ha ra)⟩⟩
  | _ => cases e2
theorem rngOk_lt {n : Int} (h : rngOk n = true) : -1000000000 < n ∧ n < 1000000000 := by
  unfold rngOk at h
  simp only [Bool.and_eq_true, decide_eq_true_eq] at h
  exact h
theorem i_rng1 {p : Pos} {tg : Expr} (hg : Gl X "range") (hm : X.mg "range" = none) (hs : starEach [a0] X.env = (false, eval a0 X.env) :: starEach [] X.env) (h : PE X a0 (tE c a)) : PI X tg (.Call (.Name "range" p) [a0] [] pos) (tI c (.rng1 a)) :=
  PI.le (pi_range1 hg hm (a_one hs (sD h)) hs) fun σ H R ⟨G, ρ, ds, ρ', R0, e, q⟩ => by
    unfold evi at e
    obtain ⟨sva, ρ1, dx, e1, z1, e⟩ := bz_some e
    have hx : ∃ n, dx = .int n := by cases dx <;> first | exact ⟨_, rfl⟩ | cases e
    obtain ⟨n, rfl⟩ := hx
    obtain ⟨hz, e⟩ := ite_some e
    cases e
    have hn := rngOk_lt hz
    refine ⟨G, ρ, sva, _, _, R0, e1, z1, fun x H1 G1 E1 R1 D1 => ?_⟩
    cases D1
    have q2 := q (Itr 0 (n - 0).toNat) H1 G1 E1 R1 itr_rng
    rw [Int.sub_zero] at q2
    exact ⟨n, rfl, by omega, by omega, q2⟩
theorem i_rng2 {p : Pos} {tg : Expr} (hg : Gl X "range") (hm : X.mg "range" = none) (hs : starEach [a0, b0] X.env = (false, eval a0 X.env) :: starEach [b0] X.env) (hs2 : starEach [b0] X.env = (false, eval b0 X.env) :: starEach [] X.env)
    (ha : PE X a0 (tE c a)) (hb : PE X b0 (tE c b)) : PI X tg (.Call (.Name "range" p) [a0, b0] [] pos) (tI c (.rng2 a b)) :=
  PI.le (pi_range2 hg hm (pa_cons (sD ha) (pa_cons (sD hb) pa_nil hs2) hs) (by rw [hs, hs2]; rfl) hs2) fun σ H R ⟨G, ρ, ds, ρ', R0, e, q⟩ => by
    unfold evi at e
    obtain ⟨sva, ρ1, dx, e1, z1, e⟩ := bz_some e
    obtain ⟨svb, ρ2, dy, e2, z2, e⟩ := bz_some e
    have hx : ∃ n m, dx = .int n ∧ dy = .int m := by cases dx <;> cases dy <;> first | exact ⟨_, _, rfl, rfl⟩ | cases e
    obtain ⟨n, m, rfl, rfl⟩ := hx
    obtain ⟨hz, e⟩ := ite_some e
    cases e
    rw [Bool.and_eq_true] at hz
    have hn := rngOk_lt hz.1
    have hm2 := rngOk_lt hz.2
    refine ⟨G, ρ, sva, _, _, R0, e1, z1, fun x H1 G1 E1 R1 D1 => ⟨G1, _, svb, _, _, R1, e2, z2, fun y H2 G2 E2 R2 D2 => ?_⟩⟩
    cases D1
    cases D2
    exact ⟨n, m, rfl, by omega, q _ H2 G2 (E1.trans E2) R2 itr_rng⟩
theorem i_enum {p tp : Pos} {elts : List Expr} {kk : Nat} (hg : Gl X "enumerate") (hm : X.mg "enumerate" = none) (hs : starEach [a0] X.env = (false, eval a0 X.env) :: starEach [] X.env) (h : PE X a0 (tE c a)) :
    PI X (.Tuple elts kk tp) (.Call (.Name "enumerate" p) [a0] [] pos) (tI c (.enum a)) :=
  PI.le (pi_en hg hm (a_one hs (sD h)) hs) fun σ H R ⟨G, ρ, ds, ρ', R0, e, q⟩ => by
    unfold evi at e
    obtain ⟨sva, ρ1, dx, e1, z1, e⟩ := bz_some e
    obtain ⟨es2, e2, e⟩ := ob_some e
    cases e
    refine ⟨G, ρ, sva, dx, _, R0, e1, z1, fun x H1 G1 E1 R1 D1 => ?_⟩
    obtain ⟨k, pa, xs, rfl, ra, hS⟩ := seq_kind (K := X.K) D1 e2
    refine ⟨k, pa, xs, rfl, hS G1 H1 (Same.refl _) R1.le, q _ H1 G1 E1 R1 ?_⟩
    intro j G2 H2 s1 s2
    have hSj := hS G2 H2 s1 s2
    rw [enumD_length]
    refine ⟨fun hj => ?_, fun hj => ⟨xs, hSj, by rw [ra.length, hj]⟩, fun y H3 dd yl hd => ?_⟩
    · have hj' : j < xs.length := by rw [ra.length]; exact hj
      exact ⟨xs, _, hSj, List.getElem?_eq_getElem hj'⟩
    · obtain ⟨T, x2, rfl, nT, rfl, hx⟩ := yl
      obtain ⟨d2, h1, rfl⟩ := enumD_at hd
      obtain ⟨d3, h2, h3⟩ := ra.get (hx _ hSj)
      rw [h1] at h2
      cases h2
      rw [Nat.zero_add]
      exact new_pair s2 nT (.int _) (h3.mono s1)
theorem i_zip {p tp : Pos} {elts : List Expr} {kk : Nat} (hg : Gl X "zip") (hm : X.mg "zip" = none) (hs : starEach [a0, b0] X.env = (false, eval a0 X.env) :: starEach [b0] X.env) (hs2 : starEach [b0] X.env = (false, eval b0 X.env) :: starEach [] X.env)
    (hpl : (backTo pos (starEach [b0] X.env)).any (·.1) = false) (ha : PE X a0 (tE c a)) (hb : PE X b0 (tE c b)) : PI X (.Tuple elts kk tp) (.Call (.Name "zip" p) [a0, b0] [] pos) (tI c (.zip a b)) :=
  PI.le (pi_zi hg hm (pa_cons (sD ha) (pa_cons (sD hb) pa_nil hs2) hs) hs hpl) fun σ H R ⟨G, ρ, ds, ρ', R0, e, q⟩ => by
    unfold evi at e
    obtain ⟨sva, ρ1, dx, e1, z1, e⟩ := bz_some e
    obtain ⟨ds1, e2, e⟩ := ob_some e
    obtain ⟨svb, ρ2, dy, e3, z3, e⟩ := bz_some e
    obtain ⟨ds2, e4, e⟩ := ob_some e
    cases e
    refine ⟨G, ρ, sva, dx, _, R0, e1, z1, fun x H1 G1 E1 R1 D1 => ⟨G1, _, svb, dy, _, R1, e3, z3, fun y H2 G2 E2 R2 D2 => ?_⟩⟩
    obtain ⟨k, pa, xs, rfl, ra, hS⟩ := seq_kind (K := X.K) D1 e2
    obtain ⟨l, pb, ys, rfl, rb, hS2⟩ := seq_kind (K := X.K) D2 e4
    refine ⟨k, l, pa, pb, xs, ys, rfl, hS G2 H2 E2.sub R2.le, hS2 G2 H2 (Same.refl _) R2.le, q _ H2 G2 (E1.trans E2) R2 ?_⟩
    intro j G3 H3 s1 s2
    have hSj := hS G3 H3 (E2.sub.trans s1) s2
    have hSj2 := hS2 G3 H3 s1 s2
    rw [zipD_length]
    refine ⟨fun hj => ?_, fun hj => ⟨xs, ys, hSj, hSj2, by rw [ra.length, rb.length, hj]⟩, fun y H4 dd yl hd => ?_⟩
    · have hj1 : j < xs.length := by rw [ra.length]; omega
      have hj2 : j < ys.length := by rw [rb.length]; omega
      exact ⟨xs, ys, _, _, hSj, hSj2, List.getElem?_eq_getElem hj1, List.getElem?_eq_getElem hj2⟩
    · obtain ⟨T, x2, y2, rfl, nT, rfl, hx, hy⟩ := yl
      obtain ⟨d2, e2, h1, h2, rfl⟩ := zipD_at hd
      obtain ⟨d3, h3, h4⟩ := ra.get (hx _ hSj)
      obtain ⟨d4, h5, h6⟩ := rb.get (hy _ hSj2)
      rw [h1] at h3
      cases h3
      rw [h2] at h5
      cases h5
      exact new_pair s2 nT ((h4.mono E2.sub).mono s1) (h6.mono s1)
/-- list(range(..)) -/
theorem s_lrng {e0 : Expr} {tr : St → Hp → (Int → Int → Hp → Prop) → Prop} {p : Pos} (hc : X.calm = true) (hg : Gl X "list") (hm : X.mg "list" = none) (he : PRg X e0 tr) (hs : starEach [e0] X.env = (false, eval e0 X.env) :: starEach [] X.env)
    (k : ∀ σ H Q, (∃ G ρ ds ρ', Rel G H σ ρ ∧ evi c i ρ = some (ds, ρ') ∧ okL ds.length = true ∧ ∀ u v H' G', Ext G H σ ρ G' H' σ ρ' → Rel G' H' σ ρ' → ds = rngD u v → rngOk u = true → rngOk v = true → Q u v H') → tr σ H Q) : PE X (.Call (.Name "list" p) [e0] [] pos) (tE c (.lrng i)) :=
  PE.le (pe_listRg hc hg hm he hs) fun σ H Q ⟨G, ρ, sv, ρ', R, e, q⟩ => by
    unfold ev at e
    obtain ⟨ds, ρ1, e1, e⟩ := bd_some e
    obtain ⟨hz, e⟩ := ite_some e
    cases e
    refine k σ H _ ⟨G, ρ, ds, _, R, e1, hz, fun u v H1 G1 E1 R1 ed hu hv => ?_⟩
    subst ed
    have h1 := rngOk_lt hu
    have h2 := rngOk_lt hv
    have hl := okL_le hz
    rw [rngD_length] at hl
    have hsl := sizeLine_eq
    refine ⟨⟨by omega, by omega, by omega, by omega, by omega⟩, fun r nr => ?_⟩
    have dr : ∀ Gx : Hp, Drs Gx (rgV u v) (rngD u v) := fun Gx => by
      unfold rgV rngD
      generalize (List.range (v - u).toNat) = l
      induction l with
      | nil => exact .nil
      | cons n r ih => exact .cons (.int _) ih
    obtain ⟨G3, E3, R3, S3⟩ := fin_new R1 (svn_lst (p := r) R1.le (dr _) nr)
    exact q _ _ G3 (E1.trans E3) R3 (S3.older E1.dom)
end
end DP

/-! stores, targets, comprehensions -/
namespace DP
open PySem PySem.Spec PyProof.Rows L2

/-! ### a name is stored -/
theorem put_is {ρ ρ' : Rho} {j : Nat} {sv : SV} (h : put ρ j sv = some ρ') : ρ' = ρ.set j sv ∧ j < ρ.length ∧ ∀ ds, ρ[j]? ≠ some (.row ds) := by
  unfold put at h
  cases e : ρ[j]? with
  | none => rw [e] at h; cases h
  | some w =>
    rw [e] at h
    have hl : j < ρ.length := (List.getElem?_eq_some_iff.mp e).1
    cases w with
    | row ds => cases h
    | un => cases h; exact ⟨rfl, hl, fun ds z => nomatch z⟩
    | val d => cases h; exact ⟨rfl, hl, fun ds z => nomatch z⟩
    | own ds => cases h; exact ⟨rfl, hl, fun ds z => nomatch z⟩
theorem put_ok {G0 H0 G H : Hp} {σ0 σ : St} {ρ0 ρ ρ' : Rho} {j : Nat} {v : V} {sv : SV} (E : Ext G0 H0 σ0 ρ0 G H σ ρ) (R : Rel G H σ ρ) (S : SvR G H σ ρ H0 v sv) (e : put ρ j sv = some ρ') :
    Ext G0 H0 σ0 ρ0 G H (σ.set j (some v)) ρ' ∧ Rel G H (σ.set j (some v)) ρ' ∧ ∀ b, HotAt (σ.set j (some v)) ρ' b → HotAt σ ρ b ∨ (v = .ref b ∧ ∃ ds, sv = .own ds) := by
  obtain ⟨rfl, hl, nr⟩ := put_is e
  have hls : j < σ.length := by rw [R.len]; exact hl
  have sl : SlotR G H (some v) sv := by
    cases S with
    | val d => exact .val d
    | own h g q _ _ => exact .own h g q
  have hot0 : ∀ b, HotAt (σ.set j (some v)) (ρ.set j sv) b → HotAt σ ρ b ∨ (v = .ref b ∧ ∃ ds, sv = .own ds) := fun b ⟨k, w, k1, k2, k3⟩ => by
    rcases set_at k2 with ⟨rfl, rfl⟩ | ⟨hk, k2⟩
    · rw [List.getElem?_set_self hls] at k1
      have ev : v = .ref b := Option.some.inj (Option.some.inj k1)
      subst ev
      cases S with
      | val d => cases k3
      | own h g q n c => exact .inr ⟨rfl, _, rfl⟩
    · rw [List.getElem?_set_ne (fun z => hk z.symm)] at k1
      exact .inl ⟨k, w, k1, k2, k3⟩
  refine ⟨⟨E.sub, E.keep, E.cold, E.dom, fun b hb => ?_, fun k b ds k1 k2 => ?_⟩, ⟨R.le, by rw [List.length_set, List.length_set]; exact R.len, fun k o w k1 k2 => ?_, fun k l b w w' k1 k2 k3 l1 l2 l3 => ?_⟩, hot0⟩
  · rcases hot0 b hb with h | ⟨rfl, ds, rfl⟩
    · exact E.old b h
    · cases S with
      | own h g q n c => exact .inr n
  · obtain ⟨q1, ds', q2⟩ := E.row k b ds k1 k2
    have hk : j ≠ k := fun z => by subst z; exact nr ds' q2
    exact ⟨by rw [List.getElem?_set_ne hk]; exact q1, ds', by rw [List.getElem?_set_ne hk]; exact q2⟩
  · rcases set_at k2 with ⟨rfl, rfl⟩ | ⟨hk, k2⟩
    · rw [List.getElem?_set_self hls] at k1
      cases k1
      exact sl
    · rw [List.getElem?_set_ne (fun z => hk z.symm)] at k1
      exact R.slot k o w k1 k2
  · rcases set_at k2 with ⟨rfl, rfl⟩ | ⟨hk, k4⟩
    · rw [List.getElem?_set_self hls] at k1
      have ev : v = .ref b := Option.some.inj (Option.some.inj k1)
      rcases set_at l2 with ⟨rfl, rfl⟩ | ⟨hk2, l4⟩
      · rfl
      · rw [List.getElem?_set_ne (fun z => hk2 z.symm)] at l1
        subst ev
        cases S with
        | val d => cases k3
        | own h g q n c => exact absurd ⟨l, w', l1, l4, l3⟩ c
    · rw [List.getElem?_set_ne (fun z => hk z.symm)] at k1
      rcases set_at l2 with ⟨rfl, rfl⟩ | ⟨hk2, l4⟩
      · rw [List.getElem?_set_self hls] at l1
        have ev : v = .ref b := Option.some.inj (Option.some.inj l1)
        subst ev
        cases S with
        | val d => cases l3
        | own h g q n c => exact absurd ⟨k, w, k1, k4, k3⟩ c
      · rw [List.getElem?_set_ne (fun z => hk2 z.symm)] at l1
        exact R.sep k l b w w' k1 k4 k3 l1 l4 l3

/-! ### several values; several targets -/
inductive SvRs (G H : Hp) (σ : St) (ρ : Rho) (H0 : Hp) : List V → List SV → Prop
  | nil : SvRs G H σ ρ H0 [] []
  | cons {v : V} {sv : SV} {vs : List V} {svs : List SV} : SvR G H σ ρ H0 v sv → (∀ b ds, v = .ref b → sv = .own ds → ∀ (k : Nat) es, vs[k]? = some (.ref b) → svs[k]? = some (.own es) → False) → SvRs G H σ ρ H0 vs svs → SvRs G H σ ρ H0 (v :: vs) (sv :: svs)
theorem SvRs.length {G H H0 : Hp} {σ : St} {ρ : Rho} : ∀ {vs : List V} {svs : List SV}, SvRs G H σ ρ H0 vs svs → vs.length = svs.length
  | _, _, .nil => rfl
  | _, _, .cons _ _ r => by rw [List.length_cons, List.length_cons, SvRs.length r]
theorem SvRs.vals {G H H0 : Hp} {σ : St} {ρ : Rho} : ∀ {vs : List V} {ds : List D}, Drs G vs ds → SvRs G H σ ρ H0 vs (ds.map .val)
  | _, _, .nil => .nil
  | _, _, .cons h r => .cons (.val h) (fun _ _ _ z => nomatch z) (SvRs.vals r)
/-- the remaining values, behind a store of another one -/
theorem SvRs.next {G H H0 : Hp} {σ σ' : St} {ρ ρ' : Rho} {v : V} {sv : SV} (hot0 : ∀ b, HotAt σ' ρ' b → HotAt σ ρ b ∨ (v = .ref b ∧ ∃ ds, sv = .own ds)) : ∀ {vs : List V} {svs : List SV},
    (∀ b ds, v = .ref b → sv = .own ds → ∀ (k : Nat) es, vs[k]? = some (.ref b) → svs[k]? = some (.own es) → False) → SvRs G H σ ρ H0 vs svs → SvRs G H σ' ρ' H0 vs svs
  | _, _, _, .nil => .nil
  | _, _, ap, .cons h a r => .cons (by
      cases h with
      | val d => exact .val d
      | own h1 g q n c =>
        refine .own h1 g q n fun z => ?_
        rcases hot0 _ z with z | ⟨e1, ds, e2⟩
        · exact c z
        · exact ap _ _ e1 e2 0 _ rfl rfl) a (SvRs.next hot0 (fun b ds e1 e2 k es h1 h2 => ap b ds e1 e2 (k + 1) es (by simpa using h1) (by simpa using h2)) r)
theorem wipe_set (σ : St) (o : Option V) : ∀ (vs : List Nat) (j : Nat), j ∈ vs → L2.wipe (σ.set j o) vs = L2.wipe σ vs
  | [], _, h => nomatch h
  | x :: xs, j, h => by
    unfold L2.wipe
    by_cases hx : j ∈ xs
    · rw [wipe_set σ o xs j hx]
    · have e : j = x := by
        rcases List.mem_cons.mp h with e | h
        · exact e
        · exact absurd h hx
      subst e
      have aux : ∀ (ys : List Nat), j ∉ ys → L2.wipe (σ.set j o) ys = (L2.wipe σ ys).set j o := by
        intro ys
        induction ys with
        | nil => intro _; rfl
        | cons y ys ih =>
          intro hn
          unfold L2.wipe
          rw [ih (fun z => hn (List.mem_cons_of_mem _ z)), List.set_comm _ _ (fun z => hn (by rw [z]; exact List.mem_cons_self))]
      rw [aux xs hx, List.set_set]
theorem wipe_twice (σ : St) : ∀ vs : List Nat, L2.wipe (L2.wipe σ vs) vs = L2.wipe σ vs := fun vs => by
  have aux : ∀ (ys : List Nat) (τ : St), (∀ y ∈ ys, y ∈ vs) → L2.wipe (L2.wipe τ ys) vs = L2.wipe τ vs := by
    intro ys
    induction ys with
    | nil => intro τ _; rfl
    | cons y ys ih =>
      intro τ hy
      show L2.wipe ((L2.wipe τ ys).set y none) vs = _
      rw [wipe_set _ _ vs y (hy y List.mem_cons_self)]
      exact ih τ fun z hz => hy z (List.mem_cons_of_mem _ hz)
  exact aux vs σ fun _ h => h
def tPuts (is : List Nat) : TGs := fun vs σ H Q => ∃ G0 H0 σ0 ρ0 G ρ svs ρ', Ext G0 H0 σ0 ρ0 G H σ ρ ∧ Rel G H σ ρ ∧ SvRs G H σ ρ H0 vs svs ∧ puts ρ is svs = some ρ' ∧
  ∀ σ', Ext G0 H0 σ0 ρ0 G H σ' ρ' → Rel G H σ' ρ' → (∀ ws : List Nat, (∀ j ∈ is, j ∈ ws) → L2.wipe σ' ws = L2.wipe σ ws) → Q σ' H
def slotsT : Tg → List Nat
  | .one j => [j]
  | .many is => is
def tTg (t : Tg) : TG := fun v σ H Q => ∃ G ρ dd ρ', Rel G H σ ρ ∧ Dr G v dd ∧ bindT t dd ρ = some ρ' ∧
  ∀ σ', Ext G H σ ρ G H σ' ρ' → Rel G H σ' ρ' → (∀ ws : List Nat, (∀ j ∈ slotsT t, j ∈ ws) → L2.wipe σ' ws = L2.wipe σ ws) → Q σ' H
theorem PGs.le {X : Cx} {es : List Expr} {t t' : TGs} (h : PGs X es t) (k : ∀ v σ H Q, t' v σ H Q → t v σ H Q) : PGs X es t' := ⟨fun pins s σ H vs us Q I r q => h.run pins s σ H vs us Q I r (k vs σ H Q q)⟩
section
variable {X : Cx} {c : FT} {pos : Pos}
theorem g_nil : PGs X [] (tPuts []) := PGs.le pgs_nil fun vs σ H Q ⟨G0, H0, σ0, ρ0, G, ρ, svs, ρ', E, R, S, e, q⟩ => by
  cases S with
  | nil => cases e; exact ⟨rfl, q σ E R fun _ _ => rfl⟩
  | cons _ _ _ => cases e
theorem g_cons {e : Expr} {es : List Expr} {j : Nat} {is : List Nat} (h1 : PG X e (gName j)) (h2 : PGs X es (tPuts is)) (hs : (assignEach (e :: es) X.env).map (·.2) = assign e X.env :: (assignEach es X.env).map (·.2)) :
    PGs X (e :: es) (tPuts (j :: is)) := PGs.le (pgs_cons h1 h2 hs) fun vs σ H Q ⟨G0, H0, σ0, ρ0, G, ρ, svs, ρ', E, R, S, e, q⟩ => by
  cases S with
  | nil => cases e
  | @cons v sv vs svs S a r =>
    have e : (match put ρ j sv with | some ρ1 => puts ρ1 is svs | none => none) = some ρ' := e
    cases e1 : put ρ j sv with
    | none => rw [e1] at e; cases e
    | some ρ1 =>
      rw [e1] at e
      obtain ⟨E1, R1, hot0⟩ := put_ok E R S e1
      exact ⟨v, vs, rfl, G0, H0, σ0, ρ0, G, ρ1, svs, ρ', E1, R1, SvRs.next hot0 a r, e, fun σ' E2 R2 w => q σ' E2 R2 fun ws hw => by
        rw [w ws (fun z hz => hw z (List.mem_cons_of_mem _ hz)), wipe_set _ _ _ _ (hw j List.mem_cons_self)]⟩
theorem g_one {e : Expr} {j : Nat} (h : PG X e (gName j)) : PG X e (tTg (.one j)) := PG.le h fun v σ H Q ⟨G, ρ, dd, ρ', R, Dv, e, q⟩ => by
  obtain ⟨E1, R1, _⟩ := put_ok (H0 := H) Ext.refl R (.val Dv) (show put ρ j (.val dd) = some ρ' from e)
  exact q _ E1 R1 fun ws hw => wipe_set _ _ _ _ (hw j List.mem_cons_self)
theorem g_many {es : List Expr} {k : Nat} {is : List Nat} (hc : X.calm = true) (h : PGs X es (tPuts is)) (hn : (assignEach es X.env).length = is.length) (hst : (assignEach es X.env).findIdx? (·.1) = none) :
    PG X (.Tuple es k pos) (tTg (.many is)) := PG.le (pg_tup hc h hn hst) fun v σ H Q ⟨G, ρ, dd, ρ', R, Dv, e, q⟩ => by
  cases Dv with
  | @tup a xs ds ha ra =>
    have e : puts ρ is (ds.map .val) = some ρ' := e
    have len : ∀ (is : List Nat) (svs : List SV) (ρ ρ' : Rho), puts ρ is svs = some ρ' → is.length = svs.length := by
      intro is
      induction is with
      | nil => intro svs ρ ρ' h; cases svs with | nil => rfl | cons _ _ => cases h
      | cons x xs ih =>
        intro svs ρ ρ' h
        cases svs with
        | nil => cases h
        | cons y ys =>
          have h : (match put ρ x y with | some ρ1 => puts ρ1 xs ys | none => none) = some ρ' := h
          cases e1 : put ρ x y with
          | none => rw [e1] at h; cases h
          | some ρ1 => rw [e1] at h; rw [List.length_cons, List.length_cons, ih ys ρ1 ρ' h]
    have hl := len _ _ _ _ e
    rw [List.length_map] at hl
    exact ⟨a, xs, rfl, SqT.of (R.le _ _ ha), by rw [ra.length, hl], G, H, σ, ρ, G, ρ, ds.map .val, ρ', Ext.refl, R, SvRs.vals ra, e, fun σ' E2 R2 w => q σ' E2 R2 w⟩
  | _ => cases e

/-! ### comprehensions -/
def tK (c : FT) (e : E) : TT := fun σ H Q => ∃ G ρ b ρ', Rel G H σ ρ ∧ cnd ρ e (ev c e ρ) = some (b, ρ') ∧ ∀ H' G', Ext G H σ ρ G' H' σ ρ' → Rel G' H' σ ρ' → Q b H'
theorem PTs.le {X : Cx} {es : List Expr} {t t' : TT} (h : PTs X es t) (k : ∀ σ H Q, t' σ H Q → t σ H Q) : PTs X es t' := ⟨fun pins s σ H Q I q => h.run pins s σ H Q I (k σ H Q q)⟩
theorem k_none {e : E} (h : isNil e = true) : PTs X [] (tK c e) := PTs.le pts_nil fun σ H Q ⟨G, ρ, b, ρ', R, e0, q⟩ => by
  unfold cnd at e0
  rw [h] at e0
  cases e0
  exact q H G Ext.refl R
theorem k_some {e : E} {e1 : Expr} (hn : isNil e = false) (h : PT X e1 (tT c e)) : PTs X [e1] (tK c e) := PTs.le (pts_one h) fun σ H Q ⟨G, ρ, b, ρ', R, e0, q⟩ => by
  unfold cnd at e0
  rw [hn] at e0
  obtain ⟨sv, ρ1, k, e1, z1, e0⟩ := bt_some e0
  cases e0
  exact ⟨G, ρ, sv, b, _, R, e1, z1, q⟩
theorem wipeR_at {ρ : Rho} {j : Nat} : ∀ {vs : List Nat}, j ∉ vs → (wipe ρ vs)[j]? = ρ[j]?
  | [], _ => rfl
  | x :: xs, h => by
    unfold wipe
    rw [List.getElem?_set_ne (fun z => h (by rw [z]; exact List.mem_cons_self))]
    exact wipeR_at fun z => h (List.mem_cons_of_mem _ z)
theorem wipeR_len (ρ : Rho) : ∀ vs : List Nat, (wipe ρ vs).length = ρ.length
  | [] => rfl
  | x :: xs => by unfold wipe; rw [List.length_set, wipeR_len ρ xs]
theorem wipeR_in {ρ : Rho} {j : Nat} {sv : SV} : ∀ {vs : List Nat}, j ∈ vs → (wipe ρ vs)[j]? = some sv → sv = .un
  | [], h, _ => nomatch h
  | x :: xs, h, e => by
    unfold wipe at e
    rcases set_at e with ⟨_, h2⟩ | ⟨hne, e2⟩
    · exact h2
    · rcases List.mem_cons.mp h with h | h
      · exact absurd h hne
      · exact wipeR_in h e2
theorem backR_len (ρ0 ρ : Rho) : ∀ vs : List Nat, (back ρ0 ρ vs).length = ρ.length
  | [] => rfl
  | x :: xs => by unfold back; rw [List.length_set, backR_len ρ0 ρ xs]
theorem backR_out {ρ0 ρ : Rho} {j : Nat} : ∀ {vs : List Nat}, j ∉ vs → (back ρ0 ρ vs)[j]? = ρ[j]?
  | [], _ => rfl
  | x :: xs, h => by
    unfold back
    rw [List.getElem?_set_ne (fun z => h (by rw [z]; exact List.mem_cons_self))]
    exact backR_out fun z => h (List.mem_cons_of_mem _ z)
theorem backR_in {ρ0 ρ : Rho} {j : Nat} {sv : SV} (hl : ρ.length = ρ0.length) : ∀ {vs : List Nat}, j ∈ vs → (back ρ0 ρ vs)[j]? = some sv → ρ0[j]? = some sv
  | [], h, _ => nomatch h
  | x :: xs, h, e => by
    unfold back at e
    have hj : j < ρ0.length := by
      have q := (List.getElem?_eq_some_iff.mp e).1
      rw [List.length_set, backR_len, hl] at q
      exact q
    rcases set_at e with ⟨rfl, h2⟩ | ⟨hne, e2⟩
    · subst h2
      unfold rd
      rw [List.getD_eq_getElem?_getD, List.getElem?_eq_getElem hj]
      rfl
    · rcases List.mem_cons.mp h with h | h
      · exact absurd h hne
      · exact backR_in hl h e2
theorem hot_wipe {σ : St} {ρ : Rho} {vs : List Nat} {b : Addr} (h : HotAt (L2.wipe σ vs) (wipe ρ vs) b) : ∃ j sv, j ∉ vs ∧ σ[j]? = some (some (.ref b)) ∧ ρ[j]? = some sv ∧ hot sv = true := by
  obtain ⟨j, sv, h1, h2, h3⟩ := h
  by_cases hj : j ∈ vs
  · rw [wipeR_in hj h2] at h3; cases h3
  · rw [wipeR_at hj] at h2
    rw [wipe_out hj] at h1
    exact ⟨j, sv, hj, h1, h2, h3⟩
theorem Rel.wipe {G H : Hp} {σ : St} {ρ : Rho} (R : Rel G H σ ρ) (vs : List Nat) : Rel G H (L2.wipe σ vs) (DP.wipe ρ vs) := by
  refine ⟨R.le, by rw [wipe_length, wipeR_len]; exact R.len, fun j o sv h1 h2 => ?_, fun j k b w w' k1 k2 k3 l1 l2 l3 => ?_⟩
  · by_cases hj : j ∈ vs
    · rw [wipeR_in hj h2]; exact .un _
    · rw [wipeR_at hj] at h2
      rw [wipe_out hj] at h1
      exact R.slot j o sv h1 h2
  · have hj : j ∉ vs := fun z => by rw [wipeR_in z k2] at k3; cases k3
    have hk : k ∉ vs := fun z => by rw [wipeR_in z l2] at l3; cases l3
    rw [wipeR_at hj] at k2
    rw [wipe_out hj] at k1
    rw [wipeR_at hk] at l2
    rw [wipe_out hk] at l1
    exact R.sep j k b w w' k1 k2 k3 l1 l2 l3
/-- the block's own names forgotten again, behind a turn -/
theorem Ext.wipe {G H G' H' : Hp} {σ σ' : St} {ρ ρ' : Rho} {vs : List Nat} (E : Ext G H (L2.wipe σ vs) (DP.wipe ρ vs) G' H' σ' ρ') (hw : L2.wipe σ' vs = L2.wipe σ vs) : Ext G H (L2.wipe σ vs) (DP.wipe ρ vs) G' H' (L2.wipe σ vs) (DP.wipe ρ' vs) := by
  refine ⟨E.sub, E.keep, E.cold, E.dom, fun b hb => ?_, fun k b ds k1 k2 => ?_⟩
  · rw [← hw] at hb
    obtain ⟨j, sv, hj, h1, h2, h3⟩ := hot_wipe hb
    exact E.old b ⟨j, sv, h1, h2, h3⟩
  · have hk : k ∉ vs := fun z => by have := wipeR_in z k2; cases this
    obtain ⟨_, ds', q2⟩ := E.row k b ds k1 k2
    exact ⟨k1, ds', by rw [wipeR_at hk]; exact q2⟩
/-- behind a comprehension its own names are as they were ahead of it -/
theorem back_ok {G H G' H' : Hp} {σ : St} {ρ ρ' : Rho} {vs : List Nat} (R : Rel G H σ ρ) (E : Ext G H (L2.wipe σ vs) (DP.wipe ρ vs) G' H' (L2.wipe σ vs) ρ') (R' : Rel G' H' (L2.wipe σ vs) ρ') :
    Ext G H σ ρ G' H' σ (back ρ ρ' vs) ∧ Rel G' H' σ (back ρ ρ' vs) ∧ ∀ b, H b = none → HotAt σ (back ρ ρ' vs) b → HotAt (L2.wipe σ vs) ρ' b := by
  have hl : ρ'.length = ρ.length := by rw [← R'.len, wipe_length, R.len]
  have less : ∀ b, HotAt (L2.wipe σ vs) (DP.wipe ρ vs) b → HotAt σ ρ b := fun b h => by
    obtain ⟨j, sv, _, h1, h2, h3⟩ := hot_wipe h
    exact ⟨j, sv, h1, h2, h3⟩
  have inn : ∀ (j : Nat) (b : Addr) (sv : SV), j ∈ vs → σ[j]? = some (some (.ref b)) → ρ[j]? = some sv → hot sv = true → ¬ HotAt (L2.wipe σ vs) (DP.wipe ρ vs) b := fun j b sv hj h1 h2 h3 z => by
    obtain ⟨k, sw, hk, k1, k2, k3⟩ := hot_wipe z
    exact hk (by rw [← R.sep j k b sv sw h1 h2 h3 k1 k2 k3]; exact hj)
  have split : ∀ b, HotAt σ (back ρ ρ' vs) b → (∃ j sv, j ∈ vs ∧ σ[j]? = some (some (.ref b)) ∧ ρ[j]? = some sv ∧ hot sv = true) ∨ HotAt (L2.wipe σ vs) ρ' b := fun b ⟨j, sv, h1, h2, h3⟩ => by
    by_cases hj : j ∈ vs
    · exact .inl ⟨j, sv, hj, h1, backR_in hl hj h2, h3⟩
    · rw [backR_out hj] at h2
      exact .inr ⟨j, sv, by rw [wipe_out hj]; exact h1, h2, h3⟩
  refine ⟨⟨E.sub, fun b o h n => E.keep b o h fun z => n (less b z), fun b o h g n => E.cold b o h g fun z => n (less b z), E.dom, fun b hb => ?_, fun k b ds k1 k2 => ?_⟩, ⟨R'.le, by rw [backR_len, hl]; exact R.len, fun j o sv h1 h2 => ?_, fun j k b w w' k1 k2 k3 l1 l2 l3 => ?_⟩, fun b hb z => ?_⟩
  · rcases split b hb with ⟨j, sv, hj, h1, h2, h3⟩ | hb
    · exact .inl ⟨j, sv, h1, h2, h3⟩
    · rcases E.old b hb with z | z
      · exact .inl (less b z)
      · exact .inr z
  · by_cases hk : k ∈ vs
    · have hkl : k < (back ρ ρ' vs).length := by rw [backR_len, hl]; exact (List.getElem?_eq_some_iff.mp k2).1
      have e := backR_in hl hk (List.getElem?_eq_getElem hkl)
      rw [k2] at e
      exact ⟨k1, ds, by rw [List.getElem?_eq_getElem hkl, e]⟩
    · obtain ⟨_, ds', q⟩ := E.row k b ds (by rw [wipe_out hk]; exact k1) (by rw [wipeR_at hk]; exact k2)
      exact ⟨k1, ds', by rw [backR_out hk]; exact q⟩
  · by_cases hj : j ∈ vs
    · have e := backR_in hl hj h2
      have q := R.slot j o sv h1 e
      cases q with
      | un => exact .un _
      | val q => exact .val (q.mono E.sub)
      | own x1 x2 x3 => exact .own (E.keep _ _ x1 (inn j _ _ hj h1 e rfl)) (E.cold _ _ x1 x2 (inn j _ _ hj h1 e rfl)) (x3.mono E.sub)
      | row x1 x2 x3 => exact .row (E.keep _ _ x1 (inn j _ _ hj h1 e rfl)) (E.cold _ _ x1 x2 (inn j _ _ hj h1 e rfl)) (x3.mono E.sub)
    · rw [backR_out hj] at h2
      exact R'.slot j o sv (by rw [wipe_out hj]; exact h1) h2
  · have mixed : ∀ (j k : Nat) (w w' : SV), j ∈ vs → k ∉ vs → σ[j]? = some (some (.ref b)) → ρ[j]? = some w → hot w = true → σ[k]? = some (some (.ref b)) → ρ'[k]? = some w' → hot w' = true → False := fun j k w w' hj hk h1 h2 h3 h4 h5 h6 => by
      rcases E.old b ⟨k, w', by rw [wipe_out hk]; exact h4, h5, h6⟩ with z | z
      · exact inn j b w hj h1 h2 h3 z
      · obtain ⟨_, q, _⟩ := R.hotH ⟨j, w, h1, h2, h3⟩
        rw [z] at q; cases q
    by_cases hj : j ∈ vs
    · have e := backR_in hl hj k2
      by_cases hk : k ∈ vs
      · exact R.sep j k b w w' k1 e k3 l1 (backR_in hl hk l2) l3
      · rw [backR_out hk] at l2
        exact (mixed j k w w' hj hk k1 e k3 l1 l2 l3).elim
    · rw [backR_out hj] at k2
      by_cases hk : k ∈ vs
      · exact (mixed k j w' w hk hj l1 (backR_in hl hk l2) l3 k1 k2 k3).elim
      · rw [backR_out hk] at l2
        exact R'.sep j k b w w' (by rw [wipe_out hj]; exact k1) k2 k3 (by rw [wipe_out hk]; exact l1) l2 l3
  · rcases split b z with ⟨j, sv, hj, h1, h2, h3⟩ | z
    · obtain ⟨_, q, _⟩ := R.hotH ⟨j, sv, h1, h2, h3⟩
      rw [hb] at q; cases q
    · exact z
/-- a list under way, that no name holds and nothing frozen leans on -/
theorem Rel.side {G H : Hp} {σ : St} {ρ : Rho} (R : Rel G H σ ρ) {p : Addr} {o : HO} (hg : G p = none) (hn : ¬ HotAt σ ρ p) : Rel G (upd H p o) σ ρ :=
  R.grow (Same.refl _) (fun b u hb => by rw [upd_ne (ne_of_none hb hg)]; exact R.le b u hb) fun b xs z h => ⟨by rw [upd_ne (fun e => hn (by rw [← e]; exact z))]; exact h, R.hotG z⟩
theorem Ext.side {G0 H0 G H : Hp} {σ0 σ : St} {ρ0 ρ : Rho} (E : Ext G0 H0 σ0 ρ0 G H σ ρ) {p : Addr} {o : HO} (hp : H0 p = none) : Ext G0 H0 σ0 ρ0 G (upd H p o) σ ρ :=
  ⟨E.sub, fun b u hb n => by rw [upd_ne (ne_of_none hb hp)]; exact E.keep b u hb n, E.cold, fun b hb => E.dom b (by
    by_cases e : b = p
    · subst e; rw [upd_same] at hb; cases hb
    · rw [upd_ne e] at hb; exact hb), E.old, E.row⟩
theorem comp_rd {el it cond : E} {t : Tg} {vs : List Nat} (hts : ∀ j ∈ slotsT t, j ∈ vs) {σ : St} {H : Hp} {Q : VK} (h : tE c (.comp el it t cond vs) σ H Q) : tLc (tI c it) (tTg t) (tK c cond) (tD c el) vs σ H Q := by
  obtain ⟨G, ρ, sv, ρ', R, e, q⟩ := h
  unfold ev at e
  obtain ⟨xs, ρ1, e1, e⟩ := bd_some e
  obtain ⟨ys, ρ6, e2, e⟩ := bd_some e
  obtain ⟨hz, e⟩ := ite_some e
  cases e
  refine ⟨G, ρ, xs, ρ1, R, e1, fun J H1 G1 E1 R1 IR p np => ?_⟩
  -- the invariant
  refine ⟨fun i m H2 => m = xs.length - i ∧ i ≤ xs.length ∧ ∃ G2 ρ2 acc ads zs, Ext G1 H1 (L2.wipe σ vs) (wipe ρ1 vs) G2 H2 (L2.wipe σ vs) ρ2 ∧ Rel G2 H2 (L2.wipe σ vs) ρ2 ∧ H2 p = some (.lst acc) ∧ G2 p = none ∧ ¬ HotAt (L2.wipe σ vs) ρ2 p ∧ Drs G2 acc ads ∧
    compL (fun x ρ2 => ob (bindT t x ρ2) fun ρ3 => bd (cnd ρ3 cond (ev c cond ρ3)) fun k ρ4 => if k = true then bz (ev c el ρ4) fun y ρ5 => some ([y], wipe ρ5 vs) else some ([], wipe ρ4 vs)) (xs.drop i) ρ2 = some (zs, ρ6) ∧ ys = ads ++ zs, ⟨_, rfl, Nat.zero_le _, G1, wipe ρ1 vs, [], [], ys, ?_, ?_, upd_same, ?_, ?_, .nil, e2, rfl⟩, ?_⟩
  · exact Ext.side Ext.refl np
  · exact (R1.wipe vs).side (R1.new np).2 (fun z => by obtain ⟨_, w, _⟩ := (R1.wipe vs).hotH z; rw [np] at w; cases w)
  · exact (R1.new np).2
  · exact fun z => by obtain ⟨_, w, _⟩ := (R1.wipe vs).hotH z; rw [np] at w; cases w
  · rintro i m H2 ⟨rfl, hi, G2, ρ2, acc, ads, zs, E2, R2, hp, gp, cp, da, el2, eys⟩
    have ir := IR i G2 H2 E2.sub R2.le
    by_cases hlt : i < xs.length
    · refine .inr ⟨ir.1 hlt, fun H' => ∃ m', m' < xs.length - i ∧ (m' = xs.length - (i + 1) ∧ i + 1 ≤ xs.length ∧ ∃ G2 ρ2 acc ads zs, Ext G1 H1 (L2.wipe σ vs) (wipe ρ1 vs) G2 H' (L2.wipe σ vs) ρ2 ∧ Rel G2 H' (L2.wipe σ vs) ρ2 ∧ H' p = some (.lst acc) ∧ G2 p = none ∧ ¬ HotAt (L2.wipe σ vs) ρ2 p ∧ Drs G2 acc ads ∧
        compL (fun x ρ2 => ob (bindT t x ρ2) fun ρ3 => bd (cnd ρ3 cond (ev c cond ρ3)) fun k ρ4 => if k = true then bz (ev c el ρ4) fun y ρ5 => some ([y], wipe ρ5 vs) else some ([], wipe ρ4 vs)) (xs.drop (i + 1)) ρ2 = some (zs, ρ6) ∧ ys = ads ++ zs), fun H' h => h, fun x H3 yl => ?_⟩
      have hxi : xs[i]? = some xs[i] := List.getElem?_eq_getElem hlt
      obtain ⟨G3, s1, s2, s3, cl, dx⟩ := ir.2.2 x H3 _ yl hxi
      rw [List.drop_eq_getElem_cons hlt] at el2
      unfold compL at el2
      -- the turn's answer
      cases eb : (ob (bindT t xs[i] ρ2) fun ρ3 => bd (cnd ρ3 cond (ev c cond ρ3)) fun k ρ4 => if k = true then bz (ev c el ρ4) fun y ρ5 => some ([y], wipe ρ5 vs) else some ([], wipe ρ4 vs)) with
      | none => rw [eb] at el2; cases el2
      | some pr =>
        obtain ⟨y1, ρ7⟩ := pr
        rw [eb] at el2
        obtain ⟨ρ3, e3, eb⟩ := ob_some eb
        obtain ⟨k, ρ4, e4, eb⟩ := bd_some eb
        have R3 : Rel G3 H3 (L2.wipe σ vs) ρ2 := R2.grow s1 s2 fun b ys z h => ⟨s3 _ _ h, cl b _ h (R2.hotG z)⟩
        have E3 : Ext G2 H2 (L2.wipe σ vs) ρ2 G3 H3 (L2.wipe σ vs) ρ2 := ⟨s1, fun b o h _ => s3 b o h, fun b o h g _ => cl b o h g, fun b h => s3.free h, fun _ h => .inl h, fun _ _ ds h1 h2 => ⟨h1, ds, h2⟩⟩
        refine ⟨G3, ρ2, xs[i], ρ3, R3, dx, e3, fun σ2 E4 R4 w => ⟨?_, G3, ρ3, k, ρ4, R4, e4, fun H5 G5 E5 R5 => ?_⟩⟩
        · rw [w vs hts]; exact wipe_twice σ vs
        have hw : L2.wipe σ2 vs = L2.wipe σ vs := by rw [w vs hts]; exact wipe_twice σ vs
        have E25 := (E3.trans E4).trans E5
        have hp5 : H5 p = some (.lst acc) := E25.keep _ _ hp cp
        have gp5 : G5 p = none := E25.cold _ _ hp gp cp
        have cp5 : ¬ HotAt σ2 ρ4 p := E25.cool hp cp
        cases k with
        | true =>
          rw [if_pos rfl] at eb
          show tD c el σ2 H5 _
          obtain ⟨svy, ρ5, dy, e5, z5, eb⟩ := bz_some eb
          cases eb
          refine ⟨G5, ρ4, svy, dy, ρ5, R5, e5, z5, fun y H6 G6 E6 R6 D6 => ?_⟩
          have hp6 : H6 p = some (.lst acc) := E6.keep _ _ hp5 cp5
          have gp6 : G6 p = none := E6.cold _ _ hp5 gp5 cp5
          have cp6 : ¬ HotAt σ2 ρ5 p := E6.cool hp5 cp5
          have E26 := E25.trans E6
          have Ew : Ext G1 H1 (L2.wipe σ vs) (wipe ρ1 vs) G6 H6 (L2.wipe σ vs) (wipe ρ5 vs) := Ext.wipe (E2.trans E26) hw
          have Rw : Rel G6 H6 (L2.wipe σ vs) (wipe ρ5 vs) := by have := R6.wipe vs; rw [hw] at this; exact this
          have cw : ¬ HotAt (L2.wipe σ vs) (wipe ρ5 vs) p := fun z => by
            rw [← hw] at z
            obtain ⟨j, w2, _, h1, h2, h3⟩ := hot_wipe z
            exact cp6 ⟨j, w2, h1, h2, h3⟩
          cases er : compL (fun x ρ2 => ob (bindT t x ρ2) fun ρ3 => bd (cnd ρ3 cond (ev c cond ρ3)) fun k ρ4 => if k = true then bz (ev c el ρ4) fun y ρ5 => some ([y], wipe ρ5 vs) else some ([], wipe ρ4 vs)) (xs.drop (i + 1)) (wipe ρ5 vs) with
          | none => simp only [er] at el2; cases el2
          | some pr =>
            obtain ⟨z2, ρ8⟩ := pr
            simp only [er] at el2
            cases el2
            have hys : ys = (ads ++ [dy]) ++ z2 := by rw [eys, List.append_assoc]
            have hlen := okL_le hz
            have hacc := da.length
            rw [hys] at hlen
            rw [List.length_append, List.length_append] at hlen
            refine ⟨acc, hp6, by omega, xs.length - (i + 1), by omega, rfl, hlt, G6, wipe ρ5 vs, acc ++ [y], ads ++ [dy], z2, Ew.side np, Rw.side gp6 cw, upd_same, gp6, cw, (da.mono E26.sub).append (.cons D6 .nil), er, hys⟩
        | false =>
          rw [if_neg Bool.false_ne_true] at eb
          show ∃ m', _
          cases eb
          have Ew : Ext G1 H1 (L2.wipe σ vs) (wipe ρ1 vs) G5 H5 (L2.wipe σ vs) (wipe ρ4 vs) := Ext.wipe (E2.trans E25) hw
          have Rw : Rel G5 H5 (L2.wipe σ vs) (wipe ρ4 vs) := by have := R5.wipe vs; rw [hw] at this; exact this
          have cw : ¬ HotAt (L2.wipe σ vs) (wipe ρ4 vs) p := fun z => by
            rw [← hw] at z
            obtain ⟨j, w2, _, h1, h2, h3⟩ := hot_wipe z
            exact cp5 ⟨j, w2, h1, h2, h3⟩
          cases er : compL (fun x ρ2 => ob (bindT t x ρ2) fun ρ3 => bd (cnd ρ3 cond (ev c cond ρ3)) fun k ρ4 => if k = true then bz (ev c el ρ4) fun y ρ5 => some ([y], wipe ρ5 vs) else some ([], wipe ρ4 vs)) (xs.drop (i + 1)) (wipe ρ4 vs) with
          | none => simp only [er] at el2; cases el2
          | some pr =>
            obtain ⟨z2, ρ8⟩ := pr
            simp only [er] at el2
            cases el2
            exact ⟨xs.length - (i + 1), by omega, rfl, hlt, G5, wipe ρ4 vs, acc, ads, z2, Ew, Rw, hp5, gp5, cw, da.mono E25.sub, er, by rw [eys]; rfl⟩
    · have ei : i = xs.length := by omega
      subst ei
      rw [List.drop_length] at el2
      unfold compL at el2
      cases el2
      rw [List.append_nil] at eys
      subst eys
      obtain ⟨Eb, Rb, hb⟩ := back_ok R1 E2 R2
      exact .inl ⟨ir.2.1 rfl, q _ H2 G2 (E1.trans Eb) Rb (.own hp gp da (E1.dom p np) fun z => cp (hb p np z))⟩
end
end DP

/-! does a term of ours stand for a program's expression? and then its answer is the program's -/
namespace DP
open PySem PySem.Spec PyProof.Rows L2

structure Ck where
  N : List Str
  sc : Scope
  fnb : Str → Bool
  cst : Str → Option D
  fid : Str → Option (Nat × Bool)
  bl : List Str
def visC (sc : Scope) (x : Str) : Bool := match sc.names.lookup x with
  | some .local => true
  | some .cell => true
  | some .free => true
  | _ => false
def glC (sc : Scope) (x : Str) : Bool := match sc.names.lookup x with
  | some .globalImplicit => true
  | _ => false
def plainN (x : Str) : Bool := !(x == Str.ofString "__debug__") && !(x == Str.ofString "__classdict__")
def varC (C : Ck) (i : Nat) (x : Str) : Bool := decide (C.N[i]? = some x) && visC C.sc x && plainN x
def isB (C : Ck) (n : String) (x : Str) : Bool := decide (x = Str.ofString n) && glC C.sc x && decide (x ∈ C.bl)
def opC : Op2 → Operator → Bool
  | .add, .Add => true
  | .sub, .Sub => true
  | .mul, .Mult => true
  | .fdiv, .FloorDiv => true
  | .mod, .Mod => true
  | .pow, .Pow => true
  | _, _ => false
def cmC : Cm → CmpOp → Bool
  | .eq, .Eq => true
  | .ne, .NotEq => true
  | .lt, .Lt => true
  | .le, .LtE => true
  | .gt, .Gt => true
  | .ge, .GtE => true
  | .isin, .In => true
  | .notin, .NotIn => true
  | _, _ => false
theorem opC_is {o : Op2} {p : Operator} (h : opC o p = true) : p = opO o := by cases o <;> cases p <;> first | rfl | cases h
theorem cmC_is {o : Cm} {p : CmpOp} (h : cmC o p = true) : p = cmO o := by cases o <;> cases p <;> first | rfl | cases h
def notSl : Expr → Bool
  | .Slice _ _ _ _ => false
  | _ => true
def notSet : Expr → Bool
  | .Set _ _ _ => false
  | _ => true
def notCall : Expr → Bool
  | .Call _ _ _ _ => false
  | _ => true
def tstE : E → Bool
  | .not a => tstE a
  | .and a b => tstE a && tstE b
  | .or a b => tstE a && tstE b
  | .ife _ _ _ => false
  | _ => true
/-- a name that is stored: a local, or a cell of the block's own -/
def stoC (C : Ck) (i : Nat) (x : Str) : Bool := decide (C.N[i]? = some x) && (match C.sc.names.lookup x with
  | some .local => true
  | some .cell => C.fnb x
  | _ => false)
def namesC (C : Ck) : List Nat → List Expr → Bool
  | [], [] => true
  | i :: is, .Name x _ :: es => stoC C i x && namesC C is es
  | _, _ => false
def tgC (C : Ck) (t : Tg) (e : Expr) : Bool := match t with
  | .one i => (match e with | .Name x _ => stoC C i x | _ => false)
  | .many is => (match e with | .Tuple es _ _ => namesC C is es | _ => false)
def ownC (C : Ck) (vs : List Nat) : List (Str × Nat) := vs.map fun j => (C.N.getD j (Str.ofString ""), j)
def blkK (C : Ck) (scope : Scope) : Ck := { C with sc := relS scope C.sc, fnb := fun x => scope.names.lookup x == some .cell }
mutual
def chkE (C : Ck) : E → Expr → Bool
  | .var i, e0 => (match e0 with | .Name x _ => varC C i x | _ => false)
  | .non, e0 => (match e0 with | .Constant .none _ _ => true | _ => false)
  | .bl b, e0 => (match e0 with | .Constant (.bool k) _ _ => decide (b = k) | _ => false)
  | .int i, e0 => (match e0 with
    | .Constant (.int j) _ _ => decide (i = j)
    | .Name x _ => glC C.sc x && plainN x && (match C.cst x with | some (.int j) => decide (i = j) | _ => false)
    | _ => false)
  | .str s, e0 => (match e0 with
    | .Constant (.str t) _ _ => decide (s = t)
    | .Name x _ => glC C.sc x && plainN x && (match C.cst x with | some (.str t) => decide (s = t) | _ => false)
    | _ => false)
  | .op o a b, e0 => (match e0 with | .BinOp a0 p b0 _ => opC o p && chkE C a a0 && chkE C b b0 | _ => false)
  | .neg a, e0 => (match e0 with | .UnaryOp .USub a0 _ => chkE C a a0 | _ => false)
  | .not a, e0 => (match e0 with | .UnaryOp .Not a0 _ => chkE C a a0 | _ => false)
  | .and a b, e0 => (match e0 with
    | .BoolOp .And [x, y] _ => chkE C a x && chkE C b y
    | .BoolOp .And (x :: y :: z :: r) p => chkE C a x && chkE C b (.BoolOp .And (y :: z :: r) p)
    | _ => false)
  | .or a b, e0 => (match e0 with
    | .BoolOp .Or [x, y] _ => chkE C a x && chkE C b y
    | .BoolOp .Or (x :: y :: z :: r) p => chkE C a x && chkE C b (.BoolOp .Or (y :: z :: r) p)
    | _ => false)
  | .ife k a b, e0 => (match e0 with | .IfExp k0 a0 b0 _ => tstE k && chkE C k k0 && chkE C a a0 && chkE C b b0 | _ => false)
  | .isn a, e0 => (match e0 with | .Compare a0 [.Is] [.Constant .none _ _] _ => chkE C a a0 | _ => false)
  | .isnt a, e0 => (match e0 with | .Compare a0 [.IsNot] [.Constant .none _ _] _ => chkE C a a0 | _ => false)
  | .cmp o a b, e0 => (match e0 with | .Compare a0 [p] [b0] _ => cmC o p && !behindInMarks p b0 && chkE C a a0 && chkE C b b0 | _ => false)
  | .chain o q a b d, e0 => (match e0 with | .Compare a0 [p, r] [b0, d0] _ => cmC o p && cmC q r && !lastMarks [p, r] [b0, d0] && chkE C a a0 && chkE C b b0 && chkE C d d0 | _ => false)
  | .tup es, e0 => (match e0 with | .Tuple es0 _ _ => chkA C es es0 | _ => false)
  | .lst es, e0 => (match e0 with | .List es0 _ => chkA C es es0 | _ => false)
  | .idx a i, e0 => (match e0 with | .Subscript a0 i0 _ => notSl i0 && chkE C a a0 && chkE C i i0 | _ => false)
  | .slice a lo hi, e0 => (match e0 with
    | .Subscript a0 (.Slice l0 h0 none _) _ => chkE C a a0 && (match l0 with | none => isNil lo | some l => !isNil lo && chkE C lo l) && (match h0 with | none => isNil hi | some h => !isNil hi && chkE C hi h)
    | _ => false)
  | .rev a, e0 => (match e0 with | .Subscript a0 (.Slice none none (some (.UnaryOp .USub (.Constant (.int 1) _ _) _)) _) _ => chkE C a a0 | _ => false)
  | .comp el it t cond vs, e0 => (match e0 with
    | .ListComp el0 [⟨tg, iter, ifs, 0⟩] scope _ => blkC C.N C.sc scope (ownC C vs) && tgC (blkK C scope) t tg && (slotsT t).all (fun j => decide (j ∈ vs)) && notSet iter && chkI C it tg iter && chkE (blkK C scope) el el0 &&
        (match ifs with | [] => isNil cond | [k] => !isNil cond && tstE cond && chkE (blkK C scope) cond k | _ => false)
    | _ => false)
  | .call f es, e0 => (match e0 with | .Call (.Name x _) es0 [] _ => glC C.sc x && plainN x && decide (C.fid x = some (f, false)) && chkA C es es0 | _ => false)
  | .callr f r es, e0 => (match e0 with | .Call (.Name x _) (.Name y _ :: es0) [] _ => glC C.sc x && plainN x && decide (C.fid x = some (f, true)) && varC C r y && chkA C es es0 | _ => false)
  | .isi a t, e0 => (match e0 with | .Call (.Name x _) [a0, .Name y _] [] _ => isB C "isinstance" x && isB C (tyS t) y && chkE C a a0 | _ => false)
  | .isi2 a t u, e0 => (match e0 with | .Call (.Name x _) [a0, .Tuple [.Name y _, .Name z _] _ _] [] _ => isB C "isinstance" x && isB C (tyS t) y && isB C (tyS u) z && chkE C a a0 | _ => false)
  | .blt1 f a, e0 => (match e0 with | .Call (.Name x _) [a0] [] _ => isB C (nmB1 f) x && chkE C a a0 | _ => false)
  | .blt2 f a b, e0 => (match e0 with | .Call (.Name x _) [a0, b0] [] _ => isB C (nmB2 f) x && chkE C a a0 && chkE C b b0 | _ => false)
  | .lrng (.rng1 a), e0 => (match e0 with | .Call (.Name x _) [.Call (.Name y _) [a0] [] _] [] _ => isB C "list" x && isB C "range" y && chkE C a a0 | _ => false)
  | .lrng (.rng2 a b), e0 => (match e0 with | .Call (.Name x _) [.Call (.Name y _) [a0, b0] [] _] [] _ => isB C "list" x && isB C "range" y && chkE C a a0 && chkE C b b0 | _ => false)
  | .meth m o a, e0 => (match e0 with | .Call (.Attribute o0 nm ap) [a0] [] pos => decide (nm = Str.ofString (nmMf m)) && (ap.endLine == pos.line) && notCall o0 && chkE C o o0 && chkE C a a0 | _ => false)
  | _, _ => false
def chkA (C : Ck) : E → List Expr → Bool
  | .nil, es0 => (match es0 with | [] => true | _ => false)
  | .cons e es, es0 => (match es0 with | e0 :: r => chkE C e e0 && chkA C es r | _ => false)
  | _, _ => false
def chkI (C : Ck) : E → Expr → Expr → Bool
  | .seq e, _, e0 => chkE C e e0
  | .rng1 a, _, e0 => (match e0 with | .Call (.Name x _) [a0] [] _ => isB C "range" x && chkE C a a0 | _ => false)
  | .rng2 a b, _, e0 => (match e0 with | .Call (.Name x _) [a0, b0] [] _ => isB C "range" x && chkE C a a0 && chkE C b b0 | _ => false)
  | .enum a, tg, e0 => (match tg with | .Tuple _ _ _ => (match e0 with | .Call (.Name x _) [a0] [] _ => isB C "enumerate" x && chkE C a a0 | _ => false) | _ => false)
  | .zip a b, tg, e0 => (match tg with | .Tuple _ _ _ => (match e0 with | .Call (.Name x _) [a0, b0] [] _ => isB C "zip" x && chkE C a a0 && chkE C b b0 | _ => false) | _ => false)
  | _, _, _ => false
end
structure Ok (c : FT) (k : Nat) (C : Ck) (X : Cx) : Prop where
  calm : X.calm = true
  N : X.N = C.N
  sc : X.env.scope = C.sc
  nd : C.N.Nodup
  room : Room k X.A
  fnb : X.fn = C.fnb
  cst : ∀ x d, C.cst x = some d → ∃ u v, X.mg x = some u ∧ RelV v u ∧ ∀ G, Dr G v d
  fn : ∀ x f io, C.fid x = some (f, io) → ∃ fa fd ps, X.mg x = some (.ref fa) ∧ PySem.W.keepIn X.K (.ref fa) = true ∧ Binds X.K fd ps [] ∧ FnOk X.prog X.w X.K X.mg X.base CX0 k fa fd ps (spF c f io)
  bl : ∀ x ∈ C.bl, X.mg x = none
section
variable {c : FT} {k : Nat} {C : Ck} {X : Cx}
theorem Ok.gl (ok : Ok c k C X) {x : Str} (h : glC C.sc x = true) : Gl X x := by
  show X.env.scope.names.lookup x = some .globalImplicit
  rw [ok.sc]
  unfold glC at h
  split at h
  · assumption
  · cases h
theorem Ok.vis (ok : Ok c k C X) {x : Str} (h : visC C.sc x = true) : Vis X.env.scope x := by
  unfold Vis
  rw [ok.sc]
  unfold visC at h
  split at h
  · exact .inl (by assumption)
  · exact .inr (.inl (by assumption))
  · exact .inr (.inr (by assumption))
  · cases h
theorem plain_dbg {x : Str} (h : plainN x = true) : (x == Str.ofString "__debug__") = false ∧ (x == Str.ofString "__classdict__") = false := by
  unfold plainN at h
  rw [Bool.and_eq_true, Bool.not_eq_true', Bool.not_eq_true'] at h
  exact h
theorem Ok.var (ok : Ok c k C X) {x : Str} {p : Pos} {i : Nat} (h : varC C i x = true) : PE X (.Name x p) (tVar i) := by
  unfold varC at h
  rw [Bool.and_eq_true, Bool.and_eq_true] at h
  have h1 : X.N[i]? = some x := by rw [ok.N]; exact of_decide_eq_true h.1.1
  exact pe_var h1 (ok.vis h.1.2) (plain_dbg h.2).1 (plain_dbg h.2).2
theorem Ok.b (ok : Ok c k C X) {x : Str} {n : String} (h : isB C n x = true) : x = Str.ofString n ∧ Gl X x ∧ X.mg x = none := by
  unfold isB at h
  rw [Bool.and_eq_true, Bool.and_eq_true] at h
  exact ⟨of_decide_eq_true h.1.1, ok.gl h.1.2, ok.bl x (of_decide_eq_true h.2)⟩
theorem Ok.const (ok : Ok c k C X) {x : Str} {p : Pos} {d : D} (h1 : glC C.sc x = true) (h2 : plainN x = true) (h3 : C.cst x = some d) : ∃ v, PE X (.Name x p) (tC v) ∧ ∀ G, Dr G v d := by
  obtain ⟨u, v, m, r, q⟩ := ok.cst x d h3
  exact ⟨v, pe_glob (ok.gl h1) m r (plain_dbg h2).1, q⟩
theorem Ok.sto (ok : Ok c k C X) {x : Str} {p : Pos} {i : Nat} (h : stoC C i x = true) : PG X (.Name x p) (gName i) := by
  unfold stoC at h
  rw [Bool.and_eq_true] at h
  have h1 : X.N[i]? = some x := by rw [ok.N]; exact of_decide_eq_true h.1
  have nd : X.N.Nodup := by rw [ok.N]; exact ok.nd
  have h2 := h.2
  split at h2
  · next e => exact pg_name nd h1 (.inl (by rw [ok.sc]; exact e)) (.inr (by rw [ok.sc]; exact e))
  · next e => exact pg_name nd h1 (.inr (by rw [ok.sc]; exact e)) (.inl (by rw [ok.fnb]; exact h2))
  · cases h2
theorem not_star {e : E} {x : Expr} {p : Pos} : chkE C e (.Starred x p) = false := by
  cases e with
  | lrng it => cases it <;> rfl
  | _ => rfl
theorem chk_star {e : E} {e0 : Expr} (h : chkE C e e0 = true) (r : List Expr) (env : Env) : starEach (e0 :: r) env = (false, eval e0 env) :: starEach r env := by
  cases e0 with
  | Starred x p => rw [not_star] at h; cases h
  | _ => rfl
theorem chk_any : ∀ {es : E} {es0 : List Expr}, chkA C es es0 = true → ∀ (pos : Pos) (env : Env), (backTo pos (starEach es0 env)).any (·.1) = false
  | es, [], _ => fun pos env => rfl
  | es, e0 :: r, h => fun pos env => by
    cases es with
    | cons e es =>
      unfold chkA at h
      rw [Bool.and_eq_true] at h
      rw [chk_star h.1]
      show (false || (backTo pos (starEach r env)).any (·.1)) = false
      rw [chk_any h.2 pos env]
      rfl
    | _ => cases h
theorem Ok.names (ok : Ok c k C X) : ∀ {is : List Nat} {es : List Expr}, namesC C is es = true → PGs X es (tPuts is) ∧ (assignEach es X.env).length = is.length ∧ (assignEach es X.env).findIdx? (·.1) = none
  | [], [], _ => ⟨g_nil, rfl, rfl⟩
  | [], _ :: _, h => by cases h
  | _ :: _, [], h => by cases h
  | i :: is, e :: es, h => by
    cases e with
    | Name x p =>
      unfold namesC at h
      rw [Bool.and_eq_true] at h
      obtain ⟨h1, h2, h3⟩ := ok.names h.2
      refine ⟨g_cons (ok.sto h.1) h1 rfl, ?_, ?_⟩
      · show (assignEach es X.env).length + 1 = is.length + 1
        rw [h2]
      · show List.findIdx? (·.1) ((false, assign (.Name x p) X.env) :: assignEach es X.env) = none
        rw [List.findIdx?_cons, if_neg Bool.false_ne_true, h3]
        rfl
    | _ => cases h
theorem Ok.tg (ok : Ok c k C X) {t : Tg} {e : Expr} (h : tgC C t e = true) : PG X e (tTg t) := by
  unfold tgC at h
  cases t with
  | one i =>
    cases e with
    | Name x p => exact g_one (ok.sto h)
    | _ => cases h
  | many is =>
    cases e with
    | Tuple es n p =>
      obtain ⟨h1, h2, h3⟩ := ok.names h
      exact g_many ok.calm h1 h2 h3
    | _ => cases h
/-- within a comprehension's block -/
theorem Ok.blk (ok : Ok c k C X) {scope : Scope} (s : Shared) (H : Hp) (a : Addr) (cl : List (Str × Addr)) (fp : List Addr) : Ok c k (blkK C scope) (X.blk s H scope (compEnvC scope cl a X.env) fp) where
  calm := ok.calm
  N := ok.N
  sc := by
    show relabel scope X.env = relS scope C.sc
    rw [← ok.sc]
    rfl
  nd := ok.nd
  room := ok.room
  fnb := rfl
  cst := ok.cst
  fn := ok.fn
  bl := ok.bl
theorem and3 {a b d : Bool} (h : (a && b && d) = true) : a = true ∧ b = true ∧ d = true := by
  rw [Bool.and_eq_true, Bool.and_eq_true] at h
  exact ⟨h.1.1, h.1.2, h.2⟩
theorem and2 {a b : Bool} (h : (a && b) = true) : a = true ∧ b = true := by rwa [Bool.and_eq_true] at h
theorem base_plain {o0 : Expr} (h : notCall o0 = true) (nm : Str) (env : Env) (whole : Sem Value) : attributeBase o0 nm env whole = whole := by
  cases o0 <;> first | rfl | cases h
mutual
theorem sE : ∀ (e : E) (C : Ck) (X : Cx) (e0 : Expr), Ok c k C X → chkE C e e0 = true → PE X e0 (tE c e)
  | .var i, C, X, e0, ok, h => by
    unfold chkE at h
    split at h
    · exact s_var (ok.var h)
    · cases h
  | .non, C, X, e0, ok, h => by
    unfold chkE at h
    split at h
    · exact s_const pe_non (fun _ => .non) fun _ => rfl
    · cases h
  | .bl b, C, X, e0, ok, h => by
    unfold chkE at h
    split at h
    · have e := of_decide_eq_true h
      subst e
      exact s_const pe_bl (fun _ => .bl _) fun _ => rfl
    · cases h
  | .int i, C, X, e0, ok, h => by
    unfold chkE at h
    split at h
    · have e := of_decide_eq_true h
      subst e
      exact s_const pe_int (fun _ => .int _) fun _ => rfl
    · obtain ⟨h1, h2, h3⟩ := and3 h
      split at h3
      · next e =>
        have e2 := of_decide_eq_true h3
        subst e2
        obtain ⟨v, hv, q⟩ := ok.const h1 h2 e
        exact s_const hv q fun _ => rfl
      · cases h3
    · cases h
  | .str s, C, X, e0, ok, h => by
    unfold chkE at h
    split at h
    · have e := of_decide_eq_true h
      subst e
      exact s_const pe_str (fun _ => .str _) fun _ => rfl
    · obtain ⟨h1, h2, h3⟩ := and3 h
      split at h3
      · next e =>
        have e2 := of_decide_eq_true h3
        subst e2
        obtain ⟨v, hv, q⟩ := ok.const h1 h2 e
        exact s_const hv q fun _ => rfl
      · cases h3
    · cases h
  | .op o a b, C, X, e0, ok, h => by
    unfold chkE at h
    split at h
    · obtain ⟨h1, h2, h3⟩ := and3 h
      have e := opC_is h1
      subst e
      exact s_op (sE a C X _ ok h2) (sE b C X _ ok h3)
    · cases h
  | .neg a, C, X, e0, ok, h => by
    unfold chkE at h
    split at h
    · exact s_neg (sE a C X _ ok h)
    · cases h
  | .not a, C, X, e0, ok, h => by
    unfold chkE at h
    split at h
    · exact s_not (sE a C X _ ok h)
    · cases h
  | .and a b, C, X, e0, ok, h => by
    unfold chkE at h
    split at h
    · obtain ⟨h1, h2⟩ := and2 h
      exact s_and (sE a C X _ ok h1) (pe_one (sE b C X _ ok h2))
    · obtain ⟨h1, h2⟩ := and2 h
      exact s_and (sE a C X _ ok h1) (sE b C X _ ok h2)
    · cases h
  | .or a b, C, X, e0, ok, h => by
    unfold chkE at h
    split at h
    · obtain ⟨h1, h2⟩ := and2 h
      exact s_or (sE a C X _ ok h1) (pe_one (sE b C X _ ok h2))
    · obtain ⟨h1, h2⟩ := and2 h
      exact s_or (sE a C X _ ok h1) (sE b C X _ ok h2)
    · cases h
  | .ife d a b, C, X, e0, ok, h => by
    unfold chkE at h
    split at h
    · obtain ⟨h0, h3⟩ := and2 h
      obtain ⟨h0, h1, h2⟩ := and3 h0
      exact s_ife (sT d C X _ ok h1 h0) (sE a C X _ ok h2) (sE b C X _ ok h3)
    · cases h
  | .isn a, C, X, e0, ok, h => by
    unfold chkE at h
    split at h
    · exact s_isn (sE a C X _ ok h)
    · cases h
  | .isnt a, C, X, e0, ok, h => by
    unfold chkE at h
    split at h
    · exact s_isnt (sE a C X _ ok h)
    · cases h
  | .cmp o a b, C, X, e0, ok, h => by
    unfold chkE at h
    split at h
    · obtain ⟨h0, h3⟩ := and2 h
      obtain ⟨h1, h2, h4⟩ := and3 h0
      have e := cmC_is h1
      subst e
      exact s_cmp ok.room (by simpa using h2) (sE a C X _ ok h4) (sE b C X _ ok h3)
    · cases h
  | .chain o q a b d, C, X, e0, ok, h => by
    unfold chkE at h
    split at h
    · obtain ⟨h0, h5, h6⟩ := and3 h
      obtain ⟨h0, h3, h4⟩ := and3 h0
      obtain ⟨h1, h2⟩ := and2 h0
      have e := cmC_is h1
      have e2 := cmC_is h2
      subst e e2
      exact s_chain ok.room (by simpa using h3) (sE a C X _ ok h4) (sE b C X _ ok h5) (sE d C X _ ok h6)
    · cases h
  | .tup es, C, X, e0, ok, h => by
    unfold chkE at h
    split at h
    · exact s_tup (sA es C X _ ok h)
    · cases h
  | .lst es, C, X, e0, ok, h => by
    unfold chkE at h
    split at h
    · exact s_lst (sA es C X _ ok h)
    · cases h
  | .idx a i, C, X, e0, ok, h => by
    unfold chkE at h
    split at h
    · obtain ⟨h1, h2, h3⟩ := and3 h
      refine s_idx (fun j ej => ?_) (sE a C X _ ok h2) (sE i C X _ ok h3) ?_
      · subst ej
        unfold chkE at h2
        split at h2
        · exact ok.var h2
        · cases h2
      · next i0 _ => cases i0 <;> first | exact fun _ _ => rfl | cases h1
    · cases h
  | .slice a lo hi, C, X, e0, ok, h => by
    unfold chkE at h
    split at h
    · obtain ⟨h1, h2, h3⟩ := and3 h
      refine s_slice (fun j ej => ?_) (sE a C X _ ok h1) ?_ ?_
      · subst ej
        unfold chkE at h1
        split at h1
        · exact ok.var h1
        · cases h1
      · split at h2
        · exact o_none h2
        · obtain ⟨h4, h5⟩ := and2 h2
          exact o_some (by simpa using h4) (sE lo C X _ ok h5)
      · split at h3
        · exact o_none h3
        · obtain ⟨h4, h5⟩ := and2 h3
          exact o_some (by simpa using h4) (sE hi C X _ ok h5)
    · cases h
  | .rev a, C, X, e0, ok, h => by
    unfold chkE at h
    split at h
    · refine s_rev (fun j ej => ?_) (sE a C X _ ok h)
      subst ej
      unfold chkE at h
      split at h
      · exact ok.var h
      · cases h
    · cases h
  | .comp el it t cond vs, C, X, e0, ok, h => by
    unfold chkE at h
    split at h
    · next el0 tg iter ifs scope pos =>
      obtain ⟨h0, h6, h7⟩ := and3 h
      obtain ⟨h0, h4, h5⟩ := and3 h0
      obtain ⟨h1, h2, h3⟩ := and3 h0
      have nd : X.N.Nodup := by rw [ok.N]; exact ok.nd
      have eo : (ownC C vs).map (·.2) = vs := by
        unfold ownC
        rw [List.map_map]
        exact List.map_id vs
      have hb : BlkOk X.N X.env.scope scope (ownC C vs) := by rw [ok.N, ok.sc]; exact blkOk_by h1
      have go := pe_lc (X := X) (pos := pos) ok.calm nd (sI it C X _ _ ok h5) hb (fun s H a cl fp => (ok.blk (scope := scope) s H a cl fp).tg h2)
        (tt := tK c cond) (ifs := ifs) (fun s H a cl fp => ?_) (fun s H a cl fp => sD (sE el _ _ _ (ok.blk (scope := scope) s H a cl fp) h6)) (fun x => ?_)
      · rw [eo] at go
        exact PE.le go fun σ H Q q => comp_rd (fun j hj => of_decide_eq_true (List.all_eq_true.mp h3 j hj)) q
      · split at h7
        · exact k_none h7
        · obtain ⟨h8, h9, h10⟩ := and3 h7
          exact k_some (by simpa using h8) (sT cond _ _ _ (ok.blk (scope := scope) s H a cl fp) h10 h9)
        · cases h7
      · cases iter <;> first | rfl | cases h4
    · cases h
  | .call f es, C, X, e0, ok, h => by
    unfold chkE at h
    split at h
    · obtain ⟨h0, h3, h4⟩ := and3 h
      obtain ⟨h1, h2⟩ := and2 h0
      obtain ⟨fa, fd, ps, m, kp, b, F⟩ := ok.fn _ _ _ (of_decide_eq_true h3)
      next es0 _ =>
      cases es0 with
      | nil =>
        cases es with
        | nil => exact s_call0 F ok.room (ok.gl h1) m kp b (plain_dbg h2).1
        | cons _ _ => cases h4
        | _ => cases h4
      | cons e1 r =>
        cases es with
        | cons e2 es =>
          have h5 := h4
          unfold chkA at h5
          obtain ⟨h6, h7⟩ := and2 h5
          exact s_call F ok.room (ok.gl h1) m kp b (sA (.cons e2 es) C X _ ok h4) (plain_dbg h2).1 (chk_star h6 _ _) (chk_any h7 _ _)
        | _ => cases h4
    · cases h
  | .callr f r es, C, X, e0, ok, h => by
    unfold chkE at h
    split at h
    · obtain ⟨h0, h4, h5⟩ := and3 h
      obtain ⟨h1, h2, h3⟩ := and3 h0
      obtain ⟨fa, fd, ps, m, kp, b, F⟩ := ok.fn _ _ _ (of_decide_eq_true h3)
      exact s_callr F ok.room (ok.gl h1) m kp b (ok.var h4) (sA es C X _ ok h5) (plain_dbg h2).1 (chk_any h5 _ _)
    · cases h
  | .isi a t, C, X, e0, ok, h => by
    unfold chkE at h
    split at h
    · obtain ⟨h1, h2, h3⟩ := and3 h
      obtain ⟨rfl, g1, m1⟩ := ok.b h1
      obtain ⟨rfl, g2, m2⟩ := ok.b h2
      exact s_isi g1 m1 g2 m2 (fun r => chk_star h3 r _) (sE a C X _ ok h3)
    · cases h
  | .isi2 a t u, C, X, e0, ok, h => by
    unfold chkE at h
    split at h
    · obtain ⟨h0, h3, h4⟩ := and3 h
      obtain ⟨h1, h2⟩ := and2 h0
      obtain ⟨rfl, g1, m1⟩ := ok.b h1
      obtain ⟨rfl, g2, m2⟩ := ok.b h2
      obtain ⟨rfl, g3, m3⟩ := ok.b h3
      exact s_isi2 g1 m1 g2 m2 g3 m3 (fun r => chk_star h4 r _) (sE a C X _ ok h4)
    · cases h
  | .blt1 f a, C, X, e0, ok, h => by
    unfold chkE at h
    split at h
    · obtain ⟨h1, h2⟩ := and2 h
      obtain ⟨rfl, g1, m1⟩ := ok.b h1
      refine s_blt1 ok.calm g1 m1 (chk_star h2 _ _) (fun j ej => ?_) (sE a C X _ ok h2)
      subst ej
      unfold chkE at h2
      split at h2
      · exact ok.var h2
      · cases h2
    · cases h
  | .blt2 f a b, C, X, e0, ok, h => by
    unfold chkE at h
    split at h
    · obtain ⟨h1, h2, h3⟩ := and3 h
      obtain ⟨rfl, g1, m1⟩ := ok.b h1
      exact s_blt2 ok.calm g1 m1 (chk_star h2 _ _) (chk_star h3 _ _) (by rw [chk_star h3]; rfl) (sE a C X _ ok h2) (sE b C X _ ok h3)
    · cases h
  | .meth m o a, C, X, e0, ok, h => by
    unfold chkE at h
    split at h
    · obtain ⟨h0, h4, h5⟩ := and3 h
      obtain ⟨h1, h2, h3⟩ := and3 h0
      have e := of_decide_eq_true h1
      subst e
      refine s_meth ?_ ?_ h2 (chk_star h5 _ _) (sE o C X _ ok h4) (sE a C X _ ok h5)
      · exact base_plain h3 _ _ _
      · rw [chk_star h5]; rfl
    · cases h
  | .nil, _, _, _, _, h => by unfold chkE at h; cases h
  | .cons _ _, _, _, _, _, h => by unfold chkE at h; cases h
  | .seq _, _, _, _, _, h => by unfold chkE at h; cases h
  | .rng1 _, _, _, _, _, h => by unfold chkE at h; cases h
  | .rng2 _ _, _, _, _, _, h => by unfold chkE at h; cases h
  | .enum _, _, _, _, _, h => by unfold chkE at h; cases h
  | .zip _ _, _, _, _, _, h => by unfold chkE at h; cases h
  | .lrng (.rng1 a), C, X, e0, ok, h => by
    unfold chkE at h
    split at h
    · obtain ⟨h1, h2, h3⟩ := and3 h
      obtain ⟨rfl, g1, m1⟩ := ok.b h1
      obtain ⟨rfl, g2, m2⟩ := ok.b h2
      refine s_lrng ok.calm g1 m1 (prg_1 g2 m2 (sD (sE a C X _ ok h3)) (chk_star h3 _ _)) rfl fun σ H Q ⟨G, ρ, ds, ρ', R, e, hz, q⟩ => ?_
      unfold evi at e
      obtain ⟨sva, ρ1, dx, e1, z1, e⟩ := bz_some e
      have hx : ∃ n, dx = .int n := by cases dx <;> first | exact ⟨_, rfl⟩ | cases e
      obtain ⟨n, rfl⟩ := hx
      obtain ⟨hr, e⟩ := ite_some e
      cases e
      refine ⟨G, ρ, sva, _, _, R, e1, z1, fun x H1 G1 E1 R1 D1 => ?_⟩
      cases D1
      exact ⟨n, rfl, q 0 n H1 G1 E1 R1 rfl (by decide) hr⟩
    · cases h
  | .lrng (.rng2 a b), C, X, e0, ok, h => by
    unfold chkE at h
    split at h
    · obtain ⟨h0, h3, h4⟩ := and3 h
      obtain ⟨h1, h2⟩ := and2 h0
      obtain ⟨rfl, g1, m1⟩ := ok.b h1
      obtain ⟨rfl, g2, m2⟩ := ok.b h2
      refine s_lrng ok.calm g1 m1 (prg_2 g2 m2 (sD (sE a C X _ ok h3)) (sD (sE b C X _ ok h4)) (chk_star h3 _ _) (chk_star h4 _ _) (by rw [chk_star h4]; rfl)) rfl fun σ H Q ⟨G, ρ, ds, ρ', R, e, hz, q⟩ => ?_
      unfold evi at e
      obtain ⟨sva, ρ1, dx, e1, z1, e⟩ := bz_some e
      obtain ⟨svb, ρ2, dy, e2, z2, e⟩ := bz_some e
      have hx : ∃ n m, dx = .int n ∧ dy = .int m := by cases dx <;> cases dy <;> first | exact ⟨_, _, rfl, rfl⟩ | cases e
      obtain ⟨n, m, rfl, rfl⟩ := hx
      obtain ⟨hr, e⟩ := ite_some e
      cases e
      obtain ⟨r1, r2⟩ := and2 hr
      refine ⟨G, ρ, sva, _, _, R, e1, z1, fun x H1 G1 E1 R1 D1 => ⟨G1, _, svb, _, _, R1, e2, z2, fun y H2 G2 E2 R2 D2 => ?_⟩⟩
      cases D1
      cases D2
      exact ⟨n, m, rfl, rfl, q n m H2 G2 (E1.trans E2) R2 rfl r1 r2⟩
    · cases h
  | .lrng (.var _), _, _, _, _, h => by unfold chkE at h; cases h
  | .lrng .non, _, _, _, _, h => by unfold chkE at h; cases h
  | .lrng (.bl _), _, _, _, _, h => by unfold chkE at h; cases h
  | .lrng (.int _), _, _, _, _, h => by unfold chkE at h; cases h
  | .lrng (.str _), _, _, _, _, h => by unfold chkE at h; cases h
  | .lrng (.op _ _ _), _, _, _, _, h => by unfold chkE at h; cases h
  | .lrng (.neg _), _, _, _, _, h => by unfold chkE at h; cases h
  | .lrng (.not _), _, _, _, _, h => by unfold chkE at h; cases h
  | .lrng (.and _ _), _, _, _, _, h => by unfold chkE at h; cases h
  | .lrng (.or _ _), _, _, _, _, h => by unfold chkE at h; cases h
  | .lrng (.ife _ _ _), _, _, _, _, h => by unfold chkE at h; cases h
  | .lrng (.isn _), _, _, _, _, h => by unfold chkE at h; cases h
  | .lrng (.isnt _), _, _, _, _, h => by unfold chkE at h; cases h
  | .lrng (.cmp _ _ _), _, _, _, _, h => by unfold chkE at h; cases h
  | .lrng (.chain _ _ _ _ _), _, _, _, _, h => by unfold chkE at h; cases h
  | .lrng (.tup _), _, _, _, _, h => by unfold chkE at h; cases h
  | .lrng (.lst _), _, _, _, _, h => by unfold chkE at h; cases h
  | .lrng (.idx _ _), _, _, _, _, h => by unfold chkE at h; cases h
  | .lrng (.slice _ _ _), _, _, _, _, h => by unfold chkE at h; cases h
  | .lrng (.rev _), _, _, _, _, h => by unfold chkE at h; cases h
  | .lrng (.comp _ _ _ _ _), _, _, _, _, h => by unfold chkE at h; cases h
  | .lrng (.call _ _), _, _, _, _, h => by unfold chkE at h; cases h
  | .lrng (.callr _ _ _), _, _, _, _, h => by unfold chkE at h; cases h
  | .lrng (.isi _ _), _, _, _, _, h => by unfold chkE at h; cases h
  | .lrng (.isi2 _ _ _), _, _, _, _, h => by unfold chkE at h; cases h
  | .lrng (.blt1 _ _), _, _, _, _, h => by unfold chkE at h; cases h
  | .lrng (.blt2 _ _ _), _, _, _, _, h => by unfold chkE at h; cases h
  | .lrng (.lrng _), _, _, _, _, h => by unfold chkE at h; cases h
  | .lrng (.meth _ _ _), _, _, _, _, h => by unfold chkE at h; cases h
  | .lrng .nil, _, _, _, _, h => by unfold chkE at h; cases h
  | .lrng (.cons _ _), _, _, _, _, h => by unfold chkE at h; cases h
  | .lrng (.seq _), _, _, _, _, h => by unfold chkE at h; cases h
  | .lrng (.enum _), _, _, _, _, h => by unfold chkE at h; cases h
  | .lrng (.zip _ _), _, _, _, _, h => by unfold chkE at h; cases h
theorem sT : ∀ (e : E) (C : Ck) (X : Cx) (e0 : Expr), Ok c k C X → chkE C e e0 = true → tstE e = true → PT X e0 (tT c e)
  | .not a, C, X, e0, ok, h, t => by
    unfold chkE at h
    split at h
    · exact t_not (sT a C X _ ok h (by unfold tstE at t; exact t))
    · cases h
  | .and a b, C, X, e0, ok, h, t => by
    unfold tstE at t
    obtain ⟨t1, t2⟩ := and2 t
    unfold chkE at h
    split at h
    · obtain ⟨h1, h2⟩ := and2 h
      exact t_and (sT a C X _ ok h1 t1) (t_one (sT b C X _ ok h2 t2))
    · obtain ⟨h1, h2⟩ := and2 h
      exact t_and (sT a C X _ ok h1 t1) (sT b C X _ ok h2 t2)
    · cases h
  | .or a b, C, X, e0, ok, h, t => by
    unfold tstE at t
    obtain ⟨t1, t2⟩ := and2 t
    unfold chkE at h
    split at h
    · obtain ⟨h1, h2⟩ := and2 h
      exact t_or (sT a C X _ ok h1 t1) (t_one (sT b C X _ ok h2 t2))
    · obtain ⟨h1, h2⟩ := and2 h
      exact t_or (sT a C X _ ok h1 t1) (sT b C X _ ok h2 t2)
    · cases h
  | .isn a, C, X, e0, ok, h, _ => by
    unfold chkE at h
    split at h
    · exact t_isn (sE a C X _ ok h)
    · cases h
  | .isnt a, C, X, e0, ok, h, _ => by
    unfold chkE at h
    split at h
    · exact t_isnt (sE a C X _ ok h)
    · cases h
  | .cmp o a b, C, X, e0, ok, h, _ => by
    unfold chkE at h
    split at h
    · obtain ⟨h0, h3⟩ := and2 h
      obtain ⟨h1, h2, h4⟩ := and3 h0
      have e := cmC_is h1
      subst e
      exact t_cmp ok.room (by simpa using h2) (sE a C X _ ok h4) (sE b C X _ ok h3)
    · cases h
  | .chain o q a b d, C, X, e0, ok, h, _ => by
    unfold chkE at h
    split at h
    · obtain ⟨h0, h5, h6⟩ := and3 h
      obtain ⟨h0, h3, h4⟩ := and3 h0
      obtain ⟨h1, h2⟩ := and2 h0
      have e := cmC_is h1
      have e2 := cmC_is h2
      subst e e2
      exact t_chain ok.room (by simpa using h3) (sE a C X _ ok h4) (sE b C X _ ok h5) (sE d C X _ ok h6)
    · cases h
  | .var i, C, X, e0, ok, h, _ => by
    have g := h
    unfold chkE at h
    split at h
    · exact sT_plain (s_var (ok.var h)) fun _ => rfl
    · cases h
  | .bl b, C, X, e0, ok, h, _ => by
    unfold chkE at h
    split at h
    · have e := of_decide_eq_true h
      subst e
      exact sT_plain (s_const pe_bl (fun _ => .bl _) fun _ => rfl) fun _ => rfl
    · cases h
  | .idx a i, C, X, e0, ok, h, _ => by
    have g := h
    unfold chkE at h
    split at h
    · obtain ⟨h1, h2, h3⟩ := and3 h
      refine sT_plain (s_idx (fun j ej => ?_) (sE a C X _ ok h2) (sE i C X _ ok h3) ?_) fun _ => rfl
      · subst ej
        unfold chkE at h2
        split at h2
        · exact ok.var h2
        · cases h2
      · next i0 _ => cases i0 <;> first | exact fun _ _ => rfl | cases h1
    · cases h
  | .call f es, C, X, e0, ok, h, _ => by
    unfold chkE at h
    split at h
    · obtain ⟨h0, h3, h4⟩ := and3 h
      obtain ⟨h1, h2⟩ := and2 h0
      obtain ⟨fa, fd, ps, m, kp, b, F⟩ := ok.fn _ _ _ (of_decide_eq_true h3)
      next es0 _ =>
      cases es0 with
      | nil =>
        cases es with
        | nil => exact sT_plain (s_call0 F ok.room (ok.gl h1) m kp b (plain_dbg h2).1) fun _ => rfl
        | cons _ _ => cases h4
        | _ => cases h4
      | cons e1 r =>
        cases es with
        | cons e2 es =>
          have h5 := h4
          unfold chkA at h5
          obtain ⟨h6, h7⟩ := and2 h5
          exact sT_plain (s_call F ok.room (ok.gl h1) m kp b (sA (.cons e2 es) C X _ ok h4) (plain_dbg h2).1 (chk_star h6 _ _) (chk_any h7 _ _)) fun _ => rfl
        | _ => cases h4
    · cases h
  | .callr f r es, C, X, e0, ok, h, _ => by
    unfold chkE at h
    split at h
    · obtain ⟨h0, h4, h5⟩ := and3 h
      obtain ⟨h1, h2, h3⟩ := and3 h0
      obtain ⟨fa, fd, ps, m, kp, b, F⟩ := ok.fn _ _ _ (of_decide_eq_true h3)
      exact sT_plain (s_callr F ok.room (ok.gl h1) m kp b (ok.var h4) (sA es C X _ ok h5) (plain_dbg h2).1 (chk_any h5 _ _)) fun _ => rfl
    · cases h
  | .isi a t, C, X, e0, ok, h, _ => by
    unfold chkE at h
    split at h
    · obtain ⟨h1, h2, h3⟩ := and3 h
      obtain ⟨rfl, g1, m1⟩ := ok.b h1
      obtain ⟨rfl, g2, m2⟩ := ok.b h2
      exact sT_plain (s_isi g1 m1 g2 m2 (fun r => chk_star h3 r _) (sE a C X _ ok h3)) fun _ => rfl
    · cases h
  | .isi2 a t u, C, X, e0, ok, h, _ => by
    unfold chkE at h
    split at h
    · obtain ⟨h0, h3, h4⟩ := and3 h
      obtain ⟨h1, h2⟩ := and2 h0
      obtain ⟨rfl, g1, m1⟩ := ok.b h1
      obtain ⟨rfl, g2, m2⟩ := ok.b h2
      obtain ⟨rfl, g3, m3⟩ := ok.b h3
      exact sT_plain (s_isi2 g1 m1 g2 m2 g3 m3 (fun r => chk_star h4 r _) (sE a C X _ ok h4)) fun _ => rfl
    · cases h
  | .ife _ _ _, _, _, _, _, _, t => by unfold tstE at t; cases t
  | .non, C, X, e0, ok, h, _ => ⟨fun _ _ _ _ _ _ ⟨G, ρ, sv, b, ρ', R, e, z, q⟩ => by unfold ev at e; cases e; cases z⟩
  | .int _, C, X, e0, ok, h, _ => ⟨fun _ _ _ _ _ _ ⟨G, ρ, sv, b, ρ', R, e, z, q⟩ => by unfold ev at e; cases e; cases z⟩
  | .str _, C, X, e0, ok, h, _ => ⟨fun _ _ _ _ _ _ ⟨G, ρ, sv, b, ρ', R, e, z, q⟩ => by unfold ev at e; cases e; cases z⟩
  | .op o a b, C, X, e0, ok, h, _ => by
    unfold chkE at h
    split at h
    · obtain ⟨h1, h2, h3⟩ := and3 h
      have e := opC_is h1
      subst e
      exact sT_plain (s_op (sE a C X _ ok h2) (sE b C X _ ok h3)) fun _ => rfl
    · cases h
  | .neg a, C, X, e0, ok, h, _ => by
    unfold chkE at h
    split at h
    · exact sT_plain (s_neg (sE a C X _ ok h)) fun _ => rfl
    · cases h
  | .tup es, C, X, e0, ok, h, _ => by
    unfold chkE at h
    split at h
    · exact sT_plain (s_tup (sA es C X _ ok h)) fun _ => rfl
    · cases h
  | .lst es, C, X, e0, ok, h, _ => by
    unfold chkE at h
    split at h
    · exact sT_plain (s_lst (sA es C X _ ok h)) fun _ => rfl
    · cases h
  | .slice a lo hi, C, X, e0, ok, h, _ => by
    have g := sE (.slice a lo hi) C X e0 ok h
    unfold chkE at h
    split at h
    · exact sT_plain g fun _ => rfl
    · cases h
  | .rev a, C, X, e0, ok, h, _ => by
    have g := sE (.rev a) C X e0 ok h
    unfold chkE at h
    split at h
    · exact sT_plain g fun _ => rfl
    · cases h
  | .comp el it t cond vs, C, X, e0, ok, h, _ => by
    have g := sE (.comp el it t cond vs) C X e0 ok h
    unfold chkE at h
    split at h
    · exact sT_plain g fun _ => rfl
    · cases h
  | .blt1 f a, C, X, e0, ok, h, _ => by
    have g := sE (.blt1 f a) C X e0 ok h
    unfold chkE at h
    split at h
    · exact sT_plain g fun _ => rfl
    · cases h
  | .blt2 f a b, C, X, e0, ok, h, _ => by
    have g := sE (.blt2 f a b) C X e0 ok h
    unfold chkE at h
    split at h
    · exact sT_plain g fun _ => rfl
    · cases h
  | .meth m o a, C, X, e0, ok, h, _ => by
    have g := sE (.meth m o a) C X e0 ok h
    unfold chkE at h
    split at h
    · exact sT_plain g fun _ => rfl
    · cases h
  | .nil, _, _, _, _, h, _ => by unfold chkE at h; cases h
  | .cons _ _, _, _, _, _, h, _ => by unfold chkE at h; cases h
  | .seq _, _, _, _, _, h, _ => by unfold chkE at h; cases h
  | .rng1 _, _, _, _, _, h, _ => by unfold chkE at h; cases h
  | .rng2 _ _, _, _, _, _, h, _ => by unfold chkE at h; cases h
  | .enum _, _, _, _, _, h, _ => by unfold chkE at h; cases h
  | .zip _ _, _, _, _, _, h, _ => by unfold chkE at h; cases h
  | .lrng (.rng1 a), C, X, e0, ok, h, _ => by
    have g := sE (.lrng (.rng1 a)) C X e0 ok h
    unfold chkE at h
    split at h
    · exact sT_plain g fun _ => rfl
    · cases h
  | .lrng (.rng2 a b), C, X, e0, ok, h, _ => by
    have g := sE (.lrng (.rng2 a b)) C X e0 ok h
    unfold chkE at h
    split at h
    · exact sT_plain g fun _ => rfl
    · cases h
  | .lrng (.var _), _, _, _, _, h, _ => by unfold chkE at h; cases h
  | .lrng .non, _, _, _, _, h, _ => by unfold chkE at h; cases h
  | .lrng (.bl _), _, _, _, _, h, _ => by unfold chkE at h; cases h
  | .lrng (.int _), _, _, _, _, h, _ => by unfold chkE at h; cases h
  | .lrng (.str _), _, _, _, _, h, _ => by unfold chkE at h; cases h
  | .lrng (.op _ _ _), _, _, _, _, h, _ => by unfold chkE at h; cases h
  | .lrng (.neg _), _, _, _, _, h, _ => by unfold chkE at h; cases h
  | .lrng (.not _), _, _, _, _, h, _ => by unfold chkE at h; cases h
  | .lrng (.and _ _), _, _, _, _, h, _ => by unfold chkE at h; cases h
  | .lrng (.or _ _), _, _, _, _, h, _ => by unfold chkE at h; cases h
  | .lrng (.ife _ _ _), _, _, _, _, h, _ => by unfold chkE at h; cases h
  | .lrng (.isn _), _, _, _, _, h, _ => by unfold chkE at h; cases h
  | .lrng (.isnt _), _, _, _, _, h, _ => by unfold chkE at h; cases h
  | .lrng (.cmp _ _ _), _, _, _, _, h, _ => by unfold chkE at h; cases h
  | .lrng (.chain _ _ _ _ _), _, _, _, _, h, _ => by unfold chkE at h; cases h
  | .lrng (.tup _), _, _, _, _, h, _ => by unfold chkE at h; cases h
  | .lrng (.lst _), _, _, _, _, h, _ => by unfold chkE at h; cases h
  | .lrng (.idx _ _), _, _, _, _, h, _ => by unfold chkE at h; cases h
  | .lrng (.slice _ _ _), _, _, _, _, h, _ => by unfold chkE at h; cases h
  | .lrng (.rev _), _, _, _, _, h, _ => by unfold chkE at h; cases h
  | .lrng (.comp _ _ _ _ _), _, _, _, _, h, _ => by unfold chkE at h; cases h
  | .lrng (.call _ _), _, _, _, _, h, _ => by unfold chkE at h; cases h
  | .lrng (.callr _ _ _), _, _, _, _, h, _ => by unfold chkE at h; cases h
  | .lrng (.isi _ _), _, _, _, _, h, _ => by unfold chkE at h; cases h
  | .lrng (.isi2 _ _ _), _, _, _, _, h, _ => by unfold chkE at h; cases h
  | .lrng (.blt1 _ _), _, _, _, _, h, _ => by unfold chkE at h; cases h
  | .lrng (.blt2 _ _ _), _, _, _, _, h, _ => by unfold chkE at h; cases h
  | .lrng (.lrng _), _, _, _, _, h, _ => by unfold chkE at h; cases h
  | .lrng (.meth _ _ _), _, _, _, _, h, _ => by unfold chkE at h; cases h
  | .lrng .nil, _, _, _, _, h, _ => by unfold chkE at h; cases h
  | .lrng (.cons _ _), _, _, _, _, h, _ => by unfold chkE at h; cases h
  | .lrng (.seq _), _, _, _, _, h, _ => by unfold chkE at h; cases h
  | .lrng (.enum _), _, _, _, _, h, _ => by unfold chkE at h; cases h
  | .lrng (.zip _ _), _, _, _, _, h, _ => by unfold chkE at h; cases h
theorem sA : ∀ (es : E) (C : Ck) (X : Cx) (es0 : List Expr), Ok c k C X → chkA C es es0 = true → PA X es0 (tA c es)
  | .nil, C, X, es0, ok, h => by
    unfold chkA at h
    split at h
    · exact a_nil
    · cases h
  | .cons e es, C, X, es0, ok, h => by
    unfold chkA at h
    split at h
    · obtain ⟨h1, h2⟩ := and2 h
      exact a_cons (chk_star h1 _ _) (sE e C X _ ok h1) (sA es C X _ ok h2)
    · cases h
  | .var _, _, _, _, _, h => by unfold chkA at h; cases h
  | .non, _, _, _, _, h => by unfold chkA at h; cases h
  | .bl _, _, _, _, _, h => by unfold chkA at h; cases h
  | .int _, _, _, _, _, h => by unfold chkA at h; cases h
  | .str _, _, _, _, _, h => by unfold chkA at h; cases h
  | .op _ _ _, _, _, _, _, h => by unfold chkA at h; cases h
  | .neg _, _, _, _, _, h => by unfold chkA at h; cases h
  | .not _, _, _, _, _, h => by unfold chkA at h; cases h
  | .and _ _, _, _, _, _, h => by unfold chkA at h; cases h
  | .or _ _, _, _, _, _, h => by unfold chkA at h; cases h
  | .ife _ _ _, _, _, _, _, h => by unfold chkA at h; cases h
  | .isn _, _, _, _, _, h => by unfold chkA at h; cases h
  | .isnt _, _, _, _, _, h => by unfold chkA at h; cases h
  | .cmp _ _ _, _, _, _, _, h => by unfold chkA at h; cases h
  | .chain _ _ _ _ _, _, _, _, _, h => by unfold chkA at h; cases h
  | .tup _, _, _, _, _, h => by unfold chkA at h; cases h
  | .lst _, _, _, _, _, h => by unfold chkA at h; cases h
  | .idx _ _, _, _, _, _, h => by unfold chkA at h; cases h
  | .slice _ _ _, _, _, _, _, h => by unfold chkA at h; cases h
  | .rev _, _, _, _, _, h => by unfold chkA at h; cases h
  | .comp _ _ _ _ _, _, _, _, _, h => by unfold chkA at h; cases h
  | .call _ _, _, _, _, _, h => by unfold chkA at h; cases h
  | .callr _ _ _, _, _, _, _, h => by unfold chkA at h; cases h
  | .isi _ _, _, _, _, _, h => by unfold chkA at h; cases h
  | .isi2 _ _ _, _, _, _, _, h => by unfold chkA at h; cases h
  | .blt1 _ _, _, _, _, _, h => by unfold chkA at h; cases h
  | .blt2 _ _ _, _, _, _, _, h => by unfold chkA at h; cases h
  | .lrng _, _, _, _, _, h => by unfold chkA at h; cases h
  | .meth _ _ _, _, _, _, _, h => by unfold chkA at h; cases h
  | .seq _, _, _, _, _, h => by unfold chkA at h; cases h
  | .rng1 _, _, _, _, _, h => by unfold chkA at h; cases h
  | .rng2 _ _, _, _, _, _, h => by unfold chkA at h; cases h
  | .enum _, _, _, _, _, h => by unfold chkA at h; cases h
  | .zip _ _, _, _, _, _, h => by unfold chkA at h; cases h
theorem sI : ∀ (it : E) (C : Ck) (X : Cx) (tg e0 : Expr), Ok c k C X → chkI C it tg e0 = true → PI X tg e0 (tI c it)
  | .seq e, C, X, tg, e0, ok, h => by
    unfold chkI at h
    exact i_seq (sE e C X _ ok h)
  | .rng1 a, C, X, tg, e0, ok, h => by
    unfold chkI at h
    split at h
    · obtain ⟨h1, h2⟩ := and2 h
      obtain ⟨rfl, g1, m1⟩ := ok.b h1
      exact i_rng1 g1 m1 (chk_star h2 _ _) (sE a C X _ ok h2)
    · cases h
  | .rng2 a b, C, X, tg, e0, ok, h => by
    unfold chkI at h
    split at h
    · obtain ⟨h1, h2, h3⟩ := and3 h
      obtain ⟨rfl, g1, m1⟩ := ok.b h1
      exact i_rng2 g1 m1 (chk_star h2 _ _) (chk_star h3 _ _) (sE a C X _ ok h2) (sE b C X _ ok h3)
    · cases h
  | .enum a, C, X, tg, e0, ok, h => by
    unfold chkI at h
    split at h
    · split at h
      · obtain ⟨h1, h2⟩ := and2 h
        obtain ⟨rfl, g1, m1⟩ := ok.b h1
        exact i_enum g1 m1 (chk_star h2 _ _) (sE a C X _ ok h2)
      · cases h
    · cases h
  | .zip a b, C, X, tg, e0, ok, h => by
    unfold chkI at h
    split at h
    · split at h
      · obtain ⟨h1, h2, h3⟩ := and3 h
        obtain ⟨rfl, g1, m1⟩ := ok.b h1
        exact i_zip g1 m1 (chk_star h2 _ _) (chk_star h3 _ _) (by rw [chk_star h3]; rfl) (sE a C X _ ok h2) (sE b C X _ ok h3)
      · cases h
    · cases h
  | .nil, _, _, _, _, _, h => by unfold chkI at h; cases h
  | .cons _ _, _, _, _, _, _, h => by unfold chkI at h; cases h
  | .var _, _, _, _, _, _, h => by unfold chkI at h; cases h
  | .non, _, _, _, _, _, h => by unfold chkI at h; cases h
  | .bl _, _, _, _, _, _, h => by unfold chkI at h; cases h
  | .int _, _, _, _, _, _, h => by unfold chkI at h; cases h
  | .str _, _, _, _, _, _, h => by unfold chkI at h; cases h
  | .op _ _ _, _, _, _, _, _, h => by unfold chkI at h; cases h
  | .neg _, _, _, _, _, _, h => by unfold chkI at h; cases h
  | .not _, _, _, _, _, _, h => by unfold chkI at h; cases h
  | .and _ _, _, _, _, _, _, h => by unfold chkI at h; cases h
  | .or _ _, _, _, _, _, _, h => by unfold chkI at h; cases h
  | .ife _ _ _, _, _, _, _, _, h => by unfold chkI at h; cases h
  | .isn _, _, _, _, _, _, h => by unfold chkI at h; cases h
  | .isnt _, _, _, _, _, _, h => by unfold chkI at h; cases h
  | .cmp _ _ _, _, _, _, _, _, h => by unfold chkI at h; cases h
  | .chain _ _ _ _ _, _, _, _, _, _, h => by unfold chkI at h; cases h
  | .tup _, _, _, _, _, _, h => by unfold chkI at h; cases h
  | .lst _, _, _, _, _, _, h => by unfold chkI at h; cases h
  | .idx _ _, _, _, _, _, _, h => by unfold chkI at h; cases h
  | .slice _ _ _, _, _, _, _, _, h => by unfold chkI at h; cases h
  | .rev _, _, _, _, _, _, h => by unfold chkI at h; cases h
  | .comp _ _ _ _ _, _, _, _, _, _, h => by unfold chkI at h; cases h
  | .call _ _, _, _, _, _, _, h => by unfold chkI at h; cases h
  | .callr _ _ _, _, _, _, _, _, h => by unfold chkI at h; cases h
  | .isi _ _, _, _, _, _, _, h => by unfold chkI at h; cases h
  | .isi2 _ _ _, _, _, _, _, _, h => by unfold chkI at h; cases h
  | .blt1 _ _, _, _, _, _, _, h => by unfold chkI at h; cases h
  | .blt2 _ _ _, _, _, _, _, _, h => by unfold chkI at h; cases h
  | .lrng _, _, _, _, _, _, h => by unfold chkI at h; cases h
  | .meth _ _ _, _, _, _, _, _, h => by unfold chkI at h; cases h
end
end
end DP

/-! statements: one rule a construct -/
namespace DP
open PySem PySem.Spec PyProof.Rows L2

theorem ite_ob {α : Type} {b : Bool} {x : Option α} {y : α} (h : (if b = true then x else none) = some y) : b = true ∧ x = some y := by
  cases b with
  | true => rw [if_pos rfl] at h; exact ⟨rfl, h⟩
  | false => rw [if_neg Bool.false_ne_true] at h; cases h
inductive SvT (G0 H0 : Hp) (σ0 : St) (ρ0 : Rho) (G H : Hp) (σ : St) (ρ : Rho) : V → SV → Prop
  | val {v : V} {d : D} : Dr G v d → SvT G0 H0 σ0 ρ0 G H σ ρ v (.val d)
  | own {a : Addr} {xs : List V} {ds : List D} : H a = some (.lst xs) → G a = none → Drs G xs ds → (HotAt σ0 ρ0 a ∨ H0 a = none) → ¬ HotAt σ ρ a → SvT G0 H0 σ0 ρ0 G H σ ρ (.ref a) (.own ds)
def endD (D : Ends) (G0 H0 : Hp) (σ0 : St) (ρ0 : Rho) (o : Out) (G' H' : Hp) (σ' : St) (ρ' : Rho) : Prop := match o with
  | .nx => D.nx σ' H'
  | .bk => D.bk σ' H'
  | .ct => D.ct σ' H'
  | .rt sv => ∀ v, SvT G0 H0 σ0 ρ0 G' H' σ' ρ' v sv → D.rt v H'
def fin (D : Ends) (G0 H0 : Hp) (σ0 : St) (ρ0 : Rho) (o : Out) (ρ' : Rho) : Prop := ∀ σ' H' G', Ext G0 H0 σ0 ρ0 G' H' σ' ρ' → Rel G' H' σ' ρ' → endD D G0 H0 σ0 ρ0 o G' H' σ' ρ'
theorem endD.on {D : Ends} {G0 H0 G1 H1 G' H' : Hp} {σ0 σ1 σ' : St} {ρ0 ρ1 ρ' : Rho} {o : Out} (E : Ext G0 H0 σ0 ρ0 G1 H1 σ1 ρ1) (f : endD D G0 H0 σ0 ρ0 o G' H' σ' ρ') : endD D G1 H1 σ1 ρ1 o G' H' σ' ρ' := by
  cases o with
  | nx => exact f
  | bk => exact f
  | ct => exact f
  | rt sv =>
    intro v S
    refine f v ?_
    cases S with
    | val d => exact .val d
    | own h g q z c =>
      refine .own h g q ?_ c
      rcases z with z | z
      · exact E.old _ z
      · exact .inr (E.dom _ z)
theorem fin.on {D : Ends} {G0 H0 G1 H1 : Hp} {σ0 σ1 : St} {ρ0 ρ1 ρ' : Rho} {o : Out} (f : fin D G0 H0 σ0 ρ0 o ρ') (E : Ext G0 H0 σ0 ρ0 G1 H1 σ1 ρ1) : fin D G1 H1 σ1 ρ1 o ρ' :=
  fun σ' H' G' E' R' => (f σ' H' G' (E.trans E') R').on E
def tS (c : FT) (s : S) : TS := fun D σ H => ∃ G ρ o ρ', Rel G H σ ρ ∧ ex c s ρ = some (o, ρ') ∧ fin D G H σ ρ o ρ'
/-- several values, each as it comes -/
def tM (c : FT) (es : E) : TA := fun σ H Q => ∃ G ρ svs ρ', Rel G H σ ρ ∧ evm c es ρ = some (svs, ρ') ∧ ∀ vs H' G', Ext G H σ ρ G' H' σ ρ' → Rel G' H' σ ρ' → SvRs G' H' σ ρ' H vs svs → Q vs H'
theorem SvRs.older {G H H0 H00 : Hp} {σ : St} {ρ : Rho} (k : ∀ a, H0 a = none → H00 a = none) : ∀ {vs : List V} {svs : List SV}, SvRs G H σ ρ H0 vs svs → SvRs G H σ ρ H00 vs svs
  | _, _, .nil => .nil
  | _, _, .cons h a r => .cons (h.older k) a (SvRs.older k r)
theorem SvRs.at_new {G H H0 : Hp} {σ : St} {ρ : Rho} : ∀ {vs : List V} {svs : List SV} {k : Nat} {b : Addr} {es : List D}, SvRs G H σ ρ H0 vs svs → vs[k]? = some (.ref b) → svs[k]? = some (.own es) → H0 b = none
  | _, _, 0, _, _, .cons h _ _, e1, e2 => by
    have e1 := Option.some.inj e1
    have e2 := Option.some.inj e2
    subst e1 e2
    cases h with
    | own _ _ _ n _ => exact n
  | _, _, k + 1, _, _, .cons _ _ r, e1, e2 => SvRs.at_new (k := k) r (by simpa using e1) (by simpa using e2)
  | _, _, _, _, _, .nil, e1, _ => by simp at e1
def setAll : St → List Nat → List V → St
  | σ, j :: js, v :: vs => setAll (σ.set j (some v)) js vs
  | σ, _, _ => σ
theorem puts_run {G0 H0 G H : Hp} {σ0 : St} {ρ0 : Rho} : ∀ {is : List Nat} {vs : List V} {svs : List SV} {σ : St} {ρ ρ' : Rho}, Ext G0 H0 σ0 ρ0 G H σ ρ → Rel G H σ ρ → SvRs G H σ ρ H0 vs svs → puts ρ is svs = some ρ' →
    is.length = vs.length ∧ Ext G0 H0 σ0 ρ0 G H (setAll σ is vs) ρ' ∧ Rel G H (setAll σ is vs) ρ'
  | [], _, _, σ, ρ, ρ', E, R, .nil, e => by cases e; exact ⟨rfl, E, R⟩
  | [], _, _, σ, ρ, ρ', E, R, .cons _ _ _, e => by cases e
  | _ :: _, _, _, σ, ρ, ρ', E, R, .nil, e => by cases e
  | j :: is, v :: vs, sv :: svs, σ, ρ, ρ', E, R, .cons S a r, e => by
    have e : (match put ρ j sv with | some ρ1 => puts ρ1 is svs | none => none) = some ρ' := e
    cases e1 : put ρ j sv with
    | none => rw [e1] at e; cases e
    | some ρ1 =>
      rw [e1] at e
      obtain ⟨E1, R1, hot0⟩ := put_ok E R S e1
      obtain ⟨h1, h2, h3⟩ := puts_run E1 R1 (SvRs.next hot0 a r) e
      exact ⟨by rw [List.length_cons, List.length_cons, h1], h2, h3⟩
/-- a name's list is given away -/
theorem Rel.forget {G H : Hp} {σ : St} {ρ : Rho} (R : Rel G H σ ρ) {j : Nat} {ds : List D} (h : ρ[j]? = some (.own ds)) :
    Ext G H σ ρ G H σ (ρ.set j .un) ∧ Rel G H σ (ρ.set j .un) ∧ ∀ a, σ[j]? = some (some (.ref a)) → ¬ HotAt σ (ρ.set j .un) a := by
  have other : ∀ k w, (ρ.set j .un)[k]? = some w → hot w = true → k ≠ j ∧ ρ[k]? = some w := fun k w h1 h2 => by
    rcases set_at h1 with ⟨_, rfl⟩ | ⟨hk, h1⟩
    · cases h2
    · exact ⟨hk, h1⟩
  refine ⟨⟨Same.refl _, fun _ _ h _ => h, fun _ _ _ h _ => h, fun _ h => h, fun b ⟨k, w, k1, k2, k3⟩ => .inl ⟨k, w, k1, (other k w k2 k3).2, k3⟩, fun k b es k1 k2 => ⟨k1, es, ?_⟩⟩, ⟨R.le, by rw [List.length_set]; exact R.len, fun k o w k1 k2 => ?_, fun k l b w w' k1 k2 k3 l1 l2 l3 => R.sep k l b w w' k1 (other k w k2 k3).2 k3 l1 (other l w' l2 l3).2 l3⟩, fun a ha ⟨k, w, k1, k2, k3⟩ => ?_⟩
  · have hk : j ≠ k := fun z => by subst z; rw [h] at k2; cases k2
    rw [List.getElem?_set_ne hk]; exact k2
  · rcases set_at k2 with ⟨rfl, rfl⟩ | ⟨hk, k2⟩
    · exact .un _
    · exact R.slot k o w k1 k2
  · obtain ⟨hk, k4⟩ := other k w k2 k3
    exact hk (R.sep k j a w _ k1 k4 k3 ha h rfl)
/-- what is returned -/
def tV (c : FT) (e : E) : TE := fun σ H Q => ∃ G ρ sv ρ', Rel G H σ ρ ∧ evo c e ρ = some (sv, ρ') ∧ ∀ v H' G', Ext G H σ ρ G' H' σ ρ' → Rel G' H' σ ρ' → SvT G H σ ρ G' H' σ ρ' v sv → Q v H'
theorem SvR.toT {G0 H0 G H : Hp} {σ0 σ : St} {ρ0 ρ : Rho} {v : V} {sv : SV} (h : SvR G H σ ρ H0 v sv) : SvT G0 H0 σ0 ρ0 G H σ ρ v sv := by
  cases h with
  | val d => exact .val d
  | own h g q n c => exact .own h g q (.inr n) c
section
variable {X : Cx} {c : FT} {e : E} {s a b : S} {e0 : Expr} {pos : Pos} {st : Stmt} {rest : List Stmt}
theorem v_var {j : Nat} (h : PE X e0 (tVar j)) : PE X e0 (tV c (.var j)) := PE.le h fun σ H Q ⟨G, ρ, sv, ρ', R, e, q⟩ => by
  have e : (match rd ρ j with | .own ds => some (.own ds, ρ.set j .un) | _ => ev c (.var j) ρ) = some (sv, ρ') := e
  cases z : rd ρ j with
  | own ds =>
    rw [z] at e
    cases e
    have z2 := rd_get z (by intro z; cases z)
    obtain ⟨o, h1, h2⟩ := R.at z2
    cases h2 with
    | @own p xs _ hH hG hD =>
      obtain ⟨E1, R1, nh⟩ := R.forget z2
      exact ⟨.ref p, h1, q _ H G E1 R1 (.own hH hG hD (.inl ⟨j, _, h1, z2, rfl⟩) (nh p h1))⟩
  | val d =>
    rw [z] at e
    unfold ev at e
    rw [z] at e
    cases e
    obtain ⟨o, h1, h2⟩ := R.at (rd_get z (by intro z; cases z))
    cases h2 with
    | val hd => exact ⟨_, h1, q _ H G Ext.refl R (.val hd)⟩
  | un => rw [z] at e; unfold ev at e; rw [z] at e; cases e
  | row ds => rw [z] at e; unfold ev at e; rw [z] at e; cases e
theorem v_else (hn : isVar e = none) (h : PE X e0 (tE c e)) : PE X e0 (tV c e) := PE.le h fun σ H Q ⟨G, ρ, sv, ρ', R, e1, q⟩ => by
  unfold evo at e1
  rw [hn] at e1
  exact ⟨G, ρ, sv, ρ', R, e1, fun v H' G' E R' S => q v H' G' E R' S.toT⟩
theorem m_nil : PA X [] (tM c .nil) := PA.le pa_nil fun σ H Q ⟨G, ρ, svs, ρ', R, e, q⟩ => by
  unfold evm at e
  cases e
  exact q [] H G Ext.refl R .nil
theorem m_cons {es : E} {es0 : List Expr} (hs : starEach (e0 :: es0) X.env = (false, eval e0 X.env) :: starEach es0 X.env) (h : PE X e0 (tE c e)) (h2 : PA X es0 (tM c es)) : PA X (e0 :: es0) (tM c (.cons e es)) :=
  PA.le (pa_cons h h2 hs) fun σ H Q ⟨G, ρ, svs, ρ', R, e1, q⟩ => by
    unfold evm at e1
    obtain ⟨sv, ρ1, e2, e1⟩ := bd_some e1
    obtain ⟨svs2, ρ2, e3, e1⟩ := bd_some e1
    cases e1
    refine ⟨G, ρ, sv, ρ1, R, e2, fun v H1 G1 E1 R1 S1 => ⟨G1, ρ1, svs2, _, R1, e3, fun vs H2 G2 E2 R2 S2 => ?_⟩⟩
    refine q (v :: vs) H2 G2 (E1.trans E2) R2 (.cons (S1.wait E2) (fun b ds z1 z2 k es k1 k2 => ?_) (S2.older E1.dom))
    have n := S2.at_new k1 k2
    subst z1 z2
    cases S1 with
    | own h1 _ _ _ _ => rw [h1] at n; cases n

/-! ### blocks -/
theorem s_nil : PSs X [] (tS c .skip) := PSs.le pss_nil fun D σ H ⟨G, ρ, o, ρ', R, e, f⟩ => by
  unfold ex at e
  cases e
  exact f σ H G Ext.refl R
theorem s_seq (h1 : PS X st (tS c a)) (h2 : PSs X rest (tS c b)) : PSs X (st :: rest) (tS c (.seq a b)) := PSs.le (pss_cons h1 h2) fun D σ H ⟨G, ρ, o, ρ', R, e, f⟩ => by
  unfold ex at e
  cases e1 : ex c a ρ with
  | none => rw [e1] at e; cases e
  | some p =>
    obtain ⟨o1, ρ1⟩ := p
    rw [e1] at e
    cases o1 with
    | nx => exact ⟨G, ρ, .nx, ρ1, R, e1, fun σ' H' G' E R' => ⟨G', ρ1, o, ρ', R', e, f.on E⟩⟩
    | bk => cases e; exact ⟨G, ρ, _, _, R, e1, fun σ' H' G' E R' => f σ' H' G' E R'⟩
    | ct => cases e; exact ⟨G, ρ, _, _, R, e1, fun σ' H' G' E R' => f σ' H' G' E R'⟩
    | rt v => cases e; exact ⟨G, ρ, _, _, R, e1, fun σ' H' G' E R' => f σ' H' G' E R'⟩
theorem s_pass (h : PS X st tNext) : PS X st (tS c .pass) := PS.le h fun D σ H ⟨G, ρ, o, ρ', R, e, f⟩ => by
  unfold ex at e
  cases e
  exact f σ H G Ext.refl R
theorem s_brk : PS X (.Break pos) (tS c .brk) := PS.le ps_break fun D σ H ⟨G, ρ, o, ρ', R, e, f⟩ => by
  unfold ex at e
  cases e
  exact f σ H G Ext.refl R
theorem s_cont : PS X (.Continue pos) (tS c .cont) := PS.le ps_continue fun D σ H ⟨G, ρ, o, ρ', R, e, f⟩ => by
  unfold ex at e
  cases e
  exact f σ H G Ext.refl R
theorem s_never : PS X st (tS c .never) := PS.le ps_never fun D σ H ⟨G, ρ, o, ρ', R, e, f⟩ => by
  unfold ex at e
  cases e
theorem s_retn : PS X (.Return none pos) (tS c .retn) := PS.le ps_retN fun D σ H ⟨G, ρ, o, ρ', R, e, f⟩ => by
  unfold ex at e
  cases e
  exact f σ H G Ext.refl R .non (.val .non)
theorem s_ret (h : PE X e0 (tV c e)) : PS X (.Return (some e0) pos) (tS c (.ret e)) := PS.le (ps_ret h) fun D σ H ⟨G, ρ, o, ρ', R, e1, f⟩ => by
  unfold ex at e1
  obtain ⟨sv, ρ1, e2, e1⟩ := bd_some e1
  cases e1
  exact ⟨G, ρ, sv, _, R, e2, fun v H' G' E R' S => f σ H' G' E R' v S⟩
theorem s_expr (h : PE X e0 (tE c e)) (hs : swapsWith e0 none pos.line X.env = pure false) : PS X (.Expr e0 pos) (tS c (.expr e)) := PS.le (ps_expr h hs) fun D σ H ⟨G, ρ, o, ρ', R, e1, f⟩ => by
  unfold ex at e1
  obtain ⟨sv, ρ1, e2, e1⟩ := bd_some e1
  cases e1
  exact ⟨G, ρ, sv, _, R, e2, fun v H' G' E R' S => f σ H' G' E R'⟩
theorem s_ite {k : E} {k0 : Expr} {p q : List Stmt} (hk : PT X k0 (tT c k)) (ha : PSs X p (tS c a)) (hb : PSs X q (tS c b)) : PS X (.If k0 p q pos) (tS c (.ite k a b)) := PS.le (ps_if hk ha hb) fun D σ H ⟨G, ρ, o, ρ', R, e1, f⟩ => by
  unfold ex at e1
  obtain ⟨sv, ρ1, t, e2, z, e1⟩ := bt_some e1
  refine ⟨G, ρ, sv, t, ρ1, R, e2, z, fun H' G' E R' => ?_⟩
  cases t with
  | true => rw [if_pos rfl] at e1; rw [if_pos rfl]; exact ⟨G', ρ1, o, ρ', R', e1, f.on E⟩
  | false => rw [if_neg Bool.false_ne_true] at e1; rw [if_neg Bool.false_ne_true]; exact ⟨G', ρ1, o, ρ', R', e1, f.on E⟩

/-! ### stores -/
theorem s_set {i : Nat} (h : PS X st (tAsg (tE c e) (gName i))) : PS X st (tS c (.set i e)) := PS.le h fun D σ H ⟨G, ρ, o, ρ', R, e1, f⟩ => by
  unfold ex at e1
  obtain ⟨sv, ρ1, e2, e1⟩ := bd_some e1
  obtain ⟨ρ2, e3, e1⟩ := ob_some e1
  cases e1
  refine ⟨G, ρ, sv, ρ1, R, e2, fun v H' G' E R' S => ?_⟩
  obtain ⟨E2, R2, _⟩ := put_ok E R' S e3
  exact f _ _ _ E2 R2
theorem s_setLc {i : Nat} {el it cond : E} {t : Tg} {vs : List Nat} (hts : ∀ j ∈ slotsT t, j ∈ vs) (h : PS X st (tAsg (tLc (tI c it) (tTg t) (tK c cond) (tD c el) vs) (gName i))) : PS X st (tS c (.set i (.comp el it t cond vs))) :=
  s_set (PS.le h fun D σ H q => comp_rd hts q)
theorem par_rd {is : List Nat} {es : E} {D : Ends} {σ : St} {H : Hp} (h : tS c (.par is es) D σ H) : tM c es σ H fun vs H1 => is.length = vs.length ∧ D.nx (setAll σ is vs) H1 := by
  obtain ⟨G, ρ, o, ρ', R, e1, f⟩ := h
  unfold ex at e1
  obtain ⟨svs, ρ1, e2, e1⟩ := bd_some e1
  obtain ⟨ρ2, e3, e1⟩ := ob_some e1
  cases e1
  refine ⟨G, ρ, svs, ρ1, R, e2, fun vs H1 G1 E1 R1 S1 => ?_⟩
  obtain ⟨h1, h2, h3⟩ := puts_run E1 R1 S1 e3
  exact ⟨h1, f _ _ _ h2 h3⟩
theorem tM.mono {es : E} {σ : St} {H : Hp} {Q Q' : List V → Hp → Prop} (h : tM c es σ H Q) (k : ∀ vs H', Q vs H' → Q' vs H') : tM c es σ H Q' := by
  obtain ⟨G, ρ, svs, ρ', R, e, q⟩ := h
  exact ⟨G, ρ, svs, ρ', R, e, fun vs H' G' E R' S => k _ _ (q vs H' G' E R' S)⟩
theorem s_par2 {i j : Nat} {es : E} (h : PS X st (tPar i j (tM c es))) : PS X st (tS c (.par [i, j] es)) := PS.le h fun D σ H q => by
  refine tM.mono (par_rd q) fun vs H' ⟨h1, h2⟩ => ?_
  match vs, h1, h2 with
  | [v, w], _, h2 => exact ⟨v, w, rfl, h2⟩
theorem s_par3 {i j l : Nat} {es : E} (h : PS X st (tPar3 i j l (tM c es))) : PS X st (tS c (.par [i, j, l] es)) := PS.le h fun D σ H q => by
  refine tM.mono (par_rd q) fun vs H' ⟨h1, h2⟩ => ?_
  match vs, h1, h2 with
  | [u, v, w], _, h2 => exact ⟨u, v, w, rfl, h2⟩
theorem SvRs.side {G H H0 : Hp} {σ : St} {ρ : Rho} {p : Addr} {o : HO} (hp : H p = none) : ∀ {vs : List V} {svs : List SV}, SvRs G H σ ρ H0 vs svs → SvRs G (upd H p o) σ ρ H0 vs svs
  | _, _, .nil => .nil
  | _, _, .cons h a r => .cons (by
      cases h with
      | val d => exact .val d
      | own h1 g q n c => exact .own (by rw [upd_ne (ne_of_none h1 hp)]; exact h1) g q n c) a (SvRs.side hp r)
theorem s_parT {is : List Nat} {es : E} (hz : is.length ≤ sizeLine) (h : PS X st (tAsg (tTup (tM c es)) (gTup X.K is.length (tPuts is)))) : PS X st (tS c (.par is es)) := PS.le h fun D σ H ⟨G, ρ, o, ρ', R, e1, f⟩ => by
  unfold ex at e1
  obtain ⟨svs, ρ1, e2, e1⟩ := bd_some e1
  obtain ⟨ρ2, e3, e1⟩ := ob_some e1
  cases e1
  refine ⟨G, ρ, svs, ρ1, R, e2, fun vs H1 G1 E1 R1 S1 => ?_⟩
  obtain ⟨h1, _, _⟩ := puts_run E1 R1 S1 e3
  refine ⟨by rw [← h1]; exact hz, fun p np => ⟨p, vs, rfl, SqT.of upd_same, h1.symm, G, H, σ, ρ, G1, ρ1, svs, ρ', E1.side (E1.dom p np), R1.side (R1.new np).2 (R1.new np).1, S1.side np, e3, fun σ' E2 R2 _ => f _ _ _ E2 R2⟩⟩
theorem s_unp {is : List Nat} (h : PS X st (tAsg (tD c e) (tTg (.many is)))) : PS X st (tS c (.unp is e)) := PS.le h fun D σ H ⟨G, ρ, o, ρ', R, e1, f⟩ => by
  unfold ex at e1
  obtain ⟨sv, ρ1, d, e2, z, e1⟩ := bz_some e1
  obtain ⟨ρ2, e3, e1⟩ := ob_some e1
  cases e1
  exact ⟨G, ρ, sv, d, ρ1, R, e2, z, fun v H' G' E R' Dv => ⟨G', ρ1, d, ρ', R', Dv, e3, fun σ' E2 R2 _ => f _ _ _ (E.trans E2) R2⟩⟩
theorem s_seti {j : Nat} {ix : E} (h : PS X st (tAsg (tD c e) (gSub (tVar j) (tD c ix) rSetL))) : PS X st (tS c (.seti j ix e)) := PS.le h fun D σ H ⟨G, ρ, o, ρ', R, e1, f⟩ => by
  unfold ex at e1
  obtain ⟨sv, ρ1, d, e2, z, e1⟩ := bz_some e1
  obtain ⟨ds0, e3, e1⟩ := ob_some e1
  obtain ⟨sy, ρ2, y, e4, z2, e1⟩ := bz_some e1
  obtain ⟨ds, e5, e1⟩ := ob_some e1
  cases y with
  | int k =>
    obtain ⟨n, e6, e1⟩ := ob_some e1
    obtain ⟨ρ3, e7, e1⟩ := ob_some e1
    cases e1
    refine ⟨G, ρ, sv, d, ρ1, R, e2, z, fun v H1 G1 E1 R1 D1 => ?_⟩
    obtain ⟨a, xs0, sv0, k1, _⟩ := slotL_at R1 e3
    refine ⟨.ref a, k1, G1, ρ1, sy, .int k, ρ2, R1, e4, z2, fun w H2 G2 E2 R2 D2 => ?_⟩
    cases D2
    obtain ⟨a', xs, sv1, k2, k3, k4, h1, g1, d1⟩ := slotL_at R2 e5
    rw [k1] at k2
    cases k2
    refine ⟨a, xs, k, n, rfl, rfl, h1, by rw [d1.length]; exact e6, ?_⟩
    obtain ⟨E3, R3⟩ := R2.write k1 g1 e7 (Drs.set (D1.mono E2.sub) n d1)
    exact f _ _ _ ((E1.trans E2).trans E3) R3
  | _ => cases e1
theorem s_app {j : Nat} (h : PS X st (tDrop (tBM X.K "list" rAppend (tVar j) (tCons (tD c e) tNil)))) : PS X st (tS c (.app j e)) := PS.le h fun D σ H ⟨G, ρ, o, ρ', R, e1, f⟩ => by
  unfold ex at e1
  obtain ⟨ds0, e3, e1⟩ := ob_some e1
  obtain ⟨sv, ρ1, d, e2, z, e1⟩ := bz_some e1
  obtain ⟨ds, e5, e1⟩ := ob_some e1
  obtain ⟨hz, e1⟩ := ite_ob e1
  obtain ⟨ρ2, e6, e1⟩ := ob_some e1
  cases e1
  obtain ⟨a, xs0, sv0, k1, _, _, h0, _⟩ := slotL_at R e3
  refine ⟨.ref a, k1, (.inl ⟨rfl, xs0, SqL.of h0⟩), G, ρ, sv, d, ρ1, R, e2, z, fun v H1 G1 E1 R1 D1 => ?_⟩
  obtain ⟨a', xs, sv1, k2, k3, k4, h1, g1, d1⟩ := slotL_at R1 e5
  rw [k1] at k2
  cases k2
  obtain ⟨E3, R3⟩ := R1.write k1 g1 e6 (d1.append (.cons D1 .nil))
  exact ⟨a, xs, v, rfl, rfl, h1, by rw [d1.length]; exact okL_le hz, f _ _ _ (E1.trans E3) R3⟩

/-! ### op= -/
def rIp (o : Op2) : TIp := fun x y H Q => ∃ i j k, x = .int i ∧ y = .int j ∧ augO o (.int i) (.int j) = some (.int k) ∧ Q (.int k) H
def notPow : Op2 → Bool
  | .pow => false
  | _ => true
theorem ip_ok (o : Op2) (hn : notPow o = true) : PIp X (opO o) (rIp o) := by
  intro pins s σ H x y v u Q I r1 r2 h
  obtain ⟨i, j, k, rfl, rfl, e, q⟩ := h
  cases o with
  | add => cases e; exact iop_add pins s σ H _ _ v u Q I r1 r2 ⟨i, j, rfl, rfl, q⟩
  | sub => cases e; exact iop_sub pins s σ H _ _ v u Q I r1 r2 ⟨i, j, rfl, rfl, q⟩
  | mul =>
    have e : (match (if (big i && big j) = true then some (SV.val (.int (i * j))) else none) with | some (.val d) => some d | _ => none) = some (PyData.int k) := e
    by_cases hb : (big i && big j) = true
    · rw [if_pos hb] at e
      cases e
      obtain ⟨b1, b2⟩ := and2 hb
      have h1 := big_log b1
      have h2 := big_log b2
      have go : OpR X (inplaceOp .Mult) (rI CMulW fun i j => .int (i * j)) := opI fun _ _ _ _ _ _ _ hc q => imul_int q hc.ok
      exact go pins s σ H _ _ v u Q I r1 r2 ⟨i, j, rfl, rfl, by unfold CMulW; omega, q⟩
    · rw [if_neg hb] at e
      cases e
  | fdiv =>
    have e : (match (if (decide (0 < j) && big j) = true then some (SV.val (.int (i / j))) else none) with | some (.val d) => some d | _ => none) = some (PyData.int k) := e
    by_cases hb : (decide (0 < j) && big j) = true
    · rw [if_pos hb] at e
      cases e
      obtain ⟨b1, b2⟩ := and2 hb
      exact iop_fdivW pins s σ H _ _ v u Q I r1 r2 ⟨i, j, rfl, rfl, ⟨of_decide_eq_true b1, big_log b2⟩, q⟩
    · rw [if_neg hb] at e
      cases e
  | mod =>
    have e : (match (if decide (0 < j) = true then some (SV.val (.int (i % j))) else none) with | some (.val d) => some d | _ => none) = some (PyData.int k) := e
    by_cases hb : decide (0 < j) = true
    · rw [if_pos hb] at e
      cases e
      exact iop_mod pins s σ H _ _ v u Q I r1 r2 ⟨i, j, rfl, rfl, of_decide_eq_true hb, q⟩
    · rw [if_neg hb] at e
      cases e
  | pow => cases hn
theorem isI_is {d : D} (h : isI d = true) : ∃ i, d = .int i := by
  cases d <;> first | exact ⟨_, rfl⟩ | cases h
theorem augO_int {o : Op2} {i j : Int} {w : D} (h : augO o (.int i) (.int j) = some w) : ∃ k, w = .int k := by
  unfold augO at h
  cases o <;> simp only [op2] at h <;> first
    | (cases h; exact ⟨_, rfl⟩)
    | (split at h
       · next e => split at e <;> first | (cases e; cases h; exact ⟨_, rfl⟩) | cases e
       · cases h)
theorem s_aug {i : Nat} {o : Op2} (h : PS X st (tAug i (tD c e) (rIp o))) : PS X st (tS c (.aug i o e)) := PS.le h fun D σ H ⟨G, ρ, o, ρ', R, e1, f⟩ => by
  unfold ex at e1
  obtain ⟨x, e2, e1⟩ := ob_some e1
  obtain ⟨sv, ρ1, zd, e3, z, e1⟩ := bz_some e1
  obtain ⟨hi, e1⟩ := ite_ob e1
  obtain ⟨w, e4, e1⟩ := ob_some e1
  obtain ⟨ρ2, e5, e1⟩ := ob_some e1
  cases e1
  obtain ⟨h1, h2⟩ := and2 hi
  obtain ⟨m, rfl⟩ := isI_is h1
  obtain ⟨n, rfl⟩ := isI_is h2
  obtain ⟨k, rfl⟩ := augO_int e4
  have hx : ρ[i]? = some (.val (.int m)) := by
    unfold slotD at e2
    cases q : rd ρ i with
    | val d => rw [q] at e2; cases e2; exact rd_get q (by intro z; cases z)
    | own ds => rw [q] at e2; cases e2
    | row ds => rw [q] at e2; cases e2
    | un => rw [q] at e2; cases e2
  obtain ⟨ov, k1, k2⟩ := R.at hx
  cases k2 with
  | val D0 =>
    cases D0
    refine ⟨_, k1, G, ρ, sv, .int n, ρ1, R, e3, z, fun v H1 G1 E1 R1 D1 => ?_⟩
    cases D1
    refine ⟨m, n, k, rfl, rfl, e4, ?_⟩
    obtain ⟨E2, R2, _⟩ := put_ok (H0 := H) E1 R1 (.val (.int k)) e5
    exact f _ _ _ E2 R2
theorem s_augi {j : Nat} {ix : E} {o : Op2} (h : PS X st (tAugS (tVar j) (tD c ix) (tD c e) (rIxL X.K) (rIp o) rSetL)) : PS X st (tS c (.augi j ix o e)) := PS.le h fun D σ H ⟨G, ρ, o, ρ', R, e1, f⟩ => by
  unfold ex at e1
  obtain ⟨ds0, e0, e1⟩ := ob_some e1
  obtain ⟨sy, ρ1, y, e2, z, e1⟩ := bz_some e1
  obtain ⟨ds, e3, e1⟩ := ob_some e1
  cases y with
  | int k =>
    obtain ⟨x, e4, e1⟩ := ob_some e1
    obtain ⟨sz, ρ2, zd, e5, z2, e1⟩ := bz_some e1
    obtain ⟨ds2, e6, e1⟩ := ob_some e1
    obtain ⟨hi, e1⟩ := ite_ob e1
    obtain ⟨w, e7, e1⟩ := ob_some e1
    obtain ⟨n, e8, e1⟩ := ob_some e1
    obtain ⟨ρ3, e9, e1⟩ := ob_some e1
    cases e1
    obtain ⟨h1, h2⟩ := and2 hi
    obtain ⟨p, rfl⟩ := isI_is h1
    obtain ⟨q, rfl⟩ := isI_is h2
    obtain ⟨r, rfl⟩ := augO_int e7
    obtain ⟨a, xs0, sv0, k1, _⟩ := slotL_at R e0
    refine ⟨.ref a, k1, G, ρ, sy, .int k, ρ1, R, e2, z, fun v H1 G1 E1 R1 D1 => ?_⟩
    cases D1
    obtain ⟨a', xs, sv1, k2, k3, k4, h1, g1, d1⟩ := slotL_at R1 e3
    rw [k1] at k2
    cases k2
    obtain ⟨xv, x1, x2⟩ := d1.atI e4
    cases x2
    refine ⟨a, xs, k, .int p, rfl, rfl, SqL.of h1, x1, G1, ρ1, sz, .int q, ρ2, R1, e5, z2, fun v H2 G2 E2 R2 D2 => ?_⟩
    cases D2
    obtain ⟨a'', xs2, sv2, k2, k3, k4, h2, g2, d2⟩ := slotL_at R2 e6
    rw [k1] at k2
    cases k2
    refine ⟨p, q, r, rfl, rfl, e7, a, xs2, k, n, rfl, rfl, h2, by rw [d2.length]; exact e8, ?_⟩
    obtain ⟨E3, R3⟩ := R2.write k1 g2 e9 (Drs.set (.int r) n d2)
    exact f _ _ _ ((E1.trans E2).trans E3) R3
  | _ => cases e1

/-! ### loops -/
theorem s_while {k : E} {k0 : Expr} {body : List Stmt} (hp : PassesOwn (model X.prog X.w) X.A X.env X.xe) (hk : PT X k0 (tT c k)) (hb : PSs X body (tS c a)) : PS X (.While k0 body [] pos) (tS c (.while_ k a)) :=
  PS.le (ps_while hp hk hb) fun D σ H ⟨G, ρ, o, ρ', R, e1, f⟩ => by
    unfold ex at e1
    refine ⟨fun m σ1 H1 => ∃ G1 ρ1, Ext G H σ ρ G1 H1 σ1 ρ1 ∧ Rel G1 H1 σ1 ρ1 ∧ whileL (fun ρ1 => bt (ev c k ρ1) fun t ρ2 => some (t, ρ2)) (fun ρ1 => ex c a ρ1) m ρ1 = some (o, ρ'), ⟨fuel, G, ρ, Ext.refl, R, e1⟩, ?_⟩
    rintro m σ1 H1 ⟨G1, ρ1, E1, R1, e2⟩
    cases m with
    | zero => unfold whileL at e2; cases e2
    | succ m =>
      unfold whileL at e2
      cases e3 : (bt (ev c k ρ1) fun t ρ2 => some (t, ρ2)) with
      | none => simp only [e3] at e2; cases e2
      | some p =>
        obtain ⟨t, ρ2⟩ := p
        simp only [e3] at e2
        obtain ⟨sv, ρ3, t2, e4, z, e5⟩ := bt_some e3
        cases e5
        refine ⟨G1, ρ1, sv, t, ρ2, R1, e4, z, fun H2 G2 E2 R2 => ?_⟩
        cases t with
        | false =>
          rw [if_neg Bool.false_ne_true]
          cases e2
          exact f _ _ _ (E1.trans E2) R2
        | true =>
          rw [if_pos rfl]
          cases e6 : ex c a ρ2 with
          | none => simp only [e6] at e2; cases e2
          | some p =>
            obtain ⟨o2, ρ4⟩ := p
            simp only [e6] at e2
            refine ⟨_, fun σ' H' h => h, G2, ρ2, o2, ρ4, R2, e6, fun σ' H' G' E R' => ?_⟩
            have E' := (E1.trans E2).trans E
            cases o2 with
            | nx => exact ⟨m, Nat.lt_succ_self m, G', ρ4, E', R', e2⟩
            | ct => exact ⟨m, Nat.lt_succ_self m, G', ρ4, E', R', e2⟩
            | bk => cases e2; exact f _ _ _ E' R'
            | rt v => cases e2; exact (f _ _ _ E' R').on (E1.trans E2)
theorem s_for {t : Tg} {it : E} {tg iter : Expr} {body : List Stmt} (hp : PassesOwn (model X.prog X.w) X.A X.env X.xe) (hc : X.calm = true) (hi : PI X tg iter (tI c it)) (hg : PG X tg (tTg t)) (hb : PSs X body (tS c a))
    (hs : ∀ x, foldedSetIterable iter X.env x = pure x) : PS X (.For tg iter body [] pos) (tS c (.for_ t it a)) :=
  PS.le (ps_for hp hc hi hg hb hs) fun D σ H ⟨G, ρ, o, ρ', R, e1, f⟩ => by
    unfold ex at e1
    obtain ⟨xs, ρ1, e2, e1⟩ := bd_some e1
    refine ⟨G, ρ, xs, ρ1, R, e2, fun J H1 G1 E1 R1 IR => ?_⟩
    refine ⟨fun i m σ2 H2 => m = xs.length - i ∧ i ≤ xs.length ∧ ∃ G2 ρ2, Ext G1 H1 σ ρ1 G2 H2 σ2 ρ2 ∧ Rel G2 H2 σ2 ρ2 ∧ forL (fun x ρ2 => ob (bindT t x ρ2) fun ρ3 => ex c a ρ3) (xs.drop i) ρ2 = some (o, ρ'),
      ⟨_, rfl, Nat.zero_le _, G1, ρ1, Ext.refl, R1, e1⟩, ?_⟩
    rintro i m σ2 H2 ⟨rfl, hi, G2, ρ2, E2, R2, e3⟩
    have ir := IR i G2 H2 E2.sub R2.le
    by_cases hlt : i < xs.length
    · refine .inr ⟨ir.1 hlt, fun σ' H' => ∃ m', m' < xs.length - i ∧ (m' = xs.length - (i + 1) ∧ i + 1 ≤ xs.length ∧ ∃ G2 ρ2, Ext G1 H1 σ ρ1 G2 H' σ' ρ2 ∧ Rel G2 H' σ' ρ2 ∧ forL (fun x ρ2 => ob (bindT t x ρ2) fun ρ3 => ex c a ρ3) (xs.drop (i + 1)) ρ2 = some (o, ρ')), fun σ' H' h => h, fun x H3 yl => ?_⟩
      have hxi : xs[i]? = some xs[i] := List.getElem?_eq_getElem hlt
      obtain ⟨G3, s1, s2, s3, cl, dx⟩ := ir.2.2 x H3 _ yl hxi
      rw [List.drop_eq_getElem_cons hlt] at e3
      unfold forL at e3
      cases eb : (ob (bindT t xs[i] ρ2) fun ρ3 => ex c a ρ3) with
      | none => simp only [eb] at e3; cases e3
      | some pr =>
        obtain ⟨o2, ρ7⟩ := pr
        simp only [eb] at e3
        obtain ⟨ρ3, e4, eb⟩ := ob_some eb
        have R3 : Rel G3 H3 σ2 ρ2 := R2.grow s1 s2 fun b ys z h => ⟨s3 _ _ h, cl b _ h (R2.hotG z)⟩
        have E3 : Ext G2 H2 σ2 ρ2 G3 H3 σ2 ρ2 := ⟨s1, fun b o h _ => s3 b o h, fun b o h g _ => cl b o h g, fun b h => s3.free h, fun _ h => .inl h, fun _ _ ds h1 h2 => ⟨h1, ds, h2⟩⟩
        refine ⟨G3, ρ2, xs[i], ρ3, R3, dx, e4, fun σ4 E4 R4 w => ⟨G3, ρ3, o2, ρ7, R4, eb, fun σ' H' G' E R' => ?_⟩⟩
        have E' := E2.trans (E3.trans (E4.trans E))
        cases o2 with
        | nx => exact ⟨_, by omega, rfl, hlt, G', ρ7, E', R', e3⟩
        | ct => exact ⟨_, by omega, rfl, hlt, G', ρ7, E', R', e3⟩
        | bk => cases e3; exact f _ _ _ (E1.trans E') R'
        | rt v => cases e3; exact (f _ _ _ (E1.trans E') R').on (E1.trans (E2.trans (E3.trans E4)))
    · have ei : i = xs.length := by omega
      subst ei
      rw [List.drop_length] at e3
      unfold forL at e3
      cases e3
      exact .inl ⟨ir.2.1 rfl, f _ _ _ (E1.trans E2) R2⟩
end
end DP

/-! does a term of ours stand for a program's block? and then its answer is the program's -/
namespace DP
open PySem PySem.Spec PyProof.Rows L2

def fnC (C : Ck) : Bool := decide (C.sc.kind = .function)
theorem kindF {env : Env} (h : env.scope.kind = .function) : env.blockKind = .function := by
  unfold Env.blockKind
  rw [h]
  rfl
/-- is a comprehension's list stored as it is made -/
def swF (sc : Scope) (x : Str) (p : Pos) : Expr → Bool
  | .ListComp _ _ s vp => (sc.names.lookup x == some .local && p.line == vp.line) && !(s.names.any fun (n, k) => n == x && (k == .local || k == .cell))
  | .SetComp _ _ s vp => (sc.names.lookup x == some .local && p.line == vp.line) && !(s.names.any fun (n, k) => n == x && (k == .local || k == .cell))
  | .DictComp _ _ _ s vp => (sc.names.lookup x == some .local && p.line == vp.line) && !(s.names.any fun (n, k) => n == x && (k == .local || k == .cell))
  | _ => false
theorem sw_no {e0 : Expr} {x : Str} {p : Pos} {l : Nat} {env : Env} (hk : env.scope.kind = .function) (h : swF env.scope x p e0 = false) : swapsWith e0 (some (.Name x p)) l env = pure false := by
  have hb := kindF hk
  have hl : env.kindOf x = env.scope.names.lookup x := rfl
  cases e0 with
  | ListComp a b s vp =>
    unfold swapsWith
    simp only [hb, hl, Expr.pos]
    have h : ((env.scope.names.lookup x == some .local && p.line == vp.line) && !(s.names.any fun (n, k) => n == x && (k == .local || k == .cell))) = false := h
    show (pure ((ScopeKind.function == ScopeKind.function && _ && _) && _) : Sem Bool) = pure false
    rw [show (ScopeKind.function == ScopeKind.function) = true from rfl, Bool.true_and, h]
  | SetComp a b s vp =>
    unfold swapsWith
    simp only [hb, hl, Expr.pos]
    have h : ((env.scope.names.lookup x == some .local && p.line == vp.line) && !(s.names.any fun (n, k) => n == x && (k == .local || k == .cell))) = false := h
    show (pure ((ScopeKind.function == ScopeKind.function && _ && _) && _) : Sem Bool) = pure false
    rw [show (ScopeKind.function == ScopeKind.function) = true from rfl, Bool.true_and, h]
  | DictComp a b d s vp =>
    unfold swapsWith
    simp only [hb, hl, Expr.pos]
    have h : ((env.scope.names.lookup x == some .local && p.line == vp.line) && !(s.names.any fun (n, k) => n == x && (k == .local || k == .cell))) = false := h
    show (pure ((ScopeKind.function == ScopeKind.function && _ && _) && _) : Sem Bool) = pure false
    rw [show (ScopeKind.function == ScopeKind.function) = true from rfl, Bool.true_and, h]
  | _ => rfl
def notCmp : Expr → Bool
  | .ListComp _ _ _ _ => false
  | .SetComp _ _ _ _ => false
  | .DictComp _ _ _ _ _ => false
  | _ => true
theorem sw_drop {e0 : Expr} {l : Nat} {env : Env} (h : notCmp e0 = true) : swapsWith e0 none l env = pure false := by
  cases e0 <;> first | rfl | cases h
theorem sw_tup {e0 : Expr} {ts : List Expr} {n : Nat} {p : Pos} {l : Nat} {env : Env} : swapsWithSole [.Tuple ts n p] e0 l env = pure false := by
  cases e0 <;> rfl
theorem sw_sub {e0 o i : Expr} {p : Pos} {l : Nat} {env : Env} : swapsWithSole [.Subscript o i p] e0 l env = pure false := by
  cases e0 <;> rfl
theorem st_sub {e0 o i : Expr} {p : Pos} {env : Env} : swappedStores [.Subscript o i p] e0 env = pure none := by
  cases e0 <;> rfl
def notTup : Expr → Bool
  | .Tuple _ _ _ => false
  | _ => true
theorem st_tup {e0 : Expr} {ts : List Expr} {n : Nat} {p : Pos} {env : Env} (h : notTup e0 = true) : swappedStores [.Tuple ts n p] e0 env = pure none := by
  cases e0 <;> first | rfl | cases h
/-- names that are stored from the right -/
def parS (sc : Scope) (ln : Nat) : List Expr → Bool
  | [] => true
  | .Name x p :: r => (sc.names.lookup x == some .local && p.line == ln) && parS sc ln r
  | _ => false
def starry : Expr → Bool
  | .Starred _ _ => true
  | _ => false
def lineOf (ts : List Expr) : Nat := (ts.head?.map (·.pos.line)).getD 0
theorem st_par2 {x y : Str} {px py pt p2 : Pos} {a b : Expr} {kt k2 : Nat} {env : Env} (hk : env.scope.kind = .function) (hx : env.scope.names.lookup x = some .local) (hy : env.scope.names.lookup y = some .local) (hl : py.line = px.line) (hne : x ≠ y)
    (h1 : starry a = false) (h2 : starry b = false) (hf : [a, b].all (foldedForSure 8) = false) (hc : [a, b].all (constantsAlone 8) = false) : swappedStores [.Tuple [.Name x px, .Name y py] kt pt] (.Tuple [a, b] k2 p2) env = pure (some [x, y]) := by
  have hb := kindF hk
  have lx : env.kindOf x = some .local := hx
  have ly : env.kindOf y = some .local := hy
  have st : ([a, b].any fun | .Starred .. => true | _ => false) = false := by
    have q : ∀ e : Expr, starry e = false → (match e with | .Starred .. => true | _ => false) = false := fun e h => by cases e <;> first | rfl | cases h
    rw [List.any_cons, List.any_cons, q a h1, q b h2]
    rfl
  have nm : ([Expr.Name x px, Expr.Name y py].filterMap fun | .Name id pos => if env.kindOf id == some .local && pos.line == px.line then some id else none | _ => none) = [x, y] := by
    simp [lx, ly, hl]
  have ed : ([x, y].eraseDups.length != [x, y].length) = false := by
    have : (y == x) = false := beq_false_of_ne (Ne.symm hne)
    simp [List.eraseDups, List.eraseDupsBy, List.eraseDupsBy.loop, this]
  unfold swappedStores
  show (if (!(2 == 2 || 2 == 3) || 2 != 2 || env.blockKind != .function) = true then _ else _) = _
  rw [hb, if_neg (by decide)]
  show (if ([a, b].any fun | .Starred .. => true | _ => false) = true then _ else _) = _
  rw [st, if_neg Bool.false_ne_true]
  have key : ∀ (names : List Str), names = [x, y] → (if (names.length != 2 || names.eraseDups.length != names.length) = true then (pure none : Sem (Option (List Str))) else if [a, b].all (foldedForSure 8) = true then pure none else
      (have jp := fun (_ : PUnit) => (pure (some names) : Sem (Option (List Str))); if [a, b].all (constantsAlone 8) = true then (do let r ← unsupported "assign.tuple-of-constant-expressions:order-of-the-stores"; jp r) else jp ())) = pure (some [x, y]) := by
    rintro names rfl
    rw [ed, if_neg (by simp), hf, if_neg Bool.false_ne_true, hc]
    rfl
  exact key _ nm
theorem st_par3 {x y z : Str} {px py pz pt p2 : Pos} {a b c : Expr} {kt k2 : Nat} {env : Env} (hk : env.scope.kind = .function) (hx : env.scope.names.lookup x = some .local) (hy : env.scope.names.lookup y = some .local) (hz : env.scope.names.lookup z = some .local)
    (hl : py.line = px.line) (hl2 : pz.line = px.line) (hne : x ≠ y) (hne2 : x ≠ z) (hne3 : y ≠ z)
    (h1 : starry a = false) (h2 : starry b = false) (h3 : starry c = false) (hf : [a, b, c].all (foldedForSure 8) = false) (hc : [a, b, c].all (constantsAlone 8) = false) : swappedStores [.Tuple [.Name x px, .Name y py, .Name z pz] kt pt] (.Tuple [a, b, c] k2 p2) env = pure (some [x, y, z]) := by
  have hb := kindF hk
  have lx : env.kindOf x = some .local := hx
  have ly : env.kindOf y = some .local := hy
  have lz : env.kindOf z = some .local := hz
  have st : ([a, b, c].any fun | .Starred .. => true | _ => false) = false := by
    have q : ∀ e : Expr, starry e = false → (match e with | .Starred .. => true | _ => false) = false := fun e h => by cases e <;> first | rfl | cases h
    rw [List.any_cons, List.any_cons, List.any_cons, q a h1, q b h2, q c h3]
    rfl
  have nm : ([Expr.Name x px, Expr.Name y py, Expr.Name z pz].filterMap fun | .Name id pos => if env.kindOf id == some .local && pos.line == px.line then some id else none | _ => none) = [x, y, z] := by
    simp [lx, ly, lz, hl, hl2]
  have ed : ([x, y, z].eraseDups.length != [x, y, z].length) = false := by
    have e1 : (y == x) = false := beq_false_of_ne (Ne.symm hne)
    have e2 : (z == x) = false := beq_false_of_ne (Ne.symm hne2)
    have e3 : (z == y) = false := beq_false_of_ne (Ne.symm hne3)
    simp [List.eraseDups, List.eraseDupsBy, List.eraseDupsBy.loop, e1, e2, e3]
  unfold swappedStores
  show (if (!(3 == 2 || 3 == 3) || 3 != 3 || env.blockKind != .function) = true then _ else _) = _
  rw [hb, if_neg (by decide)]
  show (if ([a, b, c].any fun | .Starred .. => true | _ => false) = true then _ else _) = _
  rw [st, if_neg Bool.false_ne_true]
  have key : ∀ (names : List Str), names = [x, y, z] → (if (names.length != 3 || names.eraseDups.length != names.length) = true then (pure none : Sem (Option (List Str))) else if [a, b, c].all (foldedForSure 8) = true then pure none else
      (have jp := fun (_ : PUnit) => (pure (some names) : Sem (Option (List Str))); if [a, b, c].all (constantsAlone 8) = true then (do let r ← unsupported "assign.tuple-of-constant-expressions:order-of-the-stores"; jp r) else jp ())) = pure (some [x, y, z]) := by
    rintro names rfl
    rw [ed, if_neg (by simp), hf, if_neg Bool.false_ne_true, hc]
    rfl
  exact key _ nm
/-- a tuple of names and a tuple, stored from the left -/
def noPar (sc : Scope) (ts vs : List Expr) : Bool := !(ts.length == 2 || ts.length == 3) || vs.length != ts.length || vs.all (foldedForSure 8) || !parS sc (lineOf ts) ts
theorem parS_len {sc : Scope} {env : Env} (hs : env.scope = sc) : ∀ {ts : List Expr} {ln : Nat}, parS sc ln ts = false → (ts.filterMap fun | .Name id pos => if env.kindOf id == some .local && pos.line == ln then some id else none | _ => none).length < ts.length
  | [], _, h => by cases h
  | t :: r, ln, h => by
    have le : ∀ r : List Expr, (r.filterMap fun | .Name id pos => if env.kindOf id == some .local && pos.line == ln then some id else none | _ => none).length ≤ r.length := fun r => List.length_filterMap_le _ _
    by_cases hc : ∃ x p, t = .Name x p ∧ (sc.names.lookup x == some .local && p.line == ln) = true
    · obtain ⟨x, p, rfl, hc⟩ := hc
      have h : ((sc.names.lookup x == some .local && p.line == ln) && parS sc ln r) = false := h
      rw [hc, Bool.true_and] at h
      have ih := parS_len hs h
      have hc : (env.kindOf x == some .local && p.line == ln) = true := by subst hs; exact hc
      rw [List.filterMap_cons_some (b := x) (by simp only [hc]; rfl), List.length_cons, List.length_cons]
      omega
    · have e : (match t with | .Name id pos => if env.kindOf id == some .local && pos.line == ln then some id else none | _ => none) = none := by
        cases t with
        | Name x p =>
          by_cases hh : (env.kindOf x == some .local && p.line == ln) = true
          · exact absurd ⟨x, p, rfl, by subst hs; exact hh⟩ hc
          · exact if_neg hh
        | _ => rfl
      have e2 := List.filterMap_cons_none (f := fun (t : Expr) => match t with | .Name id pos => if env.kindOf id == some .local && pos.line == ln then some id else none | _ => none) (l := r) e
      have lr := le r
      refine Nat.lt_of_le_of_lt (Nat.le_of_eq (congrArg List.length e2)) ?_
      rw [List.length_cons]
      exact Nat.lt_succ_of_le lr
theorem st_none {ts vs : List Expr} {kt k2 : Nat} {pt p2 : Pos} {env : Env} (h : noPar env.scope ts vs = true) : swappedStores [.Tuple ts kt pt] (.Tuple vs k2 p2) env = pure none := by
  unfold swappedStores
  show (if (!(ts.length == 2 || ts.length == 3) || vs.length != ts.length || env.blockKind != .function) = true then _ else _) = _
  split
  · rfl
  · next h1 =>
    show (if (vs.any fun | .Starred .. => true | _ => false) = true then _ else _) = _
    split
    · rfl
    · show (if _ then _ else _) = _
      split
      · rfl
      · next h3 =>
        split
        · rfl
        · next h4 =>
          exfalso
          unfold noPar at h
          rw [Bool.or_eq_true, Bool.or_eq_true, Bool.or_eq_true] at h
          rw [Bool.or_eq_true, Bool.or_eq_true] at h1
          rcases h with ((h | h) | h) | h
          · exact h1 (.inl (.inl h))
          · exact h1 (.inl (.inr h))
          · exact h4 h
          · have q := parS_len (env := env) rfl (show parS env.scope (lineOf ts) ts = false by simpa using h)
            rw [Bool.or_eq_true] at h3
            exact h3 (.inl (bne_iff_ne.mpr (Nat.ne_of_lt q)))
end DP

/-! blocks and defs: the checker and what it gives -/
namespace DP
open PySem PySem.Spec PyProof.Rows L2

theorem nott {b : Bool} (h : (!b) = true) : b = false := by cases b <;> first | rfl | cases h
def isCompE : E → Bool
  | .comp _ _ _ _ _ => true
  | _ => false
def par2C (C : Ck) (is : List Nat) (ts vs : List Expr) : Bool := match is, ts, vs with
  | [i, j], [.Name x px, .Name y py], [a, b] => decide (C.N[i]? = some x) && decide (C.N[j]? = some y) && decide (i ≠ j) && decide (x ≠ y) && decide (C.sc.names.lookup x = some .local) && decide (C.sc.names.lookup y = some .local) && decide (py.line = px.line) &&
      !([a, b].all (foldedForSure 8)) && !([a, b].all (constantsAlone 8))
  | _, _, _ => false
def par3C (C : Ck) (is : List Nat) (ts vs : List Expr) : Bool := match is, ts, vs with
  | [i, j, l], [.Name x px, .Name y py, .Name z pz], [a, b, d] => (decide (C.N[i]? = some x) && decide (C.N[j]? = some y) && decide (C.N[l]? = some z)) && (decide (i ≠ j) && decide (i ≠ l) && decide (j ≠ l)) && (decide (x ≠ y) && decide (x ≠ z) && decide (y ≠ z)) &&
      (decide (C.sc.names.lookup x = some .local) && decide (C.sc.names.lookup y = some .local) && decide (C.sc.names.lookup z = some .local)) && (decide (py.line = px.line) && decide (pz.line = px.line)) &&
      !([a, b, d].all (foldedForSure 8)) && !([a, b, d].all (constantsAlone 8))
  | _, _, _ => false
mutual
def chkS (C : Ck) : S → Stmt → Bool
  | .set i e, st => (match st with | .Assign [.Name x p] e0 _ => stoC C i x && chkE C e e0 && fnC C && (!swF C.sc x p e0 || isCompE e) | _ => false)
  | .par is es, st => (match st with | .Assign [.Tuple ts _ _] (.Tuple vs _ _) _ => chkA C es vs && fnC C && (par2C C is ts vs || par3C C is ts vs || (noPar C.sc ts vs && namesC C is ts && okL is.length)) | _ => false)
  | .unp is e, st => (match st with | .Assign [.Tuple ts _ _] e0 _ => namesC C is ts && notTup e0 && chkE C e e0 | _ => false)
  | .seti j ix e, st => (match st with | .Assign [.Subscript (.Name x _) i0 _] e0 _ => varC C j x && notSl i0 && chkE C ix i0 && chkE C e e0 | _ => false)
  | .augi j ix o e, st => (match st with | .AugAssign (.Subscript (.Name x _) i0 _) op e0 _ => varC C j x && notSl i0 && opC o op && notPow o && chkE C ix i0 && chkE C e e0 | _ => false)
  | .aug i o e, st => (match st with | .AugAssign (.Name x _) op e0 _ => stoC C i x && opC o op && notPow o && chkE C e e0 | _ => false)
  | .app j e, st => (match st with | .Expr (.Call (.Attribute (.Name x _) nm ap) [a0] [] cp) _ => varC C j x && decide (nm = Str.ofString "append") && (ap.endLine == cp.line) && chkE C e a0 | _ => false)
  | .expr e, st => (match st with | .Expr e0 _ => chkE C e e0 && notCmp e0 | _ => false)
  | .for_ t it b, st => (match st with | .For tg iter body [] _ => chkI C it tg iter && tgC C t tg && notSet iter && chkL C b body | _ => false)
  | .while_ k b, st => (match st with | .While k0 body [] _ => chkE C k k0 && tstE k && chkL C b body | _ => false)
  | .ite k a b, st => (match st with | .If k0 p q _ => chkE C k k0 && tstE k && chkL C a p && chkL C b q | _ => false)
  | .ret e, st => (match st with | .Return (some e0) _ => chkE C e e0 | _ => false)
  | .retn, st => (match st with | .Return none _ => true | _ => false)
  | .pass, st => (match st with | .Pass _ => true | .Expr (.Constant (.str _) _ _) _ => true | _ => false)
  | .brk, st => (match st with | .Break _ => true | _ => false)
  | .cont, st => (match st with | .Continue _ => true | _ => false)
  | .never, _ => true
  | .skip, _ => false
  | .seq _ _, _ => false
def chkL (C : Ck) : S → List Stmt → Bool
  | .skip, sts => (match sts with | [] => true | _ => false)
  | .seq a b, sts => (match sts with | st :: r => chkS C a st && chkL C b r | _ => false)
  | _, _ => false
end
section
variable {c : FT} {k : Nat}
theorem sM : ∀ (es : E) (C : Ck) (X : Cx) (es0 : List Expr), Ok c k C X → chkA C es es0 = true → PA X es0 (tM c es)
  | .nil, C, X, es0, ok, h => by
    unfold chkA at h
    split at h
    · exact m_nil
    · cases h
  | .cons e es, C, X, es0, ok, h => by
    unfold chkA at h
    split at h
    · obtain ⟨h1, h2⟩ := and2 h
      exact m_cons (chk_star h1 _ _) (sE e C X _ ok h1) (sM es C X _ ok h2)
    · cases h
  | .var _, _, _, _, _, h => by unfold chkA at h; cases h
  | .non, _, _, _, _, h => by unfold chkA at h; cases h
  | .bl _, _, _, _, _, h => by unfold chkA at h; cases h
  | .int _, _, _, _, _, h => by unfold chkA at h; cases h
  | .str _, _, _, _, _, h => by unfold chkA at h; cases h
  | .op _ _ _, _, _, _, _, h => by unfold chkA at h; cases h
  | .neg _, _, _, _, _, h => by unfold chkA at h; cases h
  | .not _, _, _, _, _, h => by unfold chkA at h; cases h
  | .and _ _, _, _, _, _, h => by unfold chkA at h; cases h
  | .or _ _, _, _, _, _, h => by unfold chkA at h; cases h
  | .ife _ _ _, _, _, _, _, h => by unfold chkA at h; cases h
  | .isn _, _, _, _, _, h => by unfold chkA at h; cases h
  | .isnt _, _, _, _, _, h => by unfold chkA at h; cases h
  | .cmp _ _ _, _, _, _, _, h => by unfold chkA at h; cases h
  | .chain _ _ _ _ _, _, _, _, _, h => by unfold chkA at h; cases h
  | .tup _, _, _, _, _, h => by unfold chkA at h; cases h
  | .lst _, _, _, _, _, h => by unfold chkA at h; cases h
  | .idx _ _, _, _, _, _, h => by unfold chkA at h; cases h
  | .slice _ _ _, _, _, _, _, h => by unfold chkA at h; cases h
  | .rev _, _, _, _, _, h => by unfold chkA at h; cases h
  | .comp _ _ _ _ _, _, _, _, _, h => by unfold chkA at h; cases h
  | .call _ _, _, _, _, _, h => by unfold chkA at h; cases h
  | .callr _ _ _, _, _, _, _, h => by unfold chkA at h; cases h
  | .isi _ _, _, _, _, _, h => by unfold chkA at h; cases h
  | .isi2 _ _ _, _, _, _, _, h => by unfold chkA at h; cases h
  | .blt1 _ _, _, _, _, _, h => by unfold chkA at h; cases h
  | .blt2 _ _ _, _, _, _, _, h => by unfold chkA at h; cases h
  | .lrng _, _, _, _, _, h => by unfold chkA at h; cases h
  | .meth _ _ _, _, _, _, _, h => by unfold chkA at h; cases h
  | .seq _, _, _, _, _, h => by unfold chkA at h; cases h
  | .rng1 _, _, _, _, _, h => by unfold chkA at h; cases h
  | .rng2 _ _, _, _, _, _, h => by unfold chkA at h; cases h
  | .enum _, _, _, _, _, h => by unfold chkA at h; cases h
  | .zip _ _, _, _, _, _, h => by unfold chkA at h; cases h
theorem fold_no {iter : Expr} (h : notSet iter = true) (env : Env) (x : Value) : foldedSetIterable iter env x = pure x := by
  cases iter <;> first | rfl | cases h
theorem Ok.stoL {C : Ck} {X : Cx} (ok : Ok c k C X) {x : Str} {i : Nat} (h : stoC C i x = true) : X.N.Nodup ∧ X.N[i]? = some x ∧ Loc X.env.scope x ∧ (X.fn x = true ∨ X.env.scope.names.lookup x = some .local) := by
  unfold stoC at h
  rw [Bool.and_eq_true] at h
  have h1 : X.N[i]? = some x := by rw [ok.N]; exact of_decide_eq_true h.1
  have nd : X.N.Nodup := by rw [ok.N]; exact ok.nd
  have h2 := h.2
  split at h2
  · next e => exact ⟨nd, h1, .inl (by rw [ok.sc]; exact e), .inr (by rw [ok.sc]; exact e)⟩
  · next e => exact ⟨nd, h1, .inr (by rw [ok.sc]; exact e), .inl (by rw [ok.fnb]; exact h2)⟩
  · cases h2
theorem augSt_no {i0 : Expr} (h : notSl i0 = true) (ov iv new : Value) : augStore i0 ov iv new = (do holding [new, ov, iv] (setItem ov iv new); release [new, ov, iv] []; pure .next) := by
  cases i0 <;> first | rfl | cases h
theorem asg_no {o i0 : Expr} {pos : Pos} {env : Env} (h : notSl i0 = true) (v : Value) : assign (.Subscript o i0 pos) env v = (do
      let ov ← holding [v] (eval o env)
      let iv ← holding [v, ov] (eval i0 env)
      standAt pos
      holding [v, ov, iv] (setItem ov iv v)
      release [v, ov, iv] []) := by
  cases i0 <;> first | rfl | cases h
mutual
theorem sS : ∀ (s : S) (C : Ck) (X : Cx) (st : Stmt), Ok c k C X → PassesOwn (model X.prog X.w) X.A X.env X.xe → chkS C s st = true → PS X st (tS c s)
  | .set i e, C, X, st, ok, hp, h => by
    unfold chkS at h
    split at h
    · next x p e0 pos =>
      obtain ⟨h0, h3, h4⟩ := and3 h
      obtain ⟨h1, h2⟩ := and2 h0
      obtain ⟨nd, hi, hx, hf⟩ := ok.stoL h1
      have hk : X.env.scope.kind = .function := by rw [ok.sc]; exact of_decide_eq_true h3
      by_cases hs : swF C.sc x p e0 = false
      · exact s_set (ps_set nd hi hx (sE e C X _ ok h2) (sw_no hk (by rw [ok.sc]; exact hs)) hf)
      · have hs1 : swF C.sc x p e0 = true := by cases q : swF C.sc x p e0 with | true => rfl | false => exact absurd q hs
        rw [hs1] at h4
        have h4 : isCompE e = true := h4
        cases e with
        | comp el it t cond vs =>
          unfold chkE at h2
          split at h2
          · next el0 tg iter ifs scope cp =>
            obtain ⟨h0, h6, h7⟩ := and3 h2
            obtain ⟨h0, h4, h5⟩ := and3 h0
            obtain ⟨h8, h9, h10⟩ := and3 h0
            have eo : (ownC C vs).map (·.2) = vs := by
              unfold ownC
              rw [List.map_map]
              exact List.map_id vs
            have hb : BlkOk X.N X.env.scope scope (ownC C vs) := by rw [ok.N, ok.sc]; exact blkOk_by h8
            have hs1 : ((C.sc.names.lookup x == some .local && p.line == cp.line) && !(scope.names.any fun (n, k) => n == x && (k == .local || k == .cell))) = true := hs1
            obtain ⟨g0, g3⟩ := and2 hs1
            obtain ⟨g1, g2⟩ := and2 g0
            have hyl : X.env.scope.names.lookup x = some .local := by rw [ok.sc]; exact beq_iff_eq.mp g1
            have go := ps_setLc (X := X) (pos := cp) (spos := pos) (py := p) ok.calm nd hi hyl (sw_true hk hyl g2 (by simpa using g3)) (sI it C X _ _ ok h5) hb (fun s H a cl fp => (ok.blk (scope := scope) s H a cl fp).tg h9)
              (tt := tK c cond) (ifs := ifs) (fun s H a cl fp => ?_) (fun s H a cl fp => sD (sE el _ _ _ (ok.blk (scope := scope) s H a cl fp) h6)) (fun x => ?_)
            · rw [eo] at go
              exact s_setLc (fun j hj => of_decide_eq_true (List.all_eq_true.mp h10 j hj)) go
            · split at h7
              · exact k_none h7
              · obtain ⟨h8, h9, h10⟩ := and3 h7
                exact k_some (by simpa using h8) (sT cond _ _ _ (ok.blk (scope := scope) s H a cl fp) h10 h9)
              · cases h7
            · cases iter <;> first | rfl | cases h4
          · cases h2
        | _ => cases h4
    · cases h
  | .par is es, C, X, st, ok, hp, h => by
    unfold chkS at h
    split at h
    · next ts kt pt vs k2 p2 pos =>
      obtain ⟨h1, h2, h3⟩ := and3 h
      have hk : X.env.scope.kind = .function := by rw [ok.sc]; exact of_decide_eq_true h2
      have nd : X.N.Nodup := by rw [ok.N]; exact ok.nd
      have hM := sM es C X _ ok h1
      rw [Bool.or_eq_true, Bool.or_eq_true] at h3
      rcases h3 with (h3 | h3) | h3
      · unfold par2C at h3
        split at h3
        · next i j x px y py a b =>
          obtain ⟨h3, g8, g9⟩ := and3 h3
          obtain ⟨h3, g6, g7⟩ := and3 h3
          obtain ⟨h3, g4, g5⟩ := and3 h3
          obtain ⟨g1, g2, g3⟩ := and3 h3
          have a1 : starry a = false ∧ starry b = false := by
            cases es with
            | cons e1 es =>
              unfold chkA at h1
              obtain ⟨q1, q2⟩ := and2 h1
              cases es with
              | cons e2 es =>
                unfold chkA at q2
                obtain ⟨q3, q4⟩ := and2 q2
                exact ⟨by cases a <;> first | rfl | (rw [not_star] at q1; cases q1), by cases b <;> first | rfl | (rw [not_star] at q3; cases q3)⟩
              | nil => unfold chkA at q2; cases q2
              | _ => unfold chkA at q2; cases q2
            | _ => unfold chkA at h1; cases h1
          have lx : X.env.scope.names.lookup x = some .local := by rw [ok.sc]; exact of_decide_eq_true g5
          have ly : X.env.scope.names.lookup y = some .local := by rw [ok.sc]; exact of_decide_eq_true g6
          exact s_par2 (ps_par ok.calm nd (by rw [ok.N]; exact of_decide_eq_true g1) (by rw [ok.N]; exact of_decide_eq_true g2) (of_decide_eq_true g3) lx ly hM
            (st_par2 hk lx ly (of_decide_eq_true g7) (of_decide_eq_true g4) a1.1 a1.2 (nott g8) (nott g9)) sw_tup)
        · cases h3
      · unfold par3C at h3
        split at h3
        · next i j l x px y py z pz a b d =>
          obtain ⟨h3, g8, g9⟩ := and3 h3
          obtain ⟨h3, g6, g7⟩ := and3 h3
          obtain ⟨h3, g4, g5⟩ := and3 h3
          obtain ⟨n1, n2, n3⟩ := and3 h3
          obtain ⟨d1, d2, d3⟩ := and3 g4
          obtain ⟨e1, e2, e3⟩ := and3 g5
          obtain ⟨l1, l2, l3⟩ := and3 g6
          obtain ⟨m1, m2⟩ := and2 g7
          have a1 : starry a = false ∧ starry b = false ∧ starry d = false := by
            cases es with
            | cons e1 es =>
              unfold chkA at h1
              obtain ⟨q1, q2⟩ := and2 h1
              cases es with
              | cons e2 es =>
                unfold chkA at q2
                obtain ⟨q3, q4⟩ := and2 q2
                cases es with
                | cons e3 es =>
                  unfold chkA at q4
                  obtain ⟨q5, q6⟩ := and2 q4
                  exact ⟨by cases a <;> first | rfl | (rw [not_star] at q1; cases q1), by cases b <;> first | rfl | (rw [not_star] at q3; cases q3), by cases d <;> first | rfl | (rw [not_star] at q5; cases q5)⟩
                | _ => unfold chkA at q4; cases q4
              | _ => unfold chkA at q2; cases q2
            | _ => unfold chkA at h1; cases h1
          have lx : X.env.scope.names.lookup x = some .local := by rw [ok.sc]; exact of_decide_eq_true l1
          have ly : X.env.scope.names.lookup y = some .local := by rw [ok.sc]; exact of_decide_eq_true l2
          have lz : X.env.scope.names.lookup z = some .local := by rw [ok.sc]; exact of_decide_eq_true l3
          exact s_par3 (ps_par3 ok.calm nd (by rw [ok.N]; exact of_decide_eq_true n1) (by rw [ok.N]; exact of_decide_eq_true n2) (by rw [ok.N]; exact of_decide_eq_true n3) (of_decide_eq_true d1) (of_decide_eq_true d2) (of_decide_eq_true d3) lx ly lz hM
            (st_par3 hk lx ly lz (of_decide_eq_true m1) (of_decide_eq_true m2) (of_decide_eq_true e1) (of_decide_eq_true e2) (of_decide_eq_true e3) a1.1 a1.2.1 a1.2.2 (nott g8) (nott g9)) sw_tup)
        · cases h3
      · obtain ⟨h4, h5, h6⟩ := and3 h3
        obtain ⟨n1, n2, n3⟩ := ok.names h5
        exact s_parT (Nat.le_of_lt (okL_le h6)) (ps_asg (pe_tup hM) (pg_tup ok.calm n1 n2 n3) sw_tup (st_none (by rw [ok.sc]; exact h4)) rfl)
    · cases h
  | .unp is e, C, X, st, ok, hp, h => by
    unfold chkS at h
    split at h
    · next ts kt pt e0 pos =>
      obtain ⟨h1, h2, h3⟩ := and3 h
      exact s_unp (ps_asg (sD (sE e C X _ ok h3)) (ok.tg (t := .many is) (e := .Tuple ts kt pt) h1) sw_tup (st_tup h2) rfl)
    · cases h
  | .seti j ix e, C, X, st, ok, hp, h => by
    unfold chkS at h
    split at h
    · obtain ⟨h0, h3, h4⟩ := and3 h
      obtain ⟨h1, h2⟩ := and2 h0
      exact s_seti (ps_asg (sD (sE e C X _ ok h4)) (pg_sub (ok.var h1) (sD (sE ix C X _ ok h3)) set_list (fun v => asg_no h2 v)) sw_sub st_sub rfl)
    · cases h
  | .augi j ix o e, C, X, st, ok, hp, h => by
    unfold chkS at h
    split at h
    · obtain ⟨h0, h5, h6⟩ := and3 h
      obtain ⟨h0, h3, h4⟩ := and3 h0
      obtain ⟨h1, h2⟩ := and2 h0
      have eq := opC_is h3
      subst eq
      exact s_augi (ps_augS (ok.var h1) (sD (sE ix C X _ ok h5)) get_list (sD (sE e C X _ ok h6)) (ip_ok o h4) set_list (fun ov iv new => augSt_no h2 ov iv new))
    · cases h
  | .aug i o e, C, X, st, ok, hp, h => by
    unfold chkS at h
    split at h
    · obtain ⟨h0, h3, h4⟩ := and3 h
      obtain ⟨h1, h2⟩ := and2 h0
      have eq := opC_is h2
      subst eq
      obtain ⟨nd, hi, hx, hf⟩ := ok.stoL h1
      exact s_aug (ps_aug nd hi hx (sD (sE e C X _ ok h4)) (ip_ok o h3) hf)
    · cases h
  | .app j e, C, X, st, ok, hp, h => by
    unfold chkS at h
    split at h
    · obtain ⟨h0, h3, h4⟩ := and3 h
      obtain ⟨h1, h2⟩ := and2 h0
      have eq := of_decide_eq_true h2
      subst eq
      exact s_app (ps_expr (pe_bm PySem.F.plainAttrs_list PySem.F.slot_list_append PySem.F.type_list_append mt_append (ok.var h1) (a_one (chk_star h4 _ _) (sD (sE e C X _ ok h4))) rfl (by rw [chk_star h4]; rfl) h3 (chk_star h4 _ _) rfl) rfl)
    · cases h
  | .expr e, C, X, st, ok, hp, h => by
    unfold chkS at h
    split at h
    · obtain ⟨h1, h2⟩ := and2 h
      exact s_expr (sE e C X _ ok h1) (sw_drop h2)
    · cases h
  | .for_ t it b, C, X, st, ok, hp, h => by
    unfold chkS at h
    split at h
    · obtain ⟨h0, h3, h4⟩ := and3 h
      obtain ⟨h1, h2⟩ := and2 h0
      exact s_for hp ok.calm (sI it C X _ _ ok h1) (ok.tg h2) (sL b C X _ ok hp h4) (fun x => fold_no h3 _ _)
    · cases h
  | .while_ k0 b, C, X, st, ok, hp, h => by
    unfold chkS at h
    split at h
    · obtain ⟨h1, h2, h3⟩ := and3 h
      exact s_while hp (sT k0 C X _ ok h1 h2) (sL b C X _ ok hp h3)
    · cases h
  | .ite k0 a b, C, X, st, ok, hp, h => by
    unfold chkS at h
    split at h
    · obtain ⟨h0, h3, h4⟩ := and3 h
      obtain ⟨h1, h2⟩ := and2 h0
      exact s_ite (sT k0 C X _ ok h1 h2) (sL a C X _ ok hp h3) (sL b C X _ ok hp h4)
    · cases h
  | .ret e, C, X, st, ok, hp, h => by
    unfold chkS at h
    split at h
    · cases q : isVar e with
      | none => exact s_ret (v_else q (sE e C X _ ok h))
      | some j =>
        cases e with
        | var i =>
          unfold chkE at h
          split at h
          · exact s_ret (v_var (ok.var h))
          · cases h
        | _ => cases q
    · cases h
  | .retn, C, X, st, ok, hp, h => by
    unfold chkS at h
    split at h
    · exact s_retn
    · cases h
  | .pass, C, X, st, ok, hp, h => by
    unfold chkS at h
    split at h
    · exact s_pass ps_pass
    · exact s_pass ps_doc
    · cases h
  | .brk, C, X, st, ok, hp, h => by
    unfold chkS at h
    split at h
    · exact s_brk
    · cases h
  | .cont, C, X, st, ok, hp, h => by
    unfold chkS at h
    split at h
    · exact s_cont
    · cases h
  | .never, C, X, st, ok, hp, h => s_never
  | .skip, C, X, st, ok, hp, h => by unfold chkS at h; cases h
  | .seq _ _, C, X, st, ok, hp, h => by unfold chkS at h; cases h
theorem sL : ∀ (s : S) (C : Ck) (X : Cx) (sts : List Stmt), Ok c k C X → PassesOwn (model X.prog X.w) X.A X.env X.xe → chkL C s sts = true → PSs X sts (tS c s)
  | .skip, C, X, sts, ok, hp, h => by
    unfold chkL at h
    split at h
    · exact s_nil
    · cases h
  | .seq a b, C, X, sts, ok, hp, h => by
    unfold chkL at h
    split at h
    · obtain ⟨h1, h2⟩ := and2 h
      exact s_seq (sS a C X _ ok hp h1) (sL b C X _ ok hp h2)
    · cases h
  | .set _ _, _, _, _, _, _, h => by unfold chkL at h; cases h
  | .par _ _, _, _, _, _, _, h => by unfold chkL at h; cases h
  | .unp _ _, _, _, _, _, _, h => by unfold chkL at h; cases h
  | .seti _ _ _, _, _, _, _, _, h => by unfold chkL at h; cases h
  | .augi _ _ _ _, _, _, _, _, _, h => by unfold chkL at h; cases h
  | .aug _ _ _, _, _, _, _, _, h => by unfold chkL at h; cases h
  | .app _ _, _, _, _, _, _, h => by unfold chkL at h; cases h
  | .expr _, _, _, _, _, _, h => by unfold chkL at h; cases h
  | .for_ _ _ _, _, _, _, _, _, h => by unfold chkL at h; cases h
  | .while_ _ _, _, _, _, _, _, h => by unfold chkL at h; cases h
  | .ite _ _ _, _, _, _, _, _, h => by unfold chkL at h; cases h
  | .ret _, _, _, _, _, _, h => by unfold chkL at h; cases h
  | .retn, _, _, _, _, _, h => by unfold chkL at h; cases h
  | .pass, _, _, _, _, _, h => by unfold chkL at h; cases h
  | .brk, _, _, _, _, _, h => by unfold chkL at h; cases h
  | .cont, _, _, _, _, _, h => by unfold chkL at h; cases h
  | .never, _, _, _, _, _, h => by unfold chkL at h; cases h
end
end
end DP

/-! defs and a law's end -/
namespace DP
open PySem PySem.Spec PyProof.Rows L2

def scoC (N P : List Str) (sc : Scope) : Bool := (decide (sc.kind = .function) && !sc.isCoroutine && !sc.isGenerator) && (decide N.Nodup && decide (N.take P.length = P)) && (P.all (fun x => decide (sc.names.lookup x = some .local) || decide (sc.names.lookup x = some .cell)) && sc.names.all fun y => !decide (y.2 = .free))
theorem sco_ok {N P : List Str} {sc : Scope} (h : scoC N P sc = true) : FnScope N P sc := by
  obtain ⟨h1, h2, h3⟩ := and3 h
  obtain ⟨a1, a2, a3⟩ := and3 h1
  obtain ⟨b1, b2⟩ := and2 h2
  obtain ⟨c1, c2⟩ := and2 h3
  refine ⟨of_decide_eq_true a1, nott a2, nott a3, of_decide_eq_true b1, of_decide_eq_true b2, fun x hx => ?_, fun y hy => of_decide_eq_false (nott (List.all_eq_true.mp c2 y hy))⟩
  have z := List.all_eq_true.mp c1 x hx
  rw [Bool.or_eq_true] at z
  rcases z with z | z
  · exact .inl (of_decide_eq_true z)
  · exact .inr (of_decide_eq_true z)
/-- a def: the name it is called by, its own name, its text, its names, its term -/
structure Ent where
  id : Nat
  x : Str
  q : Str
  st : Stmt
  N : List Str
  fn : Fn
abbrev Ent.ps (e : Ent) : List Str := e.N.take e.fn.np
structure Tab where
  es : List Ent
  cst : List (Str × D)
  bl : List Str
def Tab.fid (T : Tab) (x : Str) : Option (Nat × Bool) := (T.es.find? fun e => e.x == x).map fun e => (e.id, e.fn.io)
def Tab.fn (T : Tab) (f : Nat) : Option Fn := (T.es.find? fun e => e.id == f).map (·.fn)
def Tab.ck (T : Tab) (e : Ent) : Ck := ⟨e.N, defScope e.st, fun _ => true, fun x => T.cst.lookup x, T.fid, T.bl⟩
def Tab.entC (T : Tab) (e : Ent) : Bool := scoC e.N e.ps (defScope e.st) && decide (e.fn.np ≤ e.N.length) && decide (e.N.length = e.fn.nl) && (!e.fn.io || decide (0 < e.fn.np)) && chkL (T.ck e) e.fn.body (defBody e.st)
def Tab.ok (T : Tab) : Bool := T.es.all T.entC && decide ((T.es.map (·.id)).Nodup)
structure EntOk (K : PySem.W.Frag) (mg : Str → Option Value) (e : Ent) : Prop where
  ex : ∃ fa fd, mg e.x = some (.ref fa) ∧ Fun K e.q e.q e.st fa fd ∧ Binds K fd e.ps []
def cstD : D → Value → Prop
  | .int i, u => ∃ t, u = .int i t
  | .str x, u => ∃ t, u = .str x t
  | _, _ => False
structure TabOk (T : Tab) (K : PySem.W.Frag) (mg : Str → Option Value) : Prop where
  es : ∀ e ∈ T.es, EntOk K mg e
  cst : ∀ p ∈ T.cst, ∃ u, mg p.1 = some u ∧ cstD p.2 u
  bl : ∀ x ∈ T.bl, mg x = none
section
variable {P : Program} {w : World} {K : PySem.W.Frag} {mg : Str → Option Value} {base : Heap} {T : Tab}
theorem start_at {N : List Str} {vs : List V} {j : Nat} {o : Option V} (h : (L2.start N vs)[j]? = some o) : (∃ v, vs[j]? = some v ∧ o = some v) ∨ (vs.length ≤ j ∧ o = none) := by
  unfold L2.start at h
  by_cases hj : j < vs.length
  · rw [List.getElem?_append_left (by rw [List.length_map]; exact hj), List.getElem?_map, List.getElem?_eq_getElem hj] at h
    exact .inl ⟨vs[j], List.getElem?_eq_getElem hj, (Option.some.inj h).symm⟩
  · rw [List.getElem?_append_right (by rw [List.length_map]; omega)] at h
    exact .inr ⟨by omega, (List.mem_replicate.mp (List.mem_of_getElem? h)).2⟩
theorem start_len {N : List Str} {vs : List V} (h : vs.length ≤ N.length) : (L2.start N vs).length = N.length := by
  unfold L2.start
  rw [List.length_append, List.length_map, List.length_replicate]
  omega
theorem ment_at {ds : List D} {n j : Nat} {sv : SV} (h : (ds.map SV.val ++ List.replicate n SV.un)[j]? = some sv) : (∃ d, ds[j]? = some d ∧ sv = .val d) ∨ (ds.length ≤ j ∧ sv = .un) := by
  by_cases hj : j < ds.length
  · rw [List.getElem?_append_left (by rw [List.length_map]; exact hj), List.getElem?_map, List.getElem?_eq_getElem hj] at h
    exact .inl ⟨ds[j], List.getElem?_eq_getElem hj, (Option.some.inj h).symm⟩
  · rw [List.getElem?_append_right (by rw [List.length_map]; omega)] at h
    exact .inr ⟨by omega, (List.mem_replicate.mp (List.mem_of_getElem? h)).2⟩
/-- at the entry, all parameters read only -/
theorem rel_start {G H : Hp} {N : List Str} {vs : List V} {ds : List D} {n : Nat} (s : Same G H) (r : Drs G vs ds) (hn : vs.length + n = N.length) : Rel G H (L2.start N vs) (ds.map .val ++ List.replicate n .un) ∧ ∀ a, ¬ HotAt (L2.start N vs) (ds.map .val ++ List.replicate n .un) a := by
  have cold : ∀ (j : Nat) (sv : SV), (ds.map SV.val ++ List.replicate n SV.un)[j]? = some sv → hot sv = true → False := fun j sv h1 h2 => by
    rcases ment_at h1 with ⟨d, _, rfl⟩ | ⟨_, rfl⟩ <;> cases h2
  refine ⟨⟨s, ?_, fun j o sv h1 h2 => ?_, fun i j a sv sv' _ h2 h3 => (cold i sv h2 h3).elim⟩, fun a ⟨j, sv, _, h2, h3⟩ => cold j sv h2 h3⟩
  · rw [start_len (by omega), List.length_append, List.length_map, List.length_replicate, ← r.length]
    omega
  · rcases ment_at h2 with ⟨d, k1, rfl⟩ | ⟨_, rfl⟩
    · obtain ⟨v, k2, k3⟩ := r.getD k1
      rcases start_at h1 with ⟨u, k4, rfl⟩ | ⟨k4, _⟩
      · rw [k2] at k4; cases k4; exact .val k3
      · have := (List.getElem?_eq_some_iff.mp k2).1; omega
    · exact .un _
/-- at the entry, the first parameter a list that is changed in place -/
theorem rel_startR {G H : Hp} {N : List Str} {p : Addr} {xs : List V} {row : List D} {vs : List V} {ds : List D} {n : Nat} (s : Same G H) (hp : H p = some (.lst xs)) (gp : G p = none) (rr : Drs G xs row) (r : Drs G vs ds) (hn : vs.length + 1 + n = N.length) :
    Rel G H (L2.start N (.ref p :: vs)) (.row row :: (ds.map .val ++ List.replicate n .un)) ∧ ∀ a, HotAt (L2.start N (.ref p :: vs)) (.row row :: (ds.map .val ++ List.replicate n .un)) a → a = p := by
  have hs : L2.start N (.ref p :: vs) = some (.ref p) :: (vs.map some ++ List.replicate (N.length - (vs.length + 1)) none) := rfl
  have hots : ∀ (j : Nat) (sv : SV), (SV.row row :: (ds.map SV.val ++ List.replicate n SV.un))[j]? = some sv → hot sv = true → j = 0 := fun j sv h1 h2 => by
    cases j with
    | zero => rfl
    | succ j =>
      rw [List.getElem?_cons_succ] at h1
      rcases ment_at h1 with ⟨d, _, rfl⟩ | ⟨_, rfl⟩ <;> cases h2
  refine ⟨⟨s, ?_, fun j o sv h1 h2 => ?_, fun i j a sv sv' _ h2 h3 _ l2 l3 => by rw [hots i sv h2 h3, hots j sv' l2 l3]⟩, fun a ⟨j, sv, h1, h2, h3⟩ => ?_⟩
  · rw [start_len (by rw [List.length_cons]; omega), List.length_cons, List.length_append, List.length_map, List.length_replicate, ← r.length]
    omega
  · cases j with
    | zero =>
      rw [hs] at h1
      cases h1
      cases h2
      exact .row hp gp rr
    | succ j =>
      rw [List.getElem?_cons_succ] at h2
      rw [hs, List.getElem?_cons_succ] at h1
      rcases ment_at h2 with ⟨d, k1, rfl⟩ | ⟨_, rfl⟩
      · obtain ⟨v, k2, k3⟩ := r.getD k1
        have hj := (List.getElem?_eq_some_iff.mp k2).1
        rw [List.getElem?_append_left (by rw [List.length_map]; exact hj), List.getElem?_map, k2] at h1
        cases h1
        exact .val k3
      · exact .un _
  · have e := hots j sv h2 h3
    subst e
    rw [hs] at h1
    cases h1
    rfl
theorem Drs.cons_inv {G : Hp} {v : V} {vs : List V} {ds : List D} (h : Drs G (v :: vs) ds) : ∃ d es, ds = d :: es ∧ Dr G v d ∧ Drs G vs es := by
  cases h with
  | cons a b => exact ⟨_, _, rfl, a, b⟩
theorem outV_cases {o : Out} {sv : SV} (h : outV o = some sv) : (o = .nx ∧ sv = .val .none) ∨ o = .rt sv := by
  cases o with
  | nx => cases h; exact .inl ⟨rfl, rfl⟩
  | rt v => cases h; exact .inr rfl
  | bk => cases h
  | ct => cases h
/-- THE RULE: every def of the table does what the evaluator says -/
theorem tab_run (TO : TabOk T K mg) (hc : T.ok = true) : ∀ (k : Nat) (e : Ent), e ∈ T.es → ∀ fa fd, mg e.x = some (.ref fa) → Fun K e.q e.q e.st fa fd → FnOk P w K mg base CX0 k fa fd e.ps (spF (run T.fn k) e.id e.fn.io) := by
  have hall := (and2 hc).1
  have hnd : (T.es.map (·.id)).Nodup := of_decide_eq_true (and2 hc).2
  have look : ∀ e ∈ T.es, T.fn e.id = some e.fn := fun e he => by
    have main : ∀ l : List Ent, (l.map (·.id)).Nodup → e ∈ l → (l.find? fun d => d.id == e.id) = some e := by
      intro l
      induction l with
      | nil => intro _ h; cases h
      | cons d l ih =>
        intro nd h
        rw [List.map_cons, List.nodup_cons] at nd
        rcases List.mem_cons.mp h with rfl | h
        · exact List.find?_cons_of_pos (beq_self_eq_true _)
        · rw [List.find?_cons_of_neg (by
            intro z
            exact nd.1 (List.mem_map.mpr ⟨e, h, (beq_iff_eq.mp z).symm⟩))]
          exact ih nd.2 h
    unfold Tab.fn
    rw [main _ hnd he]
    rfl
  intro k
  induction k with
  | zero =>
    intro e he fa fd _ _
    have no : ∀ vs H Q E, ¬ spF (run T.fn 0) e.id e.fn.io vs H Q E := fun vs H Q E h => by
      cases hi : e.fn.io with
      | false => rw [hi] at h; obtain ⟨G, ds, sv, r, _, _, z, _⟩ := h; cases z
      | true => rw [hi] at h; obtain ⟨G, a, xs, row, ws, ds, sv, es, _, _, _, _, _, _, z, _⟩ := h; cases z
    exact ⟨fun vs H Q E h => (no vs H Q E h).elim, fun A outer s H args us vs Q E _ _ _ _ h => (no vs H Q E h).elim⟩
  | succ k ih =>
    intro e he fa fd hmg F
    have h := List.all_eq_true.mp hall e he
    unfold Tab.entC at h
    obtain ⟨h0, h4, h5⟩ := and3 h
    obtain ⟨h1, h2, h3⟩ := and3 h0
    have SC : FnScope e.N e.ps (defScope e.st) := sco_ok h1
    have hnp : e.fn.np ≤ e.N.length := of_decide_eq_true h2
    have hnl : e.N.length = e.fn.nl := of_decide_eq_true h3
    have hps : e.ps.length = e.fn.np := by rw [List.length_take]; omega
    have hfn := look e he
    have okX : ∀ (cdv : Value) (A : Around) (outer : List Env) (s : Shared) (H : Hp) (E : XK), Room k (A.deeper (envOfC e.q (defScope e.st) s.heap.objs.size fa cdv)) →
        Ok (run T.fn k) k (T.ck e) (cxOf CX0 P w K mg base e.N e.q (defScope e.st) fa cdv A outer s H E).nox := fun cdv A outer s H E hr =>
      { calm := rfl, N := rfl, sc := rfl, nd := SC.nd, room := hr, fnb := rfl
        cst := fun x d hx => by
          obtain ⟨u, m, z⟩ := TO.cst (x, d) (PySem.mem_of_lookup hx)
          cases d with
          | int i => exact ⟨u, .int i, m, z, fun G => .int i⟩
          | str y => exact ⟨u, .str y, m, z, fun G => .str y⟩
          | _ => exact z.elim
        fn := fun x f io hx => by
          have hx : (T.es.find? fun e => e.x == x).map (fun e => (e.id, e.fn.io)) = some (f, io) := hx
          cases q : T.es.find? fun e => e.x == x with
          | none => rw [q] at hx; cases hx
          | some e2 =>
            rw [q] at hx
            cases hx
            have hm := List.mem_of_find?_eq_some q
            have hx2 : e2.x = x := by
              have z := List.find?_some q
              exact beq_iff_eq.mp z
            obtain ⟨fa2, fd2, m2, F2, B2⟩ := (TO.es e2 hm).ex
            exact ⟨fa2, fd2, e2.ps, by rw [← hx2]; exact m2, F2.kp, B2, ih e2 hm fa2 fd2 m2 F2⟩
        bl := TO.bl }
    cases hi : e.fn.io with
    | false =>
      refine F.ok SC (fun vs H Q E h => ?_) (fun cdv A outer s H vs Q E hr h => ?_)
      · obtain ⟨G, ds, sv, r, s1, D1, e1, q⟩ := h
        have e1 : (ob (T.fn e.id) fun fn => runB (run T.fn k) fn none ds) = some (sv, r) := e1
        rw [hfn] at e1
        have e1 : (ob (start e.fn none ds) fun ρ => bd (ex (run T.fn k) e.fn.body ρ) fun o ρ1 => ob (outV o) fun v => ob (endR e.fn.io ρ1) fun r => some (v, r)) = some (sv, r) := e1
        obtain ⟨ρ, e2, e1⟩ := ob_some e1
        have e2 : (if (!e.fn.io && decide (ds.length = e.fn.np)) = true then some (ds.map SV.val ++ List.replicate (e.fn.nl - e.fn.np) SV.un) else none) = some ρ := e2
        obtain ⟨z, _⟩ := ite_ob e2
        have z2 : ds.length = e.fn.np := of_decide_eq_true (and2 z).2
        rw [hps, D1.length, z2]
      · refine ⟨tS (run T.fn k) e.fn.body, sL e.fn.body (T.ck e) _ _ (okX cdv A outer s H E hr) PassesOwn.never h5, ?_⟩
        obtain ⟨G, ds, sv, r, s1, D1, e1, q⟩ := h
        have e1 : (ob (T.fn e.id) fun fn => runB (run T.fn k) fn none ds) = some (sv, r) := e1
        rw [hfn] at e1
        have e1 : (ob (start e.fn none ds) fun ρ => bd (ex (run T.fn k) e.fn.body ρ) fun o ρ1 => ob (outV o) fun v => ob (endR e.fn.io ρ1) fun r => some (v, r)) = some (sv, r) := e1
        obtain ⟨ρ, e2, e1⟩ := ob_some e1
        have e2 : (if (!e.fn.io && decide (ds.length = e.fn.np)) = true then some (ds.map SV.val ++ List.replicate (e.fn.nl - e.fn.np) SV.un) else none) = some ρ := e2
        obtain ⟨z, e2⟩ := ite_ob e2
        cases e2
        have z2 : ds.length = e.fn.np := of_decide_eq_true (and2 z).2
        obtain ⟨o, ρ1, e3, e1⟩ := bd_some e1
        obtain ⟨v1, e4, e1⟩ := ob_some e1
        obtain ⟨r1, e5, e1⟩ := ob_some e1
        cases e1
        have hl := D1.length
        obtain ⟨R, cold⟩ := rel_start (N := e.N) (n := e.fn.nl - e.fn.np) s1 D1 (by omega)
        have key : ∀ {G' H' : Hp} {σ' : St} {v : V}, Ext G H (L2.start e.N vs) (ds.map .val ++ List.replicate (e.fn.nl - e.fn.np) .un) G' H' σ' ρ1 → Rel G' H' σ' ρ1 → SvV G H G' H' v sv → Q v H' := fun {G' H' σ' v} E' R' V' =>
          q v H' ⟨G', E'.sub, R'.le, fun a o h => E'.keep a o h (cold a), fun a o h g => E'.cold a o h g (cold a), V'⟩
        refine ⟨G, _, o, ρ1, R, e3, fun σ' H' G' E' R' => ?_⟩
        rcases outV_cases e4 with ⟨rfl, rfl⟩ | rfl
        · exact key E' R' .non
        · intro v S
          refine key E' R' ?_
          cases S with
          | val d => exact d
          | own h1 g1 d1 n1 c1 =>
            rcases n1 with n1 | n1
            · exact absurd n1 (cold _)
            · exact ⟨_, _, rfl, n1, g1, h1, d1⟩
    | true =>
      rw [hi] at h4
      have h4 : 0 < e.fn.np := of_decide_eq_true (by simpa using h4)
      refine F.ok SC (fun vs H Q E h => ?_) (fun cdv A outer s H vs Q E hr h => ?_)
      · obtain ⟨G, a, xs, row, ws, ds, sv, es, rfl, s1, hp, gp, rr, D1, e1, q⟩ := h
        have e1 : (ob (T.fn e.id) fun fn => runB (run T.fn k) fn (some row) ds) = some (sv, es) := e1
        rw [hfn] at e1
        have e1 : (ob (start e.fn (some row) ds) fun ρ => bd (ex (run T.fn k) e.fn.body ρ) fun o ρ1 => ob (outV o) fun v => ob (endR e.fn.io ρ1) fun r => some (v, r)) = some (sv, es) := e1
        obtain ⟨ρ, e2, e1⟩ := ob_some e1
        have e2 : (if (e.fn.io && decide (ds.length + 1 = e.fn.np)) = true then some (SV.row row :: (ds.map SV.val ++ List.replicate (e.fn.nl - e.fn.np) SV.un)) else none) = some ρ := e2
        obtain ⟨z, _⟩ := ite_ob e2
        have z2 : ds.length + 1 = e.fn.np := of_decide_eq_true (and2 z).2
        rw [hps, List.length_cons, D1.length, z2]
      · refine ⟨tS (run T.fn k) e.fn.body, sL e.fn.body (T.ck e) _ _ (okX cdv A outer s H E hr) PassesOwn.never h5, ?_⟩
        obtain ⟨G, a, xs, row, ws, ds, sv, es, rfl, s1, hp, gp, rr, D1, e1, q⟩ := h
        have e1 : (ob (T.fn e.id) fun fn => runB (run T.fn k) fn (some row) ds) = some (sv, es) := e1
        rw [hfn] at e1
        have e1 : (ob (start e.fn (some row) ds) fun ρ => bd (ex (run T.fn k) e.fn.body ρ) fun o ρ1 => ob (outV o) fun v => ob (endR e.fn.io ρ1) fun r => some (v, r)) = some (sv, es) := e1
        obtain ⟨ρ, e2, e1⟩ := ob_some e1
        have e2 : (if (e.fn.io && decide (ds.length + 1 = e.fn.np)) = true then some (SV.row row :: (ds.map SV.val ++ List.replicate (e.fn.nl - e.fn.np) SV.un)) else none) = some ρ := e2
        obtain ⟨z, e2⟩ := ite_ob e2
        cases e2
        have z2 : ds.length + 1 = e.fn.np := of_decide_eq_true (and2 z).2
        obtain ⟨o, ρ1, e3, e1⟩ := bd_some e1
        obtain ⟨v1, e4, e1⟩ := ob_some e1
        obtain ⟨r1, e5, e1⟩ := ob_some e1
        cases e1
        have hl := D1.length
        obtain ⟨R, hots⟩ := rel_startR (N := e.N) (n := e.fn.nl - e.fn.np) s1 hp gp rr D1 (by omega)
        rw [hi] at e5
        have e5 : (match rd ρ1 0 with | .row r => some r | _ => none) = some es := e5
        have key : ∀ {G' H' : Hp} {σ' : St} {v : V}, Ext G H (L2.start e.N (.ref a :: ws)) (.row row :: (ds.map .val ++ List.replicate (e.fn.nl - e.fn.np) .un)) G' H' σ' ρ1 → Rel G' H' σ' ρ1 → (HotAt σ' ρ1 a → SvV G H G' H' v sv) → Q v H' := fun {G' H' σ' v} E' R' V' => by
          obtain ⟨q1, ds', q2⟩ := E'.row 0 a row rfl rfl
          have e6 : es = ds' := by
            unfold rd at e5
            rw [List.getD_eq_getElem?_getD, q2] at e5
            exact (Option.some.inj e5).symm
          subst e6
          have sl := R'.slot 0 _ _ q1 q2
          cases sl with
          | row x1 x2 x3 =>
            exact q v H' ⟨G', _, E'.sub, R'.le, fun b o hb hH => E'.keep b o hH fun z => hb (hots b z), fun b o hb hH hG => E'.cold b o hH hG fun z => hb (hots b z), x2, x1, x3, V' ⟨0, _, q1, q2, rfl⟩⟩
        refine ⟨G, _, o, ρ1, R, e3, fun σ' H' G' E' R' => ?_⟩
        rcases outV_cases e4 with ⟨rfl, rfl⟩ | rfl
        · exact key E' R' fun _ => .non
        · intro v S
          refine key E' R' fun ha => ?_
          cases S with
          | val d => exact d
          | own h1 g1 d1 n1 c1 =>
            rcases n1 with n1 | n1
            · rw [hots _ n1] at c1
              exact absurd ha c1
            · exact ⟨_, _, rfl, n1, g1, h1, d1⟩

/-! ### a law's end -/
theorem mem_look : ∀ {K : PySem.W.Frag} {a : Addr} {o : Obj}, K.lookup a = some o → (a, o) ∈ K
  | [], _, _, h => by cases h
  | (b, u) :: r, a, o, h => by
    rw [List.lookup_cons] at h
    split at h
    · next z =>
      cases h
      rw [beq_iff_eq] at z
      subst z
      exact List.mem_cons_self
    · exact List.mem_cons_of_mem _ (mem_look h)
def noLst (K : PySem.W.Frag) : Bool := K.all fun p => !(p.2.cls == .type "list")
/-- what a law promises of its def -/
def spLaw (K : PySem.W.Frag) (n : Nat) : Sp := fun vs H Q _ => ∃ (a : Addr) (ns : List Int), vs = [.ref a] ∧ ns.length ≤ n ∧ Only H ∧ SqL K H a (ns.map V.int) ∧ ∀ H', Q (.bl true) H'
theorem law_run (TO : TabOk T K mg) (hc : T.ok = true) {k n : Nat} {e : Ent} (he : e ∈ T.es) (hio : e.fn.io = false) {fa : Addr} {fd : FuncData} (hmg : mg e.x = some (.ref fa)) (F : Fun K e.q e.q e.st fa fd) (nl : noLst K = true)
    (hlaw : ∀ ns : List Int, ns.length ≤ n → ∃ r, run T.fn k e.id none [scrD ns] = some (.val (.bool true), r)) : FnOk P w K mg base CX0 k fa fd e.ps (spLaw K n) := by
  have F1 := tab_run (P := P) (w := w) (base := base) TO hc k e he fa fd hmg F
  rw [hio] at F1
  refine F1.imp fun vs H Q E ⟨a, ns, ev, hn, ho, hS, q⟩ => ?_
  subst ev
  obtain ⟨r, hr⟩ := hlaw ns hn
  have hf : ∃ o, H a = some (.frz o (.lst (ns.map V.int))) := by
    rcases hS with (h | h) | ⟨o, its, n2, hk, hcl, _⟩
    · rcases ho a with z | ⟨o, xs, z⟩
      · rw [h] at z; cases z
      · rw [h] at z; cases z
    · exact h
    · exfalso
      have z := List.all_eq_true.mp nl (a, o) (mem_look hk)
      have z2 : (!(o.cls == Value.type "list")) = true := z
      rw [hcl] at z2
      rw [show (Value.type "list" == Value.type "list") = true from beq_self_eq_true _] at z2
      cases z2
  obtain ⟨o, hf⟩ := hf
  refine ⟨H, [scrD ns], .val (.bool true), r, Same.refl _, .cons (.scr ns hf) .nil, hr, fun v H' N => ?_⟩
  obtain ⟨G', _, _, _, _, V'⟩ := N
  cases V' with
  | bl b => exact q H'
end
end DP

namespace DP
open PySem PySem.Spec PyProof.Rows L2
def topS (i : Nat) : Stmt := PySem.Challenge.pw_doublepay_k39_whole_coins_moved.main.body.getD i (.Pass ⟨0, 0, 0, 0⟩)
/-- is_in -/
def fn_1 : Fn := ⟨3, false, 3,
    (.seq (.ret (.and (.isi (.var 0) .int) (.and (.not (.isi (.var 0) .bool)) (.chain .le .le (.var 1) (.var 0) (.var 2)))))
    .skip)⟩
/-- is_factor -/
def fn_2 : Fn := ⟨1, false, 1,
    (.seq (.ret (.call 1 (.cons (.var 0) (.cons (.int 2) (.cons (.int 9) .nil)))))
    .skip)⟩
/-- need_table -/
def fn_3 : Fn := ⟨1, false, 3,
    (.seq (.ite (.or (.not (.isi (.var 0) .tuple)) (.or (.cmp .ne (.blt1 .len (.var 0)) (.int 2)) (.not (.call 2 (.cons (.idx (.var 0) (.int 0)) .nil))))) (.seq .never
    .skip) .skip)
    (.seq (.ite (.or (.not (.isi (.idx (.var 0) (.int 1)) .tuple)) (.not (.chain .le .le (.int 1) (.blt1 .len (.idx (.var 0) (.int 1))) (.int 6)))) (.seq .never
    .skip) .skip)
    (.seq (.for_ (.many [1, 2]) (.enum (.idx (.var 0) (.int 1))) (.seq (.ite (.not (.call 1 (.cons (.var 2) (.cons (.int 0) (.cons (.int 1000000) .nil))))) (.seq .never
    .skip) .skip)
    .skip))
    (.seq (.ite (.cmp .eq (.blt1 .sum (.idx (.var 0) (.int 1))) (.int 0)) (.seq .never
    .skip) .skip)
    .skip))))⟩
/-- owed_in -/
def fn_6 : Fn := ⟨3, false, 5,
    (.seq (.set 3 (.comp (.op .mul (.var 0) (.var 4)) (.seq (.var 1)) (.one 4) .nil [4]))
    (.seq (.seti 3 (.var 2) (.op .sub (.op .mul (.var 0) (.idx (.var 1) (.var 2))) (.op .mul (.op .sub (.var 0) (.int 1)) (.blt1 .sum (.var 1)))))
    (.seq (.ret (.blt1 .tuple (.var 3)))
    .skip)))⟩
/-- payers_in -/
def fn_7 : Fn := ⟨2, false, 3,
    (.seq (.ret (.comp (.var 2) (.rng1 (.blt1 .len (.var 1))) (.one 2) (.cmp .ge (.op .mul (.var 0) (.idx (.var 1) (.var 2))) (.op .mul (.op .sub (.var 0) (.int 1)) (.blt1 .sum (.var 1)))) [2]))
    .skip)⟩
/-- need_word -/
def fn_21 : Fn := ⟨2, false, 3,
    (.seq (.ite (.or (.not (.isi (.var 1) .tuple)) (.cmp .gt (.blt1 .len (.var 1)) (.int 40))) (.seq .never
    .skip) .skip)
    (.seq (.ite (.cmp .ne (.comp (.var 2) (.seq (.var 1)) (.one 2) (.not (.call 1 (.cons (.var 2) (.cons (.int 0) (.cons (.op .sub (.var 0) (.int 1)) .nil))))) [2]) (.lst .nil)) (.seq .never
    .skip) .skip)
    .skip))⟩
/-- need_rounds -/
def fn_22 : Fn := ⟨1, false, 1,
    (.seq (.ite (.not (.call 1 (.cons (.var 0) (.cons (.int 0) (.cons (.int 40) .nil))))) (.seq .never
    .skip) .skip)
    .skip)⟩
/-- power -/
def fn_25 : Fn := ⟨2, false, 4,
    (.seq (.set 2 (.int 1))
    (.seq (.for_ (.one 3) (.rng1 (.var 1)) (.seq (.aug 2 .mul (.var 0))
    .skip))
    (.seq (.ret (.var 2))
    .skip)))⟩
/-- numbers_in -/
def fn_26 : Fn := ⟨3, false, 6,
    (.seq (.set 3 (.op .mul (.lst (.cons (.int 0) .nil)) (.var 1)))
    (.seq (.for_ (.one 4) (.seq (.var 2)) (.seq (.set 3 (.comp (.op .mul (.var 0) (.var 5)) (.seq (.var 3)) (.one 5) .nil [5]))
    (.seq (.augi 3 (.var 4) .add (.op .sub (.var 0) (.int 1)))
    .skip)))
    (.seq (.ret (.var 3))
    .skip)))⟩
/-- after_in -/
def fn_30 : Fn := ⟨3, false, 7,
    (.seq (.par [3, 4] (.cons (.call 25 (.cons (.var 0) (.cons (.blt1 .len (.var 2)) .nil))) (.cons (.blt1 .sum (.var 1)) .nil)))
    (.seq (.ret (.blt1 .tuple (.comp (.op .sub (.op .mul (.var 3) (.var 5)) (.op .mul (.var 4) (.var 6))) (.zip (.var 1) (.call 26 (.cons (.var 0) (.cons (.blt1 .len (.var 1)) (.cons (.var 2) .nil))))) (.many [5, 6]) .nil [5, 6])))
    .skip))⟩
/-- payable_in -/
def fn_37 : Fn := ⟨2, false, 8,
    (.seq (.set 2 (.lst (.cons (.tup (.cons (.tup .nil) (.cons (.idx (.var 0) (.int 1)) .nil))) .nil)))
    (.seq (.for_ (.one 3) (.rng1 (.var 1)) (.seq (.set 4 (.lst .nil))
    (.seq (.for_ (.many [5, 6]) (.seq (.var 2)) (.seq (.for_ (.one 7) (.seq (.call 7 (.cons (.idx (.var 0) (.int 0)) (.cons (.var 6) .nil)))) (.seq (.app 4 (.tup (.cons (.op .add (.var 5) (.tup (.cons (.var 7) .nil))) (.cons (.call 6 (.cons (.idx (.var 0) (.int 0)) (.cons (.var 6) (.cons (.var 7) .nil)))) .nil))))
    .skip))
    .skip))
    (.seq (.set 2 (.var 4))
    .skip))))
    (.seq (.ret (.comp (.var 5) (.seq (.var 2)) (.many [5, 6]) .nil [5, 6]))
    .skip)))⟩
/-- need_both -/
def fn_119 : Fn := ⟨2, false, 2,
    (.seq (.expr (.call 3 (.cons (.var 0) .nil)))
    (.seq (.expr (.call 21 (.cons (.blt1 .len (.idx (.var 0) (.int 1))) (.cons (.var 1) .nil))))
    .skip))⟩
/-- line_of -/
def fn_120 : Fn := ⟨2, false, 5,
    (.seq (.par [2, 3] (.cons (.lst .nil) (.cons (.idx (.var 0) (.int 1)) .nil)))
    (.seq (.for_ (.one 4) (.seq (.var 1)) (.seq (.app 2 (.var 3))
    (.seq (.set 3 (.call 6 (.cons (.idx (.var 0) (.int 0)) (.cons (.var 3) (.cons (.var 4) .nil)))))
    .skip)))
    (.seq (.ret (.var 2))
    .skip)))⟩
/-- moved_along -/
def fn_121 : Fn := ⟨2, false, 5,
    (.seq (.set 2 (.blt1 .sum (.idx (.var 0) (.int 1))))
    (.seq (.ret (.comp (.op .mul (.op .sub (.idx (.var 0) (.int 0)) (.int 1)) (.op .sub (.var 2) (.idx (.var 3) (.var 4)))) (.zip (.call 120 (.cons (.var 0) (.cons (.var 1) .nil))) (.var 1)) (.many [3, 4]) .nil [3, 4]))
    .skip))⟩
/-- word_in -/
def fn_122 : Fn := ⟨2, false, 3,
    (.seq (.set 2 (.call 37 (.cons (.var 0) (.cons (.var 1) .nil))))
    (.seq (.ret (.ife (.cmp .ne (.var 2) (.lst .nil)) (.idx (.var 2) (.int 0)) .non))
    .skip))⟩
/-- moved_in -/
def fn_123 : Fn := ⟨2, false, 3,
    (.seq (.expr (.call 3 (.cons (.var 0) .nil)))
    (.seq (.expr (.call 22 (.cons (.var 1) .nil)))
    (.seq (.set 2 (.call 122 (.cons (.var 0) (.cons (.var 1) .nil))))
    (.seq (.ret (.ife (.isn (.var 2)) .non (.blt1 .sum (.call 121 (.cons (.var 0) (.cons (.var 2) .nil))))))
    .skip))))⟩
/-- moved_word -/
def fn_124 : Fn := ⟨2, false, 2,
    (.seq (.expr (.call 119 (.cons (.var 0) (.cons (.var 1) .nil))))
    (.seq (.ret (.blt1 .tuple (.call 121 (.cons (.var 0) (.cons (.var 1) .nil)))))
    .skip))⟩
/-- gains -/
def fn_125 : Fn := ⟨2, false, 4,
    (.seq (.expr (.call 119 (.cons (.var 0) (.cons (.var 1) .nil))))
    (.seq (.ret (.blt1 .tuple (.comp (.op .sub (.var 2) (.var 3)) (.zip (.call 30 (.cons (.idx (.var 0) (.int 0)) (.cons (.idx (.var 0) (.int 1)) (.cons (.var 1) .nil)))) (.idx (.var 0) (.int 1))) (.many [2, 3]) .nil [2, 3])))
    .skip))⟩
/-- losers -/
def fn_126 : Fn := ⟨2, false, 4,
    (.seq (.expr (.call 119 (.cons (.var 0) (.cons (.var 1) .nil))))
    (.seq (.set 2 (.call 30 (.cons (.idx (.var 0) (.int 0)) (.cons (.idx (.var 0) (.int 1)) (.cons (.var 1) .nil)))))
    (.seq (.ret (.blt1 .tuple (.comp (.var 3) (.rng1 (.blt1 .len (.var 2))) (.one 3) (.cmp .lt (.idx (.var 2) (.var 3)) (.idx (.idx (.var 0) (.int 1)) (.var 3))) [3])))
    .skip)))⟩
/-- handed -/
def fn_127 : Fn := ⟨2, false, 5,
    (.seq (.expr (.call 119 (.cons (.var 0) (.cons (.var 1) .nil))))
    (.seq (.set 2 (.op .mul (.lst (.cons (.int 0) .nil)) (.blt1 .len (.idx (.var 0) (.int 1)))))
    (.seq (.for_ (.many [3, 4]) (.zip (.var 1) (.call 121 (.cons (.var 0) (.cons (.var 1) .nil)))) (.seq (.augi 2 (.var 3) .add (.var 4))
    .skip))
    (.seq (.ret (.blt1 .tuple (.var 2)))
    .skip))))⟩
/-- taken -/
def fn_128 : Fn := ⟨2, false, 7,
    (.seq (.expr (.call 119 (.cons (.var 0) (.cons (.var 1) .nil))))
    (.seq (.set 2 (.op .mul (.lst (.cons (.int 0) .nil)) (.blt1 .len (.idx (.var 0) (.int 1)))))
    (.seq (.for_ (.many [3, 4]) (.zip (.var 1) (.call 120 (.cons (.var 0) (.cons (.var 1) .nil)))) (.seq (.for_ (.many [5, 6]) (.enum (.var 4)) (.seq (.ite (.cmp .ne (.var 5) (.var 3)) (.seq (.augi 2 (.var 5) .add (.op .mul (.op .sub (.idx (.var 0) (.int 0)) (.int 1)) (.var 6)))
    .skip) .skip)
    .skip))
    .skip))
    (.seq (.ret (.blt1 .tuple (.var 2)))
    .skip))))⟩
/-- _law_taken -/
def fn_12 : Fn := ⟨2, true, 4,
    (.seq (.ite (.cmp .gt (.idx (.var 0) (.int 3)) (.int 0)) (.seq (.set 2 (.op .mod (.blt1 .int (.idx (.var 0) (.int 3))) (.var 1)))
    (.seq (.seti 0 (.int 3) (.op .fdiv (.idx (.var 0) (.int 3)) (.var 1)))
    (.seq (.ret (.var 2))
    .skip))) .skip)
    (.seq (.seti 0 (.int 1) (.op .add (.idx (.var 0) (.int 1)) (.int 1)))
    (.seq (.ite (.cmp .gt (.idx (.var 0) (.int 1)) (.blt1 .len (.idx (.var 0) (.int 0)))) (.seq (.seti 0 (.int 2) (.op .mod (.blt1 .int (.op .add (.op .mul (.idx (.var 0) (.int 2)) (.int 48271)) (.int 11))) (.int 2147483647)))
    (.seq (.ret (.op .mod (.blt1 .int (.op .fdiv (.idx (.var 0) (.int 2)) (.int 7))) (.var 1)))
    .skip)) .skip)
    (.seq (.set 3 (.idx (.idx (.var 0) (.int 0)) (.op .sub (.idx (.var 0) (.int 1)) (.int 1))))
    (.seq (.seti 0 (.int 2) (.op .mod (.blt1 .int (.op .add (.op .add (.op .mul (.idx (.var 0) (.int 2)) (.int 48271)) (.var 3)) (.int 11))) (.int 2147483647)))
    (.seq (.ite (.cmp .ge (.var 3) (.op .pow (.int 10) (.int 18))) (.seq (.seti 0 (.int 3) (.op .fdiv (.var 3) (.var 1)))
    .skip) .skip)
    (.seq (.ret (.op .mod (.blt1 .int (.var 3)) (.var 1)))
    .skip)))))))⟩
/-- _law_pick -/
def fn_13 : Fn := ⟨2, true, 2,
    (.seq (.ret (.idx (.var 1) (.callr 12 0 (.cons (.blt1 .len (.var 1)) .nil))))
    .skip)⟩
/-- _law_table -/
def fn_14 : Fn := ⟨3, true, 16,
    (.seq (.par [3, 4] (.cons (.callr 13 0 (.cons (.lst (.cons (.int 2) (.cons (.int 2) (.cons (.int 2) (.cons (.int 3) (.cons (.int 3) (.cons (.int 4) (.cons (.int 9) .nil)))))))) .nil)) (.cons (.op .add (.int 1) (.callr 12 0 (.cons (.var 1) .nil))) .nil)))
    (.seq (.set 5 (.callr 12 0 (.cons (.int 5) .nil)))
    (.seq (.ite (.cmp .lt (.var 5) (.int 2)) (.seq (.par [6, 7] (.cons (.op .add (.int 1) (.callr 12 0 (.cons (.int 5) .nil))) (.cons (.op .mul (.lst (.cons (.int 0) .nil)) (.var 4)) .nil)))
    (.seq (.for_ (.one 8) (.rng1 (.var 6)) (.seq (.set 7 (.comp (.op .mul (.var 3) (.var 14)) (.seq (.var 7)) (.one 14) .nil [14]))
    (.seq (.augi 7 (.callr 12 0 (.cons (.var 4) .nil)) .add (.op .sub (.var 3) (.int 1)))
    .skip)))
    (.seq (.set 9 (.op .add (.int 1) (.callr 12 0 (.cons (.int 3) .nil))))
    (.seq (.ret (.tup (.cons (.var 3) (.cons (.blt1 .tuple (.comp (.op .mul (.var 14) (.var 9)) (.seq (.var 7)) (.one 14) .nil [14])) .nil))))
    .skip)))) .skip)
    (.seq (.ite (.cmp .eq (.var 5) (.int 2)) (.seq (.set 7 (.op .mul (.lst (.cons (.int 0) .nil)) (.var 4)))
    (.seq (.seti 7 (.callr 12 0 (.cons (.var 4) .nil)) (.op .add (.int 1) (.callr 12 0 (.cons (.int 9) .nil))))
    (.seq (.for_ (.one 8) (.rng1 (.callr 12 0 (.cons (.int 5) .nil))) (.seq (.set 10 (.callr 12 0 (.cons (.var 4) .nil)))
    (.seq (.set 11 (.blt1 .sum (.var 7)))
    (.seq (.set 12 (.comp (.var 14) (.enum (.var 7)) (.many [15, 14]) (.cmp .ne (.var 15) (.var 10)) [15, 14]))
    (.seq (.ite (.cmp .eq (.comp (.var 14) (.seq (.var 12)) (.one 14) (.cmp .ne (.op .mod (.blt1 .int (.var 14)) (.var 3)) (.int 0)) [14]) (.lst .nil)) (.seq (.set 13 (.op .add (.idx (.var 7) (.var 10)) (.op .mul (.op .sub (.var 3) (.int 1)) (.var 11))))
    (.seq (.set 7 (.comp (.op .fdiv (.var 14) (.var 3)) (.seq (.var 7)) (.one 14) .nil [14]))
    (.seq (.seti 7 (.var 10) (.op .fdiv (.var 13) (.var 3)))
    .skip))) (.seq (.set 7 (.comp (.op .mul (.var 3) (.var 14)) (.seq (.var 7)) (.one 14) .nil [14]))
    .skip))
    .skip)))))
    (.seq (.ret (.tup (.cons (.var 3) (.cons (.blt1 .tuple (.var 7)) .nil))))
    .skip)))) .skip)
    (.seq (.set 7 (.comp (.callr 12 0 (.cons (.var 2) .nil)) (.rng1 (.var 4)) (.one 15) .nil [15]))
    (.seq (.ret (.tup (.cons (.var 3) (.cons (.ife (.cmp .gt (.blt1 .sum (.var 7)) (.int 0)) (.blt1 .tuple (.var 7)) (.op .mul (.tup (.cons (.int 1) .nil)) (.var 4))) .nil))))
    .skip))))))⟩
/-- _law_word -/
def fn_41 : Fn := ⟨3, true, 4,
    (.seq (.ret (.blt1 .tuple (.comp (.callr 12 0 (.cons (.var 1) .nil)) (.rng1 (.callr 12 0 (.cons (.op .add (.var 2) (.int 1)) .nil))) (.one 3) .nil [3])))
    .skip)⟩
/-- _law_owed -/
def fn_15 : Fn := ⟨3, false, 7,
    (.seq (.set 3 (.comp (.op .mul (.op .sub (.var 0) (.int 1)) (.var 5)) (.seq (.var 1)) (.one 5) .nil [5]))
    (.seq (.set 4 (.comp (.op .add (.idx (.var 1) (.var 6)) (.idx (.var 3) (.var 6))) (.rng1 (.blt1 .len (.var 1))) (.one 6) .nil [6]))
    (.seq (.seti 4 (.var 2) (.op .sub (.idx (.var 1) (.var 2)) (.op .sub (.blt1 .sum (.var 3)) (.idx (.var 3) (.var 2)))))
    (.seq (.ret (.blt1 .tuple (.var 4)))
    .skip))))⟩
/-- _law_along -/
def fn_44 : Fn := ⟨3, false, 5,
    (.seq (.set 3 (.lst (.cons (.var 1) .nil)))
    (.seq (.for_ (.one 4) (.seq (.var 2)) (.seq (.app 3 (.call 15 (.cons (.var 0) (.cons (.idx (.var 3) (.neg (.int 1))) (.cons (.var 4) .nil)))))
    .skip))
    (.seq (.ret (.var 3))
    .skip)))⟩
/-- _law_alike -/
def fn_17 : Fn := ⟨2, false, 3,
    (.seq (.ite (.isi2 (.var 1) .tuple .list) (.seq (.ite (.or (.not (.isi2 (.var 0) .tuple .list)) (.cmp .ne (.isi (.var 0) .list) (.isi (.var 1) .list))) (.seq (.ret (.bl false))
    .skip) .skip)
    (.seq (.ite (.cmp .ne (.blt1 .len (.var 0)) (.blt1 .len (.var 1))) (.seq (.ret (.bl false))
    .skip) .skip)
    (.seq (.ret (.cmp .eq (.comp (.var 2) (.rng1 (.blt1 .len (.var 1))) (.one 2) (.not (.call 17 (.cons (.idx (.var 0) (.var 2)) (.cons (.idx (.var 1) (.var 2)) .nil)))) [2]) (.lst .nil)))
    .skip))) .skip)
    (.seq (.ite (.or (.isn (.var 1)) (.isi (.var 1) .str)) (.seq (.ret (.and (.cmp .eq (.var 0) (.var 1)) (.cmp .eq (.isi (.var 0) .str) (.isi (.var 1) .str))))
    .skip) .skip)
    (.seq (.ret (.and (.isi (.var 0) .int) (.and (.cmp .eq (.isi (.var 0) .bool) (.isi (.var 1) .bool)) (.cmp .eq (.var 0) (.var 1)))))
    .skip)))⟩
/-- _law_payers -/
def fn_16 : Fn := ⟨2, false, 3,
    (.seq (.ret (.comp (.var 2) (.rng1 (.blt1 .len (.var 1))) (.one 2) (.cmp .ge (.idx (.call 15 (.cons (.var 0) (.cons (.var 1) (.cons (.var 2) .nil)))) (.var 2)) (.int 0)) [2]))
    .skip)⟩
/-- _law_play -/
def fn_47 : Fn := ⟨3, false, 7,
    (.seq (.par [3, 4] (.cons (.lst (.cons (.var 1) .nil)) (.cons (.lst .nil) .nil)))
    (.seq (.for_ (.one 5) (.rng1 (.var 2)) (.seq (.set 6 (.call 16 (.cons (.var 0) (.cons (.idx (.var 3) (.neg (.int 1))) .nil))))
    (.seq (.ite (.cmp .ne (.var 6) (.lst .nil)) (.seq (.app 4 (.idx (.var 6) (.int 0)))
    (.seq (.app 3 (.call 15 (.cons (.var 0) (.cons (.idx (.var 3) (.neg (.int 1))) (.cons (.idx (.var 6) (.int 0)) .nil)))))
    .skip)) (.seq (.ret (.tup (.cons (.var 3) (.cons (.blt1 .tuple (.var 4)) .nil))))
    .skip))
    .skip)))
    (.seq (.ret (.tup (.cons (.var 3) (.cons (.blt1 .tuple (.var 4)) .nil))))
    .skip)))⟩
/-- law -/
def fn_129 : Fn := ⟨1, false, 18,
    (.seq (.set 1 (.lst (.cons (.var 0) (.cons (.int 0) (.cons (.int 9839) (.cons (.int 0) .nil))))))
    (.seq (.set 2 (.callr 14 1 (.cons (.int 6) (.cons (.callr 13 1 (.cons (.lst (.cons (.int 4) (.cons (.int 30) (.cons (.int 1000001) .nil)))) .nil)) .nil))))
    (.seq (.unp [3, 4] (.var 2))
    (.seq (.set 5 (.blt1 .len (.var 4)))
    (.seq (.set 6 (.callr 41 1 (.cons (.var 5) (.cons (.callr 13 1 (.cons (.lst (.cons (.int 3) (.cons (.int 40) .nil))) .nil)) .nil))))
    (.seq (.set 7 (.call 44 (.cons (.var 3) (.cons (.var 4) (.cons (.var 6) .nil)))))
    (.seq (.set 8 (.comp (.op .sub (.idx (.idx (.var 7) (.var 11)) (.idx (.var 6) (.var 11))) (.idx (.idx (.var 7) (.op .add (.var 11) (.int 1))) (.idx (.var 6) (.var 11)))) (.rng1 (.blt1 .len (.var 6))) (.one 11) .nil [11]))
    (.seq (.ite (.not (.call 17 (.cons (.call 124 (.cons (.var 2) (.cons (.var 6) .nil))) (.cons (.blt1 .tuple (.var 8)) .nil)))) (.seq (.ret (.bl false))
    .skip) .skip)
    (.seq (.par [9, 10] (.cons (.op .mul (.lst (.cons (.int 0) .nil)) (.var 5)) (.cons (.op .mul (.lst (.cons (.int 0) .nil)) (.var 5)) .nil)))
    (.seq (.for_ (.one 11) (.rng1 (.blt1 .len (.var 6))) (.seq (.for_ (.one 12) (.rng1 (.var 5)) (.seq (.ite (.cmp .eq (.var 12) (.idx (.var 6) (.var 11))) (.seq (.seti 9 (.var 12) (.op .add (.idx (.var 9) (.var 12)) (.idx (.var 8) (.var 11))))
    .skip) (.seq (.seti 10 (.var 12) (.op .sub (.op .add (.idx (.var 10) (.var 12)) (.idx (.idx (.var 7) (.op .add (.var 11) (.int 1))) (.var 12))) (.idx (.idx (.var 7) (.var 11)) (.var 12))))
    .skip))
    .skip))
    .skip))
    (.seq (.set 13 (.comp (.op .sub (.idx (.idx (.var 7) (.neg (.int 1))) (.var 12)) (.idx (.var 4) (.var 12))) (.rng1 (.var 5)) (.one 12) .nil [12]))
    (.seq (.ite (.or (.not (.call 17 (.cons (.call 127 (.cons (.var 2) (.cons (.var 6) .nil))) (.cons (.blt1 .tuple (.var 9)) .nil)))) (.not (.call 17 (.cons (.call 128 (.cons (.var 2) (.cons (.var 6) .nil))) (.cons (.blt1 .tuple (.var 10)) .nil))))) (.seq (.ret (.bl false))
    .skip) .skip)
    (.seq (.ite (.not (.call 17 (.cons (.call 125 (.cons (.var 2) (.cons (.var 6) .nil))) (.cons (.blt1 .tuple (.var 13)) .nil)))) (.seq (.ret (.bl false))
    .skip) .skip)
    (.seq (.ite (.or (.cmp .ne (.var 13) (.comp (.op .sub (.idx (.var 10) (.var 12)) (.idx (.var 9) (.var 12))) (.rng1 (.var 5)) (.one 12) .nil [12])) (.cmp .ne (.blt1 .sum (.var 9)) (.blt1 .sum (.var 10)))) (.seq (.ret (.bl false))
    .skip) .skip)
    (.seq (.ite (.not (.call 17 (.cons (.call 126 (.cons (.var 2) (.cons (.var 6) .nil))) (.cons (.blt1 .tuple (.comp (.var 12) (.rng1 (.var 5)) (.one 12) (.cmp .lt (.idx (.var 13) (.var 12)) (.int 0)) [12])) .nil)))) (.seq (.ret (.bl false))
    .skip) .skip)
    (.seq (.set 14 (.callr 12 1 (.cons (.int 41) .nil)))
    (.seq (.unp [15, 16] (.call 47 (.cons (.var 3) (.cons (.var 4) (.cons (.var 14) .nil)))))
    (.seq (.set 17 (.blt1 .sum (.comp (.op .sub (.idx (.idx (.var 15) (.var 11)) (.idx (.var 16) (.var 11))) (.idx (.idx (.var 15) (.op .add (.var 11) (.int 1))) (.idx (.var 16) (.var 11)))) (.rng1 (.blt1 .len (.var 16))) (.one 11) .nil [11])))
    (.seq (.ret (.call 17 (.cons (.call 123 (.cons (.var 2) (.cons (.var 14) .nil))) (.cons (.ife (.cmp .eq (.blt1 .len (.var 16)) (.var 14)) (.var 17) .non) .nil))))
    .skip)))))))))))))))))))⟩
def en_1 : Ent := ⟨1, Str.ofString "is_in", Str.ofString "is_in", topS 6, [Str.ofString "value", Str.ofString "least", Str.ofString "most"], fn_1⟩
def en_2 : Ent := ⟨2, Str.ofString "is_factor", Str.ofString "is_factor", topS 12, [Str.ofString "value"], fn_2⟩
def en_3 : Ent := ⟨3, Str.ofString "need_table", Str.ofString "need_table", topS 13, [Str.ofString "table", Str.ofString "index", Str.ofString "one"], fn_3⟩
def en_6 : Ent := ⟨6, Str.ofString "owed_in", Str.ofString "owed_in", topS 14, [Str.ofString "factor", Str.ofString "coins", Str.ofString "player", Str.ofString "found", Str.ofString "one"], fn_6⟩
def en_7 : Ent := ⟨7, Str.ofString "payers_in", Str.ofString "payers_in", topS 15, [Str.ofString "factor", Str.ofString "coins", Str.ofString "k"], fn_7⟩
def en_21 : Ent := ⟨21, Str.ofString "need_word", Str.ofString "need_word", topS 18, [Str.ofString "players", Str.ofString "word", Str.ofString "one"], fn_21⟩
def en_22 : Ent := ⟨22, Str.ofString "need_rounds", Str.ofString "need_rounds", topS 19, [Str.ofString "many"], fn_22⟩
def en_25 : Ent := ⟨25, Str.ofString "power", Str.ofString "power", topS 20, [Str.ofString "factor", Str.ofString "many", Str.ofString "found", Str.ofString "k"], fn_25⟩
def en_26 : Ent := ⟨26, Str.ofString "numbers_in", Str.ofString "numbers_in", topS 21, [Str.ofString "factor", Str.ofString "players", Str.ofString "word", Str.ofString "found", Str.ofString "payer", Str.ofString "one"], fn_26⟩
def en_30 : Ent := ⟨30, Str.ofString "after_in", Str.ofString "after_in", topS 22, [Str.ofString "factor", Str.ofString "coins", Str.ofString "word", Str.ofString "size", Str.ofString "total", Str.ofString "one", Str.ofString "number"], fn_30⟩
def en_37 : Ent := ⟨37, Str.ofString "payable_in", Str.ofString "payable_in", topS 23, [Str.ofString "table", Str.ofString "many", Str.ofString "rows", Str.ofString "turn", Str.ofString "more", Str.ofString "word", Str.ofString "coins", Str.ofString "payer"], fn_37⟩
def en_119 : Ent := ⟨119, Str.ofString "need_both", Str.ofString "need_both", topS 25, [Str.ofString "table", Str.ofString "word"], fn_119⟩
def en_120 : Ent := ⟨120, Str.ofString "line_of", Str.ofString "line_of", topS 26, [Str.ofString "table", Str.ofString "word", Str.ofString "found", Str.ofString "here", Str.ofString "payer"], fn_120⟩
def en_121 : Ent := ⟨121, Str.ofString "moved_along", Str.ofString "moved_along", topS 27, [Str.ofString "table", Str.ofString "word", Str.ofString "total", Str.ofString "coins", Str.ofString "payer"], fn_121⟩
def en_122 : Ent := ⟨122, Str.ofString "word_in", Str.ofString "word_in", topS 28, [Str.ofString "table", Str.ofString "many", Str.ofString "some"], fn_122⟩
def en_123 : Ent := ⟨123, Str.ofString "moved_in", Str.ofString "moved_in", topS 29, [Str.ofString "table", Str.ofString "many", Str.ofString "word"], fn_123⟩
def en_124 : Ent := ⟨124, Str.ofString "moved_word", Str.ofString "moved_word", topS 30, [Str.ofString "table", Str.ofString "word"], fn_124⟩
def en_125 : Ent := ⟨125, Str.ofString "gains", Str.ofString "gains", topS 31, [Str.ofString "table", Str.ofString "word", Str.ofString "one", Str.ofString "other"], fn_125⟩
def en_126 : Ent := ⟨126, Str.ofString "losers", Str.ofString "losers", topS 32, [Str.ofString "table", Str.ofString "word", Str.ofString "behind", Str.ofString "k"], fn_126⟩
def en_127 : Ent := ⟨127, Str.ofString "handed", Str.ofString "handed", topS 33, [Str.ofString "table", Str.ofString "word", Str.ofString "found", Str.ofString "payer", Str.ofString "coins"], fn_127⟩
def en_128 : Ent := ⟨128, Str.ofString "taken", Str.ofString "taken", topS 34, [Str.ofString "table", Str.ofString "word", Str.ofString "found", Str.ofString "payer", Str.ofString "coins", Str.ofString "k", Str.ofString "one"], fn_128⟩
def en_12 : Ent := ⟨12, Str.ofString "_law_taken", Str.ofString "_law_taken", topS 36, [Str.ofString "_law_row", Str.ofString "_law_many", Str.ofString "_law_found", Str.ofString "_law_cell"], fn_12⟩
def en_13 : Ent := ⟨13, Str.ofString "_law_pick", Str.ofString "_law_pick", topS 37, [Str.ofString "_law_row", Str.ofString "_law_things"], fn_13⟩
def en_14 : Ent := ⟨14, Str.ofString "_law_table", Str.ofString "_law_table", topS 38, [Str.ofString "_law_row", Str.ofString "_law_most", Str.ofString "_law_top", Str.ofString "_law_factor", Str.ofString "_law_players", Str.ofString "_law_way", Str.ofString "_law_size", Str.ofString "_law_coins", Str.ofString "_law_turn", Str.ofString "_law_many", Str.ofString "_law_payer", Str.ofString "_law_total", Str.ofString "_law_others", Str.ofString "_law_sums", Str.ofString "_law_one", Str.ofString "_law_k"], fn_14⟩
def en_41 : Ent := ⟨41, Str.ofString "_law_word", Str.ofString "_law_word", topS 39, [Str.ofString "_law_row", Str.ofString "_law_players", Str.ofString "_law_most", Str.ofString "_law_turn"], fn_41⟩
def en_15 : Ent := ⟨15, Str.ofString "_law_owed", Str.ofString "_law_owed", topS 40, [Str.ofString "_law_factor", Str.ofString "_law_coins", Str.ofString "_law_payer", Str.ofString "_law_gives", Str.ofString "_law_found", Str.ofString "_law_one", Str.ofString "_law_k"], fn_15⟩
def en_44 : Ent := ⟨44, Str.ofString "_law_along", Str.ofString "_law_along", topS 41, [Str.ofString "_law_factor", Str.ofString "_law_coins", Str.ofString "_law_word_here", Str.ofString "_law_found", Str.ofString "_law_payer"], fn_44⟩
def en_17 : Ent := ⟨17, Str.ofString "_law_alike", Str.ofString "_law_alike", topS 42, [Str.ofString "_law_found", Str.ofString "_law_due", Str.ofString "_law_k"], fn_17⟩
def en_16 : Ent := ⟨16, Str.ofString "_law_payers", Str.ofString "_law_payers", topS 43, [Str.ofString "_law_factor", Str.ofString "_law_coins", Str.ofString "_law_k"], fn_16⟩
def en_47 : Ent := ⟨47, Str.ofString "_law_play", Str.ofString "_law_play", topS 44, [Str.ofString "_law_factor", Str.ofString "_law_coins", Str.ofString "_law_many", Str.ofString "_law_found", Str.ofString "_law_word_here", Str.ofString "_law_turn", Str.ofString "_law_some"], fn_47⟩
def en_129 : Ent := ⟨129, Str.ofString "law", Str.ofString "law", topS 45, [Str.ofString "_law_script", Str.ofString "_law_row", Str.ofString "_law_table_here", Str.ofString "_law_factor", Str.ofString "_law_coins", Str.ofString "_law_players", Str.ofString "_law_word_here", Str.ofString "_law_along_here", Str.ofString "_law_moved", Str.ofString "_law_gives", Str.ofString "_law_gets", Str.ofString "_law_turn", Str.ofString "_law_k", Str.ofString "_law_due", Str.ofString "_law_many", Str.ofString "_law_found", Str.ofString "_law_paid", Str.ofString "_law_whole"], fn_129⟩
def TB : Tab := ⟨[en_1, en_2, en_3, en_6, en_7, en_21, en_22, en_25, en_26, en_30, en_37, en_119, en_120, en_121, en_122, en_123, en_124, en_125, en_126, en_127, en_128, en_12, en_13, en_14, en_41, en_15, en_44, en_17, en_16, en_47, en_129],
  [(Str.ofString "LEAST_FACTOR", .int 2), (Str.ofString "MOST_COINS", .int 1000000), (Str.ofString "MOST_FACTOR", .int 9), (Str.ofString "MOST_PLAYERS", .int 6), (Str.ofString "MOST_ROUNDS", .int 40)],
  [Str.ofString "bool", Str.ofString "enumerate", Str.ofString "int", Str.ofString "isinstance", Str.ofString "len", Str.ofString "list", Str.ofString "range", Str.ofString "str", Str.ofString "sum", Str.ofString "tuple", Str.ofString "zip"]⟩
theorem look_1 : TB.fn 1 = some fn_1 := by rfl
theorem look_2 : TB.fn 2 = some fn_2 := by rfl
theorem look_3 : TB.fn 3 = some fn_3 := by rfl
theorem look_6 : TB.fn 6 = some fn_6 := by rfl
theorem look_7 : TB.fn 7 = some fn_7 := by rfl
theorem look_21 : TB.fn 21 = some fn_21 := by rfl
theorem look_22 : TB.fn 22 = some fn_22 := by rfl
theorem look_25 : TB.fn 25 = some fn_25 := by rfl
theorem look_26 : TB.fn 26 = some fn_26 := by rfl
theorem look_30 : TB.fn 30 = some fn_30 := by rfl
theorem look_37 : TB.fn 37 = some fn_37 := by rfl
theorem look_119 : TB.fn 119 = some fn_119 := by rfl
theorem look_120 : TB.fn 120 = some fn_120 := by rfl
theorem look_121 : TB.fn 121 = some fn_121 := by rfl
theorem look_122 : TB.fn 122 = some fn_122 := by rfl
theorem look_123 : TB.fn 123 = some fn_123 := by rfl
theorem look_124 : TB.fn 124 = some fn_124 := by rfl
theorem look_125 : TB.fn 125 = some fn_125 := by rfl
theorem look_126 : TB.fn 126 = some fn_126 := by rfl
theorem look_127 : TB.fn 127 = some fn_127 := by rfl
theorem look_128 : TB.fn 128 = some fn_128 := by rfl
theorem look_12 : TB.fn 12 = some fn_12 := by rfl
theorem look_13 : TB.fn 13 = some fn_13 := by rfl
theorem look_14 : TB.fn 14 = some fn_14 := by rfl
theorem look_41 : TB.fn 41 = some fn_41 := by rfl
theorem look_15 : TB.fn 15 = some fn_15 := by rfl
theorem look_44 : TB.fn 44 = some fn_44 := by rfl
theorem look_17 : TB.fn 17 = some fn_17 := by rfl
theorem look_16 : TB.fn 16 = some fn_16 := by rfl
theorem look_47 : TB.fn 47 = some fn_47 := by rfl
theorem look_129 : TB.fn 129 = some fn_129 := by rfl
theorem run_succ {T : Nat → Option Fn} {k f : Nat} {fn : Fn} {row : Option (List D)} {ds : List D} (h : T f = some fn) : run T (k + 1) f row ds = runB (run T k) fn row ds := by
  show ob (T f) _ = _
  rw [h]; rfl
theorem ix0 (a : D) (r : List D) : ixD (a :: r) 0 = some a := L2.atI_nat (j := 0) rfl
theorem ix1 (a b : D) (r : List D) : ixD (a :: b :: r) 1 = some b := L2.atI_nat (j := 1) rfl
theorem ix2 (a b c : D) (r : List D) : ixD (a :: b :: c :: r) 2 = some c := L2.atI_nat (j := 2) rfl
theorem ix3 (a b c d : D) (r : List D) : ixD (a :: b :: c :: d :: r) 3 = some d := L2.atI_nat (j := 3) rfl
theorem is_in_ok (k : Nat) (v a b : Int) : run TB.fn (k + 1) 1 none [.int v, .int a, .int b] = some (.val (.bool (decide (a ≤ v) && decide (v ≤ b))), []) := by
  rw [run_succ look_1]
  by_cases h1 : a ≤ v <;> by_cases h2 : v ≤ b <;>
    simp [runB, start, fn_1, ob, bd, bz, bt, ex, evo, isVar, ev, evs, rd, frz, truth, isiT, cmp2, outV, endR, h1, h2]

def rowD (ns : List Int) (n s r : Int) : List D := [scrD ns, .int n, .int s, .int r]
def RowOk (ns : List Int) (row : List D) : Prop := ∃ n s r : Int, row = rowD ns n s r ∧ 0 ≤ n ∧ 0 ≤ s ∧ s < 2147483647
theorem big_of {i : Int} (h : i.natAbs < 2 ^ 64) : big i = true := by
  unfold big
  rcases Nat.eq_zero_or_pos i.natAbs with e | e
  · rw [e]; decide
  · have : i.natAbs.log2 < 64 := (Nat.log2_lt (by omega)).mpr h
    simp; omega
theorem ixD_nat {ds : List D} {n : Nat} {d : D} (h : ds[n]? = some d) : ixD ds (n : Int) = some d := L2.atI_nat h
theorem ixD_of {ds : List D} {i : Int} {d : D} (p : 0 ≤ i) (h : ds[i.toNat]? = some d) : ixD ds i = some d := by
  have := ixD_nat h
  rwa [Int.toNat_of_nonneg p] at this
theorem taken_ok {ns : List Int} {row : List D} (k : Nat) {m : Int} (h : RowOk ns row) (hm : 0 < m) (hb : m < 2 ^ 60) :
    ∃ v row', run TB.fn (k + 1) 12 (some row) [.int m] = some (.val (.int v), row') ∧ 0 ≤ v ∧ v < m ∧ RowOk ns row' := by
  obtain ⟨n, s, r, e, h1, h2, h3⟩ := h
  subst e
  rw [run_succ look_12]
  have bm : big m = true := big_of (by omega)
  have b7 : big 7 = true := by decide
  have bs : big s = true := big_of (by omega)
  have bc : big 48271 = true := by decide
  have m1 := Int.emod_nonneg r (b := m) (by omega)
  have m2 := Int.emod_lt_of_pos r hm
  by_cases c1 : 0 < r
  · refine ⟨r % m, rowD ns n s (r / m), ?_, m1, m2, ⟨n, s, _, rfl, h1, h2, h3⟩⟩
    simp [runB, start, fn_12, rowD, ob, bd, bz, bt, ex, evo, isVar, ev, evs, rd, frz, truth, cmp2, idx2, itemsD, slotD, slotL, putL, put, blt1, op2, rdr, outV, endR, L2.ixN, ix0, ix1, ix2, ix3, c1, bm, hm]
  · by_cases c2 : (ns.length : Int) < n + 1
    · refine ⟨((s * 48271 + 11) % 2147483647 / 7) % m, rowD ns (n + 1) ((s * 48271 + 11) % 2147483647) r, ?_, Int.emod_nonneg _ (by omega), Int.emod_lt_of_pos _ hm, ⟨_, _, _, rfl, by omega, by omega, by omega⟩⟩
      simp [runB, start, fn_12, rowD, scrD, ob, bd, bz, bt, ex, evo, isVar, ev, evs, rd, frz, truth, cmp2, idx2, itemsD, slotD, slotL, putL, put, blt1, op2, rdr, outV, endR, L2.ixN, ix0, ix1, ix2, ix3, c1, c2, bm, b7, bs, bc, hm]
    · have hn : n.toNat < ns.length := by omega
      have hx : ixD (ns.map .int) n = some (.int ns[n.toNat]) := ixD_of h1 (by simp [hn])
      have hy : n + 1 - 1 = n := by omega
      by_cases c3 : (1000000000000000000 : Int) ≤ ns[n.toNat]
      · refine ⟨ns[n.toNat] % m, rowD ns (n + 1) ((s * 48271 + ns[n.toNat] + 11) % 2147483647) (ns[n.toNat] / m), ?_, Int.emod_nonneg _ (by omega), Int.emod_lt_of_pos _ hm, ⟨_, _, _, rfl, by omega, Int.emod_nonneg _ (by omega), Int.emod_lt_of_pos _ (by omega)⟩⟩
        simp [runB, start, fn_12, rowD, scrD, ob, bd, bz, bt, ex, evo, isVar, ev, evs, rd, frz, truth, cmp2, idx2, itemsD, slotD, slotL, putL, put, blt1, op2, rdr, outV, endR, L2.ixN, ix0, ix1, ix2, ix3, c1, c2, c3, bm, b7, bs, bc, hm, hx, hy]
      · refine ⟨ns[n.toNat] % m, rowD ns (n + 1) ((s * 48271 + ns[n.toNat] + 11) % 2147483647) r, ?_, Int.emod_nonneg _ (by omega), Int.emod_lt_of_pos _ hm, ⟨_, _, _, rfl, by omega, Int.emod_nonneg _ (by omega), Int.emod_lt_of_pos _ (by omega)⟩⟩
        simp [runB, start, fn_12, rowD, scrD, ob, bd, bz, bt, ex, evo, isVar, ev, evs, rd, frz, truth, cmp2, idx2, itemsD, slotD, slotL, putL, put, blt1, op2, rdr, outV, endR, L2.ixN, ix0, ix1, ix2, ix3, c1, c2, c3, bm, b7, bs, bc, hm, hx, hy]

theorem ints_map : ∀ ns : List Int, intsD (ns.map .int) = some ns
  | [] => rfl
  | n :: r => by simp [intsD, ints_map r]
theorem forL_all {f : D → Rho → Option (Out × Rho)} {ρ : Rho} : ∀ {xs : List D}, (∀ x ∈ xs, f x ρ = some (.nx, ρ)) → forL f xs ρ = some (.nx, ρ)
  | [], _ => rfl
  | x :: xs, h => by
    unfold forL
    rw [h x (by simp)]
    exact forL_all fun y hy => h y (by simp [hy])
/-- a walk of a loop whose turns never end it -/
theorem forL_inv {f : D → Rho → Option (Out × Rho)} (P : Nat → Rho → Prop) : ∀ {xs : List D} {n : Nat} {ρ : Rho}, P n ρ →
    (∀ (j : Nat) (x : D) (ρ : Rho), xs[j]? = some x → P (n + j) ρ → ∃ ρ', f x ρ = some (.nx, ρ') ∧ P (n + j + 1) ρ') →
    ∃ ρ', forL f xs ρ = some (.nx, ρ') ∧ P (n + xs.length) ρ'
  | [], n, ρ, p, _ => ⟨ρ, rfl, p⟩
  | x :: xs, n, ρ, p, h => by
    obtain ⟨ρ1, e1, p1⟩ := h 0 x ρ rfl p
    obtain ⟨ρ2, e2, p2⟩ := forL_inv P (xs := xs) (n := n + 1) (ρ := ρ1) p1 fun j y ρ hj q => by
      have := h (j + 1) y ρ (by simpa using hj) (by rwa [show n + (j + 1) = n + 1 + j by omega])
      rwa [show n + (j + 1) + 1 = n + 1 + j + 1 by omega] at this
    refine ⟨ρ2, ?_, by rwa [List.length_cons, show n + (xs.length + 1) = n + 1 + xs.length by omega]⟩
    unfold forL; rw [e1]; exact e2
theorem compL_map {f : D → Rho → Option (List D × Rho)} {ρ : Rho} (g : D → D) : ∀ {xs : List D}, (∀ x ∈ xs, f x ρ = some ([g x], ρ)) → compL f xs ρ = some (xs.map g, ρ)
  | [], _ => rfl
  | x :: xs, h => by
    unfold compL
    rw [h x (by simp)]
    dsimp only
    rw [compL_map g fun y hy => h y (by simp [hy])]
    rfl
theorem compL_ints {f : D → Rho → Option (List D × Rho)} {ρ : Rho} (g : Int → D) {ns : List Int} (h : ∀ x ∈ ns, f (.int x) ρ = some ([g x], ρ)) : compL f (ns.map .int) ρ = some (ns.map g, ρ) := by
  induction ns with
  | nil => rfl
  | cons n r ih =>
    rw [List.map_cons]
    unfold compL
    rw [h n (by simp)]
    dsimp only
    rw [ih fun y hy => h y (by simp [hy])]
    rfl
/-- with an order number: the j-th turn makes g j -/
theorem compL_filt {f : D → Rho → Option (List D × Rho)} {ρ : Rho} (t : Int → Bool) (g : Int → D) {ns : List Int} (h : ∀ x ∈ ns, f (.int x) ρ = some (if t x = true then [g x] else [], ρ)) : compL f (ns.map .int) ρ = some ((ns.filter t).map g, ρ) := by
  induction ns with
  | nil => rfl
  | cons n r ih =>
    rw [List.map_cons]
    unfold compL
    rw [h n (by simp)]
    dsimp only
    rw [ih fun y hy => h y (by simp [hy])]
    by_cases e : t n = true
    · simp [List.filter_cons, e]
    · simp [List.filter_cons, e]
theorem compL_filtD {f : D → Rho → Option (List D × Rho)} {ρ : Rho} (t : D → Bool) (g : D → D) {ns : List D} (h : ∀ x ∈ ns, f x ρ = some (if t x = true then [g x] else [], ρ)) : compL f ns ρ = some ((ns.filter t).map g, ρ) := by
  induction ns with
  | nil => rfl
  | cons n r ih =>
    unfold compL
    rw [h n (by simp)]
    dsimp only
    rw [ih fun y hy => h y (by simp [hy])]
    by_cases e : t n = true
    · simp [List.filter_cons, e]
    · simp [List.filter_cons, e]
/-- a comprehension whose turns change what stands (drawn numbers): each turn gives one value -/
theorem compL_inv {f : D → Rho → Option (List D × Rho)} (P : Rho → Prop) (Q : D → Prop) : ∀ {xs : List D} {ρ : Rho}, P ρ →
    (∀ (x : D) (ρ : Rho), x ∈ xs → P ρ → ∃ y ρ', f x ρ = some ([y], ρ') ∧ P ρ' ∧ Q y) →
    ∃ ys ρ', compL f xs ρ = some (ys, ρ') ∧ P ρ' ∧ ys.length = xs.length ∧ ∀ y ∈ ys, Q y
  | [], ρ, p, _ => ⟨[], ρ, rfl, p, rfl, by simp⟩
  | x :: xs, ρ, p, h => by
    obtain ⟨y, ρ1, e1, p1, q1⟩ := h x ρ (by simp) p
    obtain ⟨ys, ρ2, e2, p2, l2, q2⟩ := compL_inv P Q (xs := xs) p1 fun z ρ hz q => h z ρ (by simp [hz]) q
    refine ⟨y :: ys, ρ2, ?_, p2, by simp [l2], ?_⟩
    · unfold compL; rw [e1]; dsimp only; rw [e2]; rfl
    · intro z hz
      rcases List.mem_cons.mp hz with e | e
      · rw [e]; exact q1
      · exact q2 z e
def upto (n : Nat) : List Int := (List.range n).map Int.ofNat
theorem rng_upto (b : Int) : rngD 0 b = (upto b.toNat).map .int := by
  unfold rngD upto
  rw [List.map_map, Int.sub_zero]
  apply List.map_congr_left
  intro x _
  simp
theorem mem_upto {n : Nat} {i : Int} : i ∈ upto n ↔ 0 ≤ i ∧ i < n := by
  unfold upto
  simp only [List.mem_map, List.mem_range]
  constructor
  · rintro ⟨a, h, e⟩; subst e; simp; omega
  · rintro ⟨h1, h2⟩; exact ⟨i.toNat, by omega, by simp; omega⟩
theorem upto_length (n : Nat) : (upto n).length = n := by simp [upto]
theorem upto_get {n i : Nat} (h : i < n) : (upto n)[i]? = some (i : Int) := by simp [upto, h]
theorem enum_mem : ∀ {xs : List D} {n : Nat} {x : D}, x ∈ enumD n xs → ∃ (i : Nat) (y : D), x = .tuple [.int (n + i : Nat), y] ∧ xs[i]? = some y
  | [], _, _, h => by simp [enumD] at h
  | y :: ys, n, x, h => by
    unfold enumD at h
    rcases List.mem_cons.mp h with e | e
    · exact ⟨0, y, by simpa using e, rfl⟩
    · obtain ⟨i, z, h1, h2⟩ := enum_mem e
      exact ⟨i + 1, z, by rw [h1, show n + 1 + i = n + (i + 1) by omega], by simpa using h2⟩
/-! ### a body's walk -/
def Wx (r : Option (Out × Rho)) (Q : Out → Rho → Prop) : Prop := ∃ o ρ', r = some (o, ρ') ∧ Q o ρ'
theorem wx_mono {r : Option (Out × Rho)} {Q Q' : Out → Rho → Prop} (h : Wx r Q) (m : ∀ o ρ, Q o ρ → Q' o ρ) : Wx r Q' := by
  obtain ⟨o, ρ, e, q⟩ := h
  exact ⟨o, ρ, e, m o ρ q⟩
theorem wx_seq {c : FT} {a b : S} {ρ ρ1 : Rho} {Q : Out → Rho → Prop} (h : ex c a ρ = some (.nx, ρ1)) (w : Wx (ex c b ρ1) Q) : Wx (ex c (.seq a b) ρ) Q := by
  unfold ex; rw [h]; exact w
theorem wx_seqQ {c : FT} {a b : S} {ρ : Rho} {Q : Out → Rho → Prop} (h : ∃ ρ1, ex c a ρ = some (.nx, ρ1) ∧ Wx (ex c b ρ1) Q) : Wx (ex c (.seq a b) ρ) Q := by
  obtain ⟨ρ1, h, w⟩ := h
  exact wx_seq h w
theorem wx_seqR {c : FT} {a b : S} {ρ ρ1 : Rho} {v : SV} {Q : Out → Rho → Prop} (h : ex c a ρ = some (.rt v, ρ1)) (q : Q (.rt v) ρ1) : Wx (ex c (.seq a b) ρ) Q := by
  refine ⟨.rt v, ρ1, ?_, q⟩
  unfold ex; rw [h]
theorem wx_skip {c : FT} {ρ : Rho} {Q : Out → Rho → Prop} (q : Q .nx ρ) : Wx (ex c .skip ρ) Q := ⟨.nx, ρ, by unfold ex; rfl, q⟩
theorem ex_for {c : FT} {t : Tg} {it : E} {b : S} {ρ ρ1 : Rho} {xs : List D} (h : evi c it ρ = some (xs, ρ1)) : ex c (.for_ t it b) ρ = forL (fun x ρ2 => ob (bindT t x ρ2) fun ρ3 => ex c b ρ3) xs ρ1 := by
  show bd (evi c it ρ) _ = _
  rw [h]; rfl
theorem ev_comp {c : FT} {el it cond : E} {t : Tg} {vs : List Nat} {ρ ρ1 ρ2 : Rho} {xs ys : List D} (h : evi c it ρ = some (xs, ρ1))
    (w : compL (fun x ρ2 => ob (bindT t x ρ2) fun ρ3 => bd (cnd ρ3 cond (ev c cond ρ3)) fun k ρ4 => if k = true then bz (ev c el ρ4) fun y ρ5 => some ([y], wipe ρ5 vs) else some ([], wipe ρ4 vs)) xs (wipe ρ1 vs) = some (ys, ρ2))
    (l : ys.length < 16777216) : ev c (.comp el it t cond vs) ρ = some (.own ys, back ρ1 ρ2 vs) := by
  show bd (evi c it ρ) _ = _
  rw [h]
  show bd (compL _ xs (wipe ρ1 vs)) _ = _
  rw [w]
  show (if okL ys.length = true then _ else _) = _
  rw [if_pos (by simp [okL, l])]
/-- a run by its body's walk -/
theorem run_wx {k f : Nat} {fn : Fn} {row : Option (List D)} {ds : List D} {ρ : Rho} {Q : SV → List D → Prop} (h : TB.fn f = some fn) (s : start fn row ds = some ρ)
    (w : Wx (ex (run TB.fn k) fn.body ρ) fun o ρ' => ∃ v r, outV o = some v ∧ endR fn.io ρ' = some r ∧ Q v r) : ∃ v r, run TB.fn (k + 1) f row ds = some (v, r) ∧ Q v r := by
  obtain ⟨o, ρ', e, v, r, h1, h2, q⟩ := w
  refine ⟨v, r, ?_, q⟩
  rw [run_succ h]
  unfold runB
  rw [s]
  show bd (ex (run TB.fn k) fn.body ρ) _ = _
  rw [e]
  show ob (outV o) _ = _
  rw [h1]
  show ob (endR fn.io ρ') _ = _
  rw [h2]
  rfl
theorem run_eq {k f : Nat} {fn : Fn} {row : Option (List D)} {ds : List D} {v : SV} {r : List D} (ρ : Rho) (h : TB.fn f = some fn) (s : start fn row ds = some ρ)
    (w : Wx (ex (run TB.fn k) fn.body ρ) fun o ρ' => outV o = some v ∧ endR fn.io ρ' = some r) : run TB.fn (k + 1) f row ds = some (v, r) := by
  obtain ⟨v', r', e, h1, h2⟩ := run_wx (Q := fun a b => a = v ∧ b = r) h s (wx_mono w fun o ρ' q => ⟨v, r, q.1, q.2, rfl, rfl⟩)
  rw [e, h1, h2]

/-! tables, coins -/
def tupI (cs : List Int) : D := .tuple (cs.map .int)
def tabD (f : Int) (cs : List Int) : D := .tuple [.int f, tupI cs]
/-- the coin at a place -/
def at_ (cs : List Int) (k : Int) : Int := cs.getD k.toNat 0
structure Table (f : Int) (cs : List Int) : Prop where
  f2 : 2 ≤ f
  f9 : f ≤ 9
  l1 : 1 ≤ cs.length
  l6 : cs.length ≤ 6
  nn : ∀ c ∈ cs, 0 ≤ c
  mx : ∀ c ∈ cs, c ≤ 1000000
  s0 : cs.sum ≠ 0
/-- coins small enough for all that is reckoned -/
structure Bd (cs : List Int) : Prop where
  len : cs.length ≤ 1000
  b : ∀ c ∈ cs, c.natAbs < 2 ^ 8000
theorem big_lt {i : Int} {n : Nat} (h : i.natAbs < 2 ^ n) (hn : n < 9000) : big i = true := by
  unfold big
  rcases Nat.eq_zero_or_pos i.natAbs with e | e
  · rw [e]; decide
  · have : i.natAbs.log2 < n := (Nat.log2_lt (by omega)).mpr h
    simp; omega
theorem sum_abs {M : Nat} : ∀ {cs : List Int}, (∀ c ∈ cs, c.natAbs ≤ M) → cs.sum.natAbs ≤ cs.length * M
  | [], _ => by simp
  | c :: r, h => by
    have h1 := h c (by simp)
    have h2 := sum_abs (cs := r) fun x hx => h x (by simp [hx])
    rw [List.sum_cons, List.length_cons, Nat.succ_mul]
    have := Int.natAbs_add_le c r.sum
    omega
theorem Bd.sum {cs : List Int} (h : Bd cs) : cs.sum.natAbs < 2 ^ 8010 := by
  have h1 := sum_abs (M := 2 ^ 8000) (cs := cs) fun c hc => Nat.le_of_lt (h.b c hc)
  have h2 : cs.length * 2 ^ 8000 ≤ 1000 * 2 ^ 8000 := Nat.mul_le_mul_right _ h.len
  have h3 : 1000 * 2 ^ 8000 < 2 ^ 8010 := by
    rw [show (8010 : Nat) = 10 + 8000 by rfl, Nat.pow_add]
    exact Nat.mul_lt_mul_of_pos_right (by decide) (Nat.pow_pos (by decide))
  exact Nat.lt_of_le_of_lt (Nat.le_trans h1 h2) h3
theorem Bd.bigS {cs : List Int} (h : Bd cs) : big cs.sum = true := big_lt h.sum (by decide)
theorem Bd.bigC {cs : List Int} (h : Bd cs) {c : Int} (hc : c ∈ cs) : big c = true := big_lt (h.b c hc) (by decide)
theorem at_mem {cs : List Int} {k : Int} (h0 : 0 ≤ k) (h1 : k < cs.length) : at_ cs k ∈ cs := by
  unfold at_
  have h2 : k.toNat < cs.length := by omega
  rw [List.getD_eq_getElem?_getD, List.getElem?_eq_getElem h2]
  exact List.getElem_mem h2
theorem at_some {cs : List Int} {k : Int} (h0 : 0 ≤ k) (h1 : k < cs.length) : cs[k.toNat]? = some (at_ cs k) := by
  have h2 : k.toNat < cs.length := by omega
  unfold at_
  rw [List.getD_eq_getElem?_getD, List.getElem?_eq_getElem h2]
  rfl
theorem ixD_at {cs : List Int} {k : Int} (h0 : 0 ≤ k) (h1 : k < cs.length) : ixD (cs.map .int) k = some (.int (at_ cs k)) :=
  ixD_of h0 (by rw [List.getElem?_map, at_some h0 h1]; rfl)
theorem ixN_at {n : Nat} {k : Int} (h0 : 0 ≤ k) (h1 : k < n) : L2.ixN n k = some k.toNat := by
  unfold L2.ixN
  rw [if_pos h0, if_pos h1]
theorem Bd.bigA {cs : List Int} (h : Bd cs) (k : Int) : big (at_ cs k) = true := by
  unfold at_
  rw [List.getD_eq_getElem?_getD]
  cases e : cs[k.toNat]? with
  | none => decide
  | some c => exact h.bigC (List.mem_of_getElem? e)
theorem Table.bd {f : Int} {cs : List Int} (h : Table f cs) : Bd cs := by
  refine ⟨by have := h.l6; omega, fun c hc => ?_⟩
  have h1 := h.nn c hc
  have h2 := h.mx c hc
  have h3 : c.natAbs < 2 ^ 20 := by omega
  exact Nat.lt_of_lt_of_le h3 (Nat.pow_le_pow_right (by decide) (by decide))
theorem Table.sum_pos {f : Int} {cs : List Int} (h : Table f cs) : 0 < cs.sum := by
  have : 0 ≤ cs.sum := by
    have nn := h.nn
    clear h
    induction cs with
    | nil => simp
    | cons c r ih => rw [List.sum_cons]; have := ih fun x hx => nn x (by simp [hx]); have := nn c (by simp); omega
  have := h.s0
  omega
theorem sum_set : ∀ {cs : List Int} {n : Nat} (v : Int), n < cs.length → (cs.set n v).sum = cs.sum - cs.getD n 0 + v
  | [], _, _, h => by simp at h
  | c :: r, 0, v, _ => by simp; omega
  | c :: r, n + 1, v, h => by
    rw [List.set_cons_succ, List.sum_cons, List.sum_cons, sum_set v (by simpa using h)]
    simp; omega
theorem sum_nn : ∀ {cs : List Int}, (∀ c ∈ cs, 0 ≤ c) → 0 ≤ cs.sum
  | [], _ => by simp
  | c :: r, h => by
    rw [List.sum_cons]
    have := sum_nn (cs := r) fun x hx => h x (by simp [hx])
    have := h c (by simp)
    omega
theorem le_sum : ∀ {cs : List Int}, (∀ c ∈ cs, 0 ≤ c) → ∀ c ∈ cs, c ≤ cs.sum
  | [], _, _, h => by simp at h
  | x :: r, h, c, hc => by
    rw [List.sum_cons]
    have h1 := sum_nn (cs := r) fun y hy => h y (by simp [hy])
    rcases List.mem_cons.mp hc with e | e
    · rw [e]; omega
    · have := le_sum (cs := r) (fun y hy => h y (by simp [hy])) c e
      have := h x (by simp)
      omega
theorem sum_mul (a : Int) : ∀ cs : List Int, (cs.map (a * ·)).sum = a * cs.sum
  | [] => by simp
  | c :: r => by rw [List.map_cons, List.sum_cons, List.sum_cons, sum_mul a r, Int.mul_add]
/-! what the program reckons -/
def owedL (f : Int) (cs : List Int) (p : Int) : List Int := (cs.map (f * ·)).set p.toNat (f * at_ cs p - (f - 1) * cs.sum)
def isP (f : Int) (cs : List Int) (k : Int) : Bool := decide ((f - 1) * cs.sum ≤ f * at_ cs k)
def payL (f : Int) (cs : List Int) : List Int := (upto cs.length).filter (isP f cs)
theorem owedL_length (f : Int) (cs : List Int) (p : Int) : (owedL f cs p).length = cs.length := by simp [owedL]
theorem mem_payL {f : Int} {cs : List Int} {k : Int} : k ∈ payL f cs ↔ (0 ≤ k ∧ k < cs.length) ∧ (f - 1) * cs.sum ≤ f * at_ cs k := by
  unfold payL isP
  rw [List.mem_filter, mem_upto, decide_eq_true_eq]
theorem owedL_at {f : Int} {cs : List Int} {p : Int} (h0 : 0 ≤ p) (h1 : p < cs.length) : at_ (owedL f cs p) p = f * at_ cs p - (f - 1) * cs.sum := by
  have h2 : p.toNat < cs.length := by omega
  show (owedL f cs p).getD p.toNat 0 = _
  unfold owedL
  rw [List.getD_eq_getElem?_getD, List.getElem?_set_self (by simpa using h2)]
  rfl
theorem owedL_ne {f : Int} {cs : List Int} {p k : Int} (h0 : 0 ≤ p) (k0 : 0 ≤ k) (k1 : k < cs.length) (hn : k ≠ p) : at_ (owedL f cs p) k = f * at_ cs k := by
  have h2 : k.toNat < cs.length := by omega
  show (owedL f cs p).getD k.toNat 0 = _
  unfold owedL
  rw [List.getD_eq_getElem?_getD, List.getElem?_set_ne (by omega), List.getElem?_map, at_some k0 k1]
  rfl

theorem ex_set {c : FT} {i : Nat} {e : E} {ρ ρ1 ρ2 : Rho} {v : SV} (h : ev c e ρ = some (v, ρ1)) (p : put ρ1 i v = some ρ2) : ex c (.set i e) ρ = some (.nx, ρ2) := by
  unfold ex
  rw [h]
  show ob (put ρ1 i v) _ = _
  rw [p]; rfl
theorem ex_ret {c : FT} {e : E} {ρ ρ1 : Rho} {v : SV} (h : evo c e ρ = some (v, ρ1)) : ex c (.ret e) ρ = some (.rt v, ρ1) := by
  unfold ex
  rw [h]
  rfl
theorem ex_retE {c : FT} {e : E} {ρ ρ1 : Rho} {v : SV} (n : isVar e = none) (h : ev c e ρ = some (v, ρ1)) : ex c (.ret e) ρ = some (.rt v, ρ1) := by
  refine ex_ret ?_
  unfold evo
  rw [n]
  exact h
/-- a loop whose turns do not end it -/
theorem wx_for {c : FT} {t : Tg} {it : E} {b : S} {ρ ρ1 : Rho} {xs : List D} (h : evi c it ρ = some (xs, ρ1)) (P : Nat → Rho → Prop) (p0 : P 0 ρ1)
    (step : ∀ (j : Nat) (x : D) (ρ : Rho), xs[j]? = some x → P j ρ → ∃ ρ2, bindT t x ρ = some ρ2 ∧ Wx (ex c b ρ2) fun o ρ' => o = .nx ∧ P (j + 1) ρ') :
    ∃ ρ', ex c (.for_ t it b) ρ = some (.nx, ρ') ∧ P xs.length ρ' := by
  rw [ex_for h]
  have := forL_inv (f := fun x ρ2 => ob (bindT t x ρ2) fun ρ3 => ex c b ρ3) P (xs := xs) (n := 0) (ρ := ρ1) p0 fun j x ρ hx p => by
    obtain ⟨ρ2, e, o, ρ3, e2, rfl, q⟩ := step j x ρ hx (by simpa using p)
    refine ⟨ρ3, ?_, by simpa using q⟩
    show ob (bindT t x ρ) _ = _
    rw [e]
    exact e2
  simpa using this
/-- a slot that a target may be stored to -/
def cold (sv : SV) : Prop := sv = .un ∨ ∃ d, sv = .val d
theorem cold_un : cold .un := .inl rfl
theorem cold_val {d : D} : cold (.val d) := .inr ⟨d, rfl⟩
theorem is_factor_ok (k : Nat) (f : Int) : run TB.fn (k + 2) 2 none [.int f] = some (.val (.bool (decide (2 ≤ f) && decide (f ≤ 9))), []) := by
  rw [run_succ look_2]
  simp [runB, start, ob, bd, bz, bt, ex, evo, evm, isVar, ev, evs, evi, rd, frz, truth, isiT, isNon, cmp2, idx2, itemsD, seqD, slotD, slotL, putL, put, puts, bindT, blt1, blt2, op2, rdr, prt, cnd, isNil, outV, endR, wipe, back, partD, slice3, ix0, ix1, ix2, ix3, ints_map, augO, isI, okL, tupI, tabD, fn_2, is_in_ok]
theorem enum_int {cs : List Int} {j : Nat} {x : D} (h : (enumD 0 (cs.map .int))[j]? = some x) : ∃ c, x = .tuple [.int (j : Int), .int c] ∧ cs[j]? = some c := by
  obtain ⟨d, h1, h2⟩ := enumD_at h
  rw [List.getElem?_map] at h1
  cases e : cs[j]? with
  | none => rw [e] at h1; cases h1
  | some c =>
    rw [e] at h1
    cases h1
    exact ⟨c, by rw [h2, Nat.zero_add], rfl⟩
theorem need_table_ok (k : Nat) {f : Int} {cs : List Int} (h : Table f cs) : run TB.fn (k + 3) 3 none [tabD f cs] = some (.val .none, []) := by
  obtain ⟨f2, f9, l1, l6, nn, mx, s0⟩ := h
  have g1 : (1 : Int) ≤ cs.length := by omega
  have g2 : (cs.length : Int) ≤ 6 := by omega
  refine run_eq [.val (tabD f cs), .un, .un] look_3 rfl ?_
  refine wx_seq (ρ1 := [.val (tabD f cs), .un, .un]) (by simp [runB, start, ob, bd, bz, bt, ex, evo, evm, isVar, ev, evs, evi, rd, frz, truth, isiT, isNon, cmp2, idx2, itemsD, seqD, slotD, slotL, putL, put, puts, bindT, blt1, blt2, op2, rdr, prt, cnd, isNil, outV, endR, wipe, back, partD, slice3, ix0, ix1, ix2, ix3, ints_map, augO, isI, okL, tupI, tabD, is_factor_ok, f2, f9]) ?_
  refine wx_seq (ρ1 := [.val (tabD f cs), .un, .un]) (by simp [runB, start, ob, bd, bz, bt, ex, evo, evm, isVar, ev, evs, evi, rd, frz, truth, isiT, isNon, cmp2, idx2, itemsD, seqD, slotD, slotL, putL, put, puts, bindT, blt1, blt2, op2, rdr, prt, cnd, isNil, outV, endR, wipe, back, partD, slice3, ix0, ix1, ix2, ix3, ints_map, augO, isI, okL, tupI, tabD, g1, g2]) ?_
  obtain ⟨ρ', e, a, b, rfl, ha, hb⟩ := wx_for (c := run TB.fn (k + 2)) (t := .many [1, 2]) (it := (.enum (.idx (.var 0) (.int 1)))) (b := (.seq (.ite (.not (.call 1 (.cons (.var 2) (.cons (.int 0) (.cons (.int 1000000) .nil))))) (.seq .never .skip) .skip) .skip))
    (ρ := [.val (tabD f cs), .un, .un]) (ρ1 := [.val (tabD f cs), .un, .un]) (xs := enumD 0 (cs.map .int)) (by simp [runB, start, ob, bd, bz, bt, ex, evo, evm, isVar, ev, evs, evi, rd, frz, truth, isiT, isNon, cmp2, idx2, itemsD, seqD, slotD, slotL, putL, put, puts, bindT, blt1, blt2, op2, rdr, prt, cnd, isNil, outV, endR, wipe, back, partD, slice3, ix0, ix1, ix2, ix3, ints_map, augO, isI, okL, tupI, tabD]) (fun _ ρ => ∃ a b, ρ = [.val (tabD f cs), a, b] ∧ cold a ∧ cold b) ⟨.un, .un, rfl, cold_un, cold_un⟩ (by
      rintro j x ρ hx ⟨a, b, rfl, ha, hb⟩
      obtain ⟨c, rfl, hc⟩ := enum_int hx
      have hc := List.mem_of_getElem? hc
      have h1 := nn c hc
      have h2 := mx c hc
      refine ⟨[.val (tabD f cs), .val (.int j), .val (.int c)], by rcases ha with rfl | ⟨d1, rfl⟩ <;> rcases hb with rfl | ⟨d2, rfl⟩ <;> simp [runB, start, ob, bd, bz, bt, ex, evo, evm, isVar, ev, evs, evi, rd, frz, truth, isiT, isNon, cmp2, idx2, itemsD, seqD, slotD, slotL, putL, put, puts, bindT, blt1, blt2, op2, rdr, prt, cnd, isNil, outV, endR, wipe, back, partD, slice3, ix0, ix1, ix2, ix3, ints_map, augO, isI, okL, tupI, tabD], ?_⟩
      exact ⟨.nx, [.val (tabD f cs), .val (.int j), .val (.int c)], by simp [runB, start, ob, bd, bz, bt, ex, evo, evm, isVar, ev, evs, evi, rd, frz, truth, isiT, isNon, cmp2, idx2, itemsD, seqD, slotD, slotL, putL, put, puts, bindT, blt1, blt2, op2, rdr, prt, cnd, isNil, outV, endR, wipe, back, partD, slice3, ix0, ix1, ix2, ix3, ints_map, augO, isI, okL, tupI, tabD, is_in_ok, h1, h2], rfl, _, _, rfl, cold_val, cold_val⟩)
  refine wx_seq e ?_
  refine wx_seq (ρ1 := [.val (tabD f cs), a, b]) (by simp [runB, start, ob, bd, bz, bt, ex, evo, evm, isVar, ev, evs, evi, rd, frz, truth, isiT, isNon, cmp2, idx2, itemsD, seqD, slotD, slotL, putL, put, puts, bindT, blt1, blt2, op2, rdr, prt, cnd, isNil, outV, endR, wipe, back, partD, slice3, ix0, ix1, ix2, ix3, ints_map, augO, isI, okL, tupI, tabD, s0]) ?_
  exact wx_skip ⟨rfl, rfl⟩
theorem owed_in_ok (k : Nat) {f p : Int} {cs : List Int} (hf : f.natAbs < 2 ^ 100) (B : Bd cs) (h0 : 0 ≤ p) (h1 : p < cs.length) : run TB.fn (k + 1) 6 none [.int f, tupI cs, .int p] = some (.val (tupI (owedL f cs p)), []) := by
  have bf : big f = true := big_lt hf (by decide)
  have bf1 : big (f - 1) = true := big_lt (n := 101) (by omega) (by decide)
  refine run_eq [.val (.int f), .val (tupI cs), .val (.int p), .un, .un] look_6 rfl ?_
  refine wx_seq (ρ1 := [.val (.int f), .val (tupI cs), .val (.int p), .own (cs.map fun x => .int (f * x)), .un]) (ex_set (ev_comp (xs := cs.map .int) (ρ1 := [.val (.int f), .val (tupI cs), .val (.int p), .un, .un]) (by simp [runB, start, ob, bd, bz, bt, ex, evo, evm, isVar, ev, evs, evi, rd, frz, truth, isiT, isNon, cmp2, idx2, itemsD, seqD, slotD, slotL, putL, put, puts, bindT, blt1, blt2, op2, rdr, prt, cnd, isNil, outV, endR, wipe, back, partD, slice3, ix0, ix1, ix2, ix3, ints_map, augO, isI, okL, tupI, tabD]) (compL_ints (fun x => .int (f * x)) fun x hx => by simp [runB, start, ob, bd, bz, bt, ex, evo, evm, isVar, ev, evs, evi, rd, frz, truth, isiT, isNon, cmp2, idx2, itemsD, seqD, slotD, slotL, putL, put, puts, bindT, blt1, blt2, op2, rdr, prt, cnd, isNil, outV, endR, wipe, back, partD, slice3, ix0, ix1, ix2, ix3, ints_map, augO, isI, okL, tupI, tabD, bf, B.bigC hx]) (by have := B.len; simp; omega)) rfl) ?_
  refine wx_seq (ρ1 := [.val (.int f), .val (tupI cs), .val (.int p), .own ((owedL f cs p).map .int), .un]) ?_ ?_
  · have ix := ixN_at (n := cs.length) h0 h1
    simp [runB, start, ob, bd, bz, bt, ex, evo, evm, isVar, ev, evs, evi, rd, frz, truth, isiT, isNon, cmp2, idx2, itemsD, seqD, slotD, slotL, putL, put, puts, bindT, blt1, blt2, op2, rdr, prt, cnd, isNil, outV, endR, wipe, back, partD, slice3, ix0, ix1, ix2, ix3, ints_map, augO, isI, okL, tupI, tabD, ixD_at h0 h1, bf, bf1, B.bigA, B.bigS, ix, owedL, List.map_set]
    rfl
  · refine wx_seqR (v := .val (tupI (owedL f cs p))) (ex_ret (by simp [runB, start, ob, bd, bz, bt, ex, evo, evm, isVar, ev, evs, evi, rd, frz, truth, isiT, isNon, cmp2, idx2, itemsD, seqD, slotD, slotL, putL, put, puts, bindT, blt1, blt2, op2, rdr, prt, cnd, isNil, outV, endR, wipe, back, partD, slice3, ix0, ix1, ix2, ix3, ints_map, augO, isI, okL, tupI, tabD]; rfl)) ⟨rfl, rfl⟩
theorem payL_le (f : Int) (cs : List Int) : (payL f cs).length ≤ cs.length := by
  have := List.length_filter_le (isP f cs) (upto cs.length)
  rwa [upto_length] at this

theorem rngOk_of {a : Int} (h1 : -1000000000 < a) (h2 : a < 1000000000) : rngOk a = true := by
  unfold rngOk
  rw [decide_eq_true h1, decide_eq_true h2]
  rfl
theorem Bd.rng {cs : List Int} (B : Bd cs) : rngOk cs.length = true := by
  have := B.len
  exact rngOk_of (by omega) (by omega)
theorem evi_rng1 {c : FT} {e : E} {ρ ρ1 : Rho} {n : Int} (h : ev c e ρ = some (.val (.int n), ρ1)) (hr : rngOk n = true) : evi c (.rng1 e) ρ = some ((upto n.toNat).map .int, ρ1) := by
  rw [← rng_upto]
  show bz (ev c e ρ) _ = _
  rw [h]
  show (if rngOk n = true then _ else _) = _
  rw [if_pos hr]
theorem payers_in_ok (k : Nat) {f : Int} {cs : List Int} (hf : f.natAbs < 2 ^ 100) (B : Bd cs) : run TB.fn (k + 1) 7 none [.int f, tupI cs] = some (.own ((payL f cs).map .int), []) := by
  have bf : big f = true := big_lt hf (by decide)
  have bf1 : big (f - 1) = true := big_lt (n := 101) (by omega) (by decide)
  refine run_eq [.val (.int f), .val (tupI cs), .un] look_7 rfl ?_
  refine wx_seqR (v := .own ((payL f cs).map .int)) (ex_retE rfl (ev_comp (ρ1 := [.val (.int f), .val (tupI cs), .un]) (evi_rng1 (n := (cs.length : Int)) (by simp [runB, start, ob, bd, bz, bt, ex, evo, evm, isVar, ev, evs, evi, rd, frz, truth, isiT, isNon, cmp2, idx2, itemsD, seqD, slotD, slotL, putL, put, puts, bindT, blt1, blt2, op2, rdr, prt, cnd, isNil, outV, endR, wipe, back, partD, slice3, ix0, ix1, ix2, ix3, ints_map, augO, isI, okL, tupI, tabD]) B.rng) (compL_filt (isP f cs) .int fun x hx => ?_) (by have := B.len; have := payL_le f cs; rw [List.length_map]; show (payL f cs).length < 16777216; omega))) ⟨rfl, rfl⟩
  obtain ⟨x0, x1⟩ := mem_upto.mp hx
  by_cases hc : (f - 1) * cs.sum ≤ f * at_ cs x
  · simp [runB, start, ob, bd, bz, bt, ex, evo, evm, isVar, ev, evs, evi, rd, frz, truth, isiT, isNon, cmp2, idx2, itemsD, seqD, slotD, slotL, putL, put, puts, bindT, blt1, blt2, op2, rdr, prt, cnd, isNil, outV, endR, wipe, back, partD, slice3, ix0, ix1, ix2, ix3, ints_map, augO, isI, okL, tupI, tabD, ixD_at x0 x1, bf, bf1, B.bigA, B.bigS, isP, hc]
  · simp [runB, start, ob, bd, bz, bt, ex, evo, evm, isVar, ev, evs, evi, rd, frz, truth, isiT, isNon, cmp2, idx2, itemsD, seqD, slotD, slotL, putL, put, puts, bindT, blt1, blt2, op2, rdr, prt, cnd, isNil, outV, endR, wipe, back, partD, slice3, ix0, ix1, ix2, ix3, ints_map, augO, isI, okL, tupI, tabD, ixD_at x0 x1, bf, bf1, B.bigA, B.bigS, isP, hc]
theorem Table.bf {f : Int} {cs : List Int} (h : Table f cs) : f.natAbs < 2 ^ 100 := by
  have := h.f2
  have := h.f9
  have : f.natAbs < 2 ^ 4 := by omega
  exact Nat.lt_of_lt_of_le this (Nat.pow_le_pow_right (by decide) (by decide))
theorem ev_call {c : FT} {f : Nat} {es : E} {ρ ρ1 : Rho} {ds row : List D} {v : SV} (h : evs c es ρ = some (ds, ρ1)) (r : c f none ds = some (v, row)) : ev c (.call f es) ρ = some (v, ρ1) := by
  show bd (evs c es ρ) _ = _
  rw [h]
  show ob (c f none ds) _ = _
  rw [r]; rfl
theorem ev_blt1 {c : FT} {f : B1} {a : E} {ρ ρ1 : Rho} {x : D} {sv v : SV} (n : isVar a = none) (h : ev c a ρ = some (sv, ρ1)) (z : frz sv = some x) (b : blt1 f x = some v) : ev c (.blt1 f a) ρ = some (v, ρ1) := by
  show bd (rdr ρ a (ev c a ρ)) _ = _
  unfold rdr
  rw [n, h]
  show bd (bz (some (sv, ρ1)) _) _ = _
  unfold bz
  simp only [z, bd, b, ob]
theorem eqv_int (a b : Int) : PyData.eqv (.int a) (.int b) = decide (a = b) := by
  simp [PyData.eqv]
  by_cases h : a = b <;> simp [h]
theorem any_int {p : Int} : ∀ l : List Int, ((l.map .int).any fun z => PyData.eqv z (.int p)) = decide (p ∈ l)
  | [] => rfl
  | x :: r => by
    rw [List.map_cons, List.any_cons, any_int r, eqv_int]
    by_cases h1 : x = p <;> by_cases h2 : p ∈ r <;> simp [h1, h2]
    · intro h; exact h1 h.symm
theorem lay_ints : ∀ l : List Int, PyData.canLayAll0 (l.map .int) = true
  | [] => rfl
  | x :: r => by
    rw [List.map_cons]
    simp [PyData.canLayAll0, PyData.canLay0, lay_ints r]
theorem flat_ints (l : List Int) : (l.map PyData.int).all flatD = true := by
  induction l with
  | nil => rfl
  | cons x r ih => rw [List.map_cons, List.all_cons, ih]; rfl
theorem dep_ints : ∀ l : List Int, PyData.depthAll (l.map .int) ≤ 1
  | [] => by simp [PyData.depthAll]
  | x :: r => by
    rw [List.map_cons]
    have := dep_ints r
    simp [PyData.depthAll, PyData.depth]
    omega
theorem shp_list (l : List Int) : shp (.list (l.map .int)) = true := by
  have h1 := lay_ints l
  have h2 := dep_ints l
  simp [shp, SeqAt.shaped, PyData.canLay0, PyData.depth, h1]
  omega
theorem shp_tup (l : List Int) : shp (tupI l) = true := by
  have h1 := lay_ints l
  have h2 := dep_ints l
  simp [shp, SeqAt.shaped, tupI, PyData.canLay0, PyData.depth, h1]
  omega
theorem shp_int (i : Int) : shp (.int i) = true := by simp [shp, SeqAt.shaped, PyData.canLay0, PyData.depth]
theorem isin_list (p : Int) (l : List Int) : cmp2 .isin (.int p) (.list (l.map .int)) = some (decide (p ∈ l)) := by
  simp [cmp2, shp_int, shp_list, ← any_int]
theorem notin_list (p : Int) (l : List Int) : cmp2 .notin (.int p) (.list (l.map .int)) = some (!decide (p ∈ l)) := by
  simp [cmp2, shp_int, shp_list, ← any_int]
theorem isin_tup (p : Int) (l : List Int) : cmp2 .isin (.int p) (tupI l) = some (decide (p ∈ l)) := by
  simp [cmp2, flatD, tupI, flat_ints, ← any_int]

theorem ev_cmp {c : FT} {o : Cm} {a b : E} {ρ ρ1 ρ2 : Rho} {sva svb : SV} {x y : D} {t : Bool} (ha : ev c a ρ = some (sva, ρ1)) (za : frz sva = some x) (hb : ev c b ρ1 = some (svb, ρ2)) (zb : frz svb = some y) (e : cmp2 o x y = some t) : ev c (.cmp o a b) ρ = some (.val (.bool t), ρ2) := by
  show bz (ev c a ρ) _ = _
  rw [ha]
  unfold bz
  simp only [za, hb, zb, e, ob]
theorem ex_iteT {c : FT} {k : E} {a b : S} {ρ ρ1 : Rho} (h : ev c k ρ = some (.val (.bool true), ρ1)) : ex c (.ite k a b) ρ = ex c a ρ1 := by
  show bt (ev c k ρ) _ = _
  rw [h]; rfl
theorem ex_iteF {c : FT} {k : E} {a b : S} {ρ ρ1 : Rho} (h : ev c k ρ = some (.val (.bool false), ρ1)) : ex c (.ite k a b) ρ = ex c b ρ1 := by
  show bt (ev c k ρ) _ = _
  rw [h]; rfl
theorem ex_skip {c : FT} {ρ : Rho} : ex c .skip ρ = some (.nx, ρ) := by unfold ex; rfl
theorem ixD_in {ds : List D} {v : Int} (h0 : 0 ≤ v) (h1 : v < ds.length) : ∃ d, ixD ds v = some d ∧ d ∈ ds := by
  have h2 : v.toNat < ds.length := by omega
  exact ⟨ds[v.toNat], ixD_of h0 (List.getElem?_eq_getElem h2), List.getElem_mem h2⟩
theorem pick_ok {ns : List Int} {row : List D} (k : Nat) {ds : List D} (h : RowOk ns row) (h1 : 0 < ds.length) (h2 : ds.length < 2 ^ 50) :
    ∃ d row', run TB.fn (k + 2) 13 (some row) [.list ds] = some (.val d, row') ∧ d ∈ ds ∧ RowOk ns row' := by
  obtain ⟨v, row', e, v0, v1, r⟩ := taken_ok (m := ds.length) k h (by omega) (by omega)
  obtain ⟨d, e2, m⟩ := ixD_in v0 v1
  refine ⟨d, row', ?_, m, r⟩
  rw [run_succ look_13]
  simp [runB, start, ob, bd, bz, bt, ex, evo, evm, isVar, ev, evs, evi, rd, frz, truth, isiT, isNon, cmp2, idx2, itemsD, seqD, slotD, slotL, putL, put, puts, bindT, blt1, blt2, op2, rdr, prt, cnd, isNil, outV, endR, wipe, back, partD, slice3, ix0, ix1, ix2, ix3, ints_map, augO, isI, okL, tupI, tabD, fn_13, e, e2]
theorem upto_at {α : Type} (g : Int → α) : ∀ cs : List Int, (upto cs.length).map (fun k => g (at_ cs k)) = cs.map g := by
  intro cs
  apply List.ext_getElem?
  intro i
  rw [List.getElem?_map, List.getElem?_map]
  by_cases h : i < cs.length
  · rw [upto_get h, List.getElem?_eq_getElem h]
    simp only [Option.map_some]
    unfold at_
    rw [Int.toNat_natCast, List.getD_eq_getElem?_getD, List.getElem?_eq_getElem h]
    rfl
  · rw [List.getElem?_eq_none (by rw [upto_length]; omega), List.getElem?_eq_none (by omega)]
    rfl
theorem at_map (g : Int → Int) {cs : List Int} {k : Int} (h0 : 0 ≤ k) (h1 : k < cs.length) : at_ (cs.map g) k = g (at_ cs k) := by
  have h2 : k.toNat < cs.length := by omega
  unfold at_
  simp [List.getD_eq_getElem?_getD, h2]
theorem ixD_atg (g : Int → D) {cs : List Int} {k : Int} (h0 : 0 ≤ k) (h1 : k < cs.length) : ixD (cs.map g) k = some (g (at_ cs k)) :=
  ixD_of h0 (by rw [List.getElem?_map, at_some h0 h1]; rfl)
theorem l_owed_ok (k : Nat) {f p : Int} {cs : List Int} (hf : f.natAbs < 2 ^ 100) (B : Bd cs) (h0 : 0 ≤ p) (h1 : p < cs.length) : run TB.fn (k + 1) 15 none [.int f, tupI cs, .int p] = some (.val (tupI (owedL f cs p)), []) := by
  have bf1 : big (f - 1) = true := big_lt (n := 101) (by omega) (by decide)
  have len : cs.length < 16777216 := by have := B.len; omega
  refine run_eq [.val (.int f), .val (tupI cs), .val (.int p), .un, .un, .un, .un] look_15 rfl ?_
  refine wx_seq (ρ1 := [.val (.int f), .val (tupI cs), .val (.int p), .own (cs.map fun x => .int ((f - 1) * x)), .un, .un, .un]) (ex_set (ev_comp (xs := cs.map .int) (ρ1 := [.val (.int f), .val (tupI cs), .val (.int p), .un, .un, .un, .un]) (by simp [runB, start, ob, bd, bz, bt, ex, evo, evm, isVar, ev, evs, evi, rd, frz, truth, isiT, isNon, cmp2, idx2, itemsD, seqD, slotD, slotL, putL, put, puts, bindT, blt1, blt2, op2, rdr, prt, cnd, isNil, outV, endR, wipe, back, partD, slice3, ix0, ix1, ix2, ix3, ints_map, augO, isI, okL, tupI, tabD]) (compL_ints (fun x => .int ((f - 1) * x)) fun x hx => by simp [runB, start, ob, bd, bz, bt, ex, evo, evm, isVar, ev, evs, evi, rd, frz, truth, isiT, isNon, cmp2, idx2, itemsD, seqD, slotD, slotL, putL, put, puts, bindT, blt1, blt2, op2, rdr, prt, cnd, isNil, outV, endR, wipe, back, partD, slice3, ix0, ix1, ix2, ix3, ints_map, augO, isI, okL, tupI, tabD, bf1, B.bigC hx]) (by simpa using len)) rfl) ?_
  refine wx_seq (ρ1 := [.val (.int f), .val (tupI cs), .val (.int p), .own (cs.map fun x => .int ((f - 1) * x)), .own ((cs.map fun x => f * x).map .int), .un, .un]) (ex_set (v := .own ((cs.map fun x => f * x).map .int)) (ρ1 := [.val (.int f), .val (tupI cs), .val (.int p), .own (cs.map fun x => .int ((f - 1) * x)), .un, .un, .un]) ?_ rfl) ?_
  · have := ev_comp (c := run TB.fn k) (el := .op .add (.idx (.var 1) (.var 6)) (.idx (.var 3) (.var 6))) (cond := .nil) (t := .one 6) (vs := [6]) (ρ := [.val (.int f), .val (tupI cs), .val (.int p), .own (cs.map fun x => .int ((f - 1) * x)), .un, .un, .un]) (ρ1 := [.val (.int f), .val (tupI cs), .val (.int p), .own (cs.map fun x => .int ((f - 1) * x)), .un, .un, .un])
      (evi_rng1 (e := .blt1 .len (.var 1)) (n := (cs.length : Int)) (by simp [runB, start, ob, bd, bz, bt, ex, evo, evm, isVar, ev, evs, evi, rd, frz, truth, isiT, isNon, cmp2, idx2, itemsD, seqD, slotD, slotL, putL, put, puts, bindT, blt1, blt2, op2, rdr, prt, cnd, isNil, outV, endR, wipe, back, partD, slice3, ix0, ix1, ix2, ix3, ints_map, augO, isI, okL, tupI, tabD]) B.rng) (compL_ints (fun x => .int (at_ cs x + (f - 1) * at_ cs x)) fun x hx => by
        obtain ⟨x0, x1⟩ := mem_upto.mp hx
        have y := ixD_atg (fun x => .int ((f - 1) * x)) x0 x1
        simp [runB, start, ob, bd, bz, bt, ex, evo, evm, isVar, ev, evs, evi, rd, frz, truth, isiT, isNon, cmp2, idx2, itemsD, seqD, slotD, slotL, putL, put, puts, bindT, blt1, blt2, op2, rdr, prt, cnd, isNil, outV, endR, wipe, back, partD, slice3, ix0, ix1, ix2, ix3, ints_map, augO, isI, okL, tupI, tabD, ixD_at x0 x1, y]) (by rw [List.length_map, upto_length]; simpa using len)
    rw [show (upto (cs.length : Int).toNat).map (fun x => PyData.int (at_ cs x + (f - 1) * at_ cs x)) = (cs.map fun x => f * x).map .int by
      rw [Int.toNat_natCast, upto_at (fun c => PyData.int (c + (f - 1) * c)), List.map_map]
      apply List.map_congr_left
      intro c _
      exact congrArg PyData.int (by show c + (f - 1) * c = f * c; rw [Int.sub_mul]; omega)] at this
    exact this
  refine wx_seq (ρ1 := [.val (.int f), .val (tupI cs), .val (.int p), .own (cs.map fun x => .int ((f - 1) * x)), .own ((owedL f cs p).map .int), .un, .un]) ?_ ?_
  · have ix := ixN_at (n := cs.length) h0 h1
    have y := ixD_atg (fun x => .int ((f - 1) * x)) h0 h1
    have s : intsD (cs.map fun x => PyData.int ((f - 1) * x)) = some (cs.map fun x => (f - 1) * x) := by
      have := ints_map (cs.map fun x => (f - 1) * x)
      rw [List.map_map] at this
      exact this
    have e : at_ cs p - ((f - 1) * cs.sum - (f - 1) * at_ cs p) = f * at_ cs p - (f - 1) * cs.sum := by
      rw [Int.sub_mul f 1 (at_ cs p)]; omega
    have sm := sum_mul (f - 1) cs
    simp [runB, start, ob, bd, bz, bt, ex, evo, evm, isVar, ev, evs, evi, rd, frz, truth, isiT, isNon, cmp2, idx2, itemsD, seqD, slotD, slotL, putL, put, puts, bindT, blt1, blt2, op2, rdr, prt, cnd, isNil, outV, endR, wipe, back, partD, slice3, ix0, ix1, ix2, ix3, ints_map, augO, isI, okL, tupI, tabD, ixD_at h0 h1, y, s, sm, ix, owedL, List.map_set, e]
  · refine wx_seqR (v := .val (tupI (owedL f cs p))) (ex_ret (by simp [runB, start, ob, bd, bz, bt, ex, evo, evm, isVar, ev, evs, evi, rd, frz, truth, isiT, isNon, cmp2, idx2, itemsD, seqD, slotD, slotL, putL, put, puts, bindT, blt1, blt2, op2, rdr, prt, cnd, isNil, outV, endR, wipe, back, partD, slice3, ix0, ix1, ix2, ix3, ints_map, augO, isI, okL, tupI, tabD]; rfl)) ⟨rfl, rfl⟩

theorem ex_seq {c : FT} {a b : S} {ρ ρ1 : Rho} (h : ex c a ρ = some (.nx, ρ1)) : ex c (.seq a b) ρ = ex c b ρ1 := by
  conv => lhs; unfold ex
  rw [h]
theorem ex_seqR {c : FT} {a b : S} {ρ ρ1 : Rho} {v : SV} (h : ex c a ρ = some (.rt v, ρ1)) : ex c (.seq a b) ρ = some (.rt v, ρ1) := by
  conv => lhs; unfold ex
  rw [h]
theorem ev_lst0 {c : FT} {ρ : Rho} : ev c (.lst .nil) ρ = some (.own [], ρ) := by simp [runB, start, ob, bd, bz, bt, ex, evo, evm, isVar, ev, evs, evi, rd, frz, truth, isiT, isNon, cmp2, idx2, itemsD, seqD, slotD, slotL, putL, put, puts, bindT, blt1, blt2, op2, rdr, prt, cnd, isNil, outV, endR, wipe, back, partD, slice3, ix0, ix1, ix2, ix3, ints_map, augO, isI, okL, tupI, tabD]
theorem eq_nil : cmp2 .eq (.list []) (.list []) = some true := by rfl
theorem isP_owed {f k : Int} {cs : List Int} (h0 : 0 ≤ k) (h1 : k < cs.length) : decide (0 ≤ at_ (owedL f cs k) k) = isP f cs k := by
  rw [owedL_at h0 h1]
  unfold isP
  by_cases h : (f - 1) * cs.sum ≤ f * at_ cs k
  · rw [decide_eq_true h, decide_eq_true (by omega)]
  · rw [decide_eq_false h, decide_eq_false (by omega)]
theorem l_payers_ok (k : Nat) {f : Int} {cs : List Int} (hf : f.natAbs < 2 ^ 100) (B : Bd cs) : run TB.fn (k + 2) 16 none [.int f, tupI cs] = some (.own ((payL f cs).map .int), []) := by
  refine run_eq [.val (.int f), .val (tupI cs), .un] look_16 rfl ?_
  refine wx_seqR (v := .own ((payL f cs).map .int)) (ex_retE rfl (ev_comp (ρ1 := [.val (.int f), .val (tupI cs), .un]) (evi_rng1 (n := (cs.length : Int)) (by simp [runB, start, ob, bd, bz, bt, ex, evo, evm, isVar, ev, evs, evi, rd, frz, truth, isiT, isNon, cmp2, idx2, itemsD, seqD, slotD, slotL, putL, put, puts, bindT, blt1, blt2, op2, rdr, prt, cnd, isNil, outV, endR, wipe, back, partD, slice3, ix0, ix1, ix2, ix3, ints_map, augO, isI, okL, tupI, tabD]) B.rng) (compL_filt (isP f cs) .int fun x hx => ?_) (by have := B.len; have := payL_le f cs; rw [List.length_map]; show (payL f cs).length < 16777216; omega))) ⟨rfl, rfl⟩
  obtain ⟨x0, x1⟩ := mem_upto.mp hx
  have x1 : x < cs.length := by simpa using x1
  have q := l_owed_ok k hf B x0 x1
  have y := ixD_at (cs := owedL f cs x) (k := x) x0 (by rw [owedL_length]; exact x1)
  have e := isP_owed (f := f) x0 x1
  simp [tupI] at q
  by_cases hc : isP f cs x = true
  · rw [hc, decide_eq_true_eq] at e
    simp [runB, start, ob, bd, bz, bt, ex, evo, evm, isVar, ev, evs, evi, rd, frz, truth, isiT, isNon, cmp2, idx2, itemsD, seqD, slotD, slotL, putL, put, puts, bindT, blt1, blt2, op2, rdr, prt, cnd, isNil, outV, endR, wipe, back, partD, slice3, ix0, ix1, ix2, ix3, ints_map, augO, isI, okL, tupI, tabD, q, y, e, hc]
  · have hc : isP f cs x = false := by simpa using hc
    rw [hc, decide_eq_false_iff_not] at e
    simp [runB, start, ob, bd, bz, bt, ex, evo, evm, isVar, ev, evs, evi, rd, frz, truth, isiT, isNon, cmp2, idx2, itemsD, seqD, slotD, slotL, putL, put, puts, bindT, blt1, blt2, op2, rdr, prt, cnd, isNil, outV, endR, wipe, back, partD, slice3, ix0, ix1, ix2, ix3, ints_map, augO, isI, okL, tupI, tabD, q, y, e, hc]
theorem shp_bool (b : Bool) : shp (.bool b) = true := by simp [shp, SeqAt.shaped, PyData.canLay0, PyData.depth]
theorem eqv_bool (a b : Bool) : PyData.eqv (.bool a) (.bool b) = (a == b) := by simp [PyData.eqv]
theorem eq_bool (b : Bool) : cmp2 .eq (.bool b) (.bool b) = some true := by
  simp [cmp2, shp_bool, PyData.eqv]
theorem ne_bool (b : Bool) : cmp2 .ne (.bool b) (.bool b) = some false := by
  simp [cmp2, shp_bool, PyData.eqv]
theorem filter_no {α : Type} : ∀ l : List α, l.filter (fun _ => false) = []
  | [] => rfl
  | x :: r => by rw [List.filter_cons_of_neg (by decide), filter_no r]
theorem alike_int (k : Nat) (a b : Int) : run TB.fn (k + 1) 17 none [.int a, .int b] = some (.val (.bool (decide (a = b))), []) := by
  rw [run_succ look_17]
  simp [runB, start, ob, bd, bz, bt, ex, evo, evm, isVar, ev, evs, evi, rd, frz, truth, isiT, isNon, cmp2, idx2, itemsD, seqD, slotD, slotL, putL, put, puts, bindT, blt1, blt2, op2, rdr, prt, cnd, isNil, outV, endR, wipe, back, partD, slice3, ix0, ix1, ix2, ix3, ints_map, augO, isI, okL, tupI, tabD, fn_17, shp_bool, eqv_bool]
theorem alike_tup (k : Nat) {ds : List D} (hl : ds.length < 1000000) (h : ∀ d ∈ ds, run TB.fn k 17 none [d, d] = some (.val (.bool true), [])) : run TB.fn (k + 1) 17 none [.tuple ds, .tuple ds] = some (.val (.bool true), []) := by
  refine run_eq [.val (.tuple ds), .val (.tuple ds), .un] look_17 rfl ?_
  refine wx_seqR (v := .val (.bool true)) (ρ1 := [.val (.tuple ds), .val (.tuple ds), .un]) ((ex_iteT (ρ1 := [.val (.tuple ds), .val (.tuple ds), .un]) (by simp [runB, start, ob, bd, bz, bt, ex, evo, evm, isVar, ev, evs, evi, rd, frz, truth, isiT, isNon, cmp2, idx2, itemsD, seqD, slotD, slotL, putL, put, puts, bindT, blt1, blt2, op2, rdr, prt, cnd, isNil, outV, endR, wipe, back, partD, slice3, ix0, ix1, ix2, ix3, ints_map, augO, isI, okL, tupI, tabD])).trans ?_) ⟨rfl, rfl⟩
  refine (ex_seq (ρ1 := [.val (.tuple ds), .val (.tuple ds), .un]) (by simp [runB, start, ob, bd, bz, bt, ex, evo, evm, isVar, ev, evs, evi, rd, frz, truth, isiT, isNon, cmp2, idx2, itemsD, seqD, slotD, slotL, putL, put, puts, bindT, blt1, blt2, op2, rdr, prt, cnd, isNil, outV, endR, wipe, back, partD, slice3, ix0, ix1, ix2, ix3, ints_map, augO, isI, okL, tupI, tabD, shp_bool, eqv_bool])).trans ?_
  refine (ex_seq (ρ1 := [.val (.tuple ds), .val (.tuple ds), .un]) (by simp [runB, start, ob, bd, bz, bt, ex, evo, evm, isVar, ev, evs, evi, rd, frz, truth, isiT, isNon, cmp2, idx2, itemsD, seqD, slotD, slotL, putL, put, puts, bindT, blt1, blt2, op2, rdr, prt, cnd, isNil, outV, endR, wipe, back, partD, slice3, ix0, ix1, ix2, ix3, ints_map, augO, isI, okL, tupI, tabD])).trans ?_
  refine ex_seqR (ex_retE rfl (ev_cmp (sva := .own []) (svb := .own []) (ρ1 := [.val (.tuple ds), .val (.tuple ds), .un]) ?_ rfl ev_lst0 rfl eq_nil))
  have := ev_comp (c := run TB.fn k) (el := .var 2) (cond := .not (.call 17 (.cons (.idx (.var 0) (.var 2)) (.cons (.idx (.var 1) (.var 2)) .nil)))) (t := .one 2) (vs := [2]) (ρ := [.val (.tuple ds), .val (.tuple ds), .un]) (ρ1 := [.val (.tuple ds), .val (.tuple ds), .un])
    (evi_rng1 (e := .blt1 .len (.var 1)) (n := (ds.length : Int)) (by simp [runB, start, ob, bd, bz, bt, ex, evo, evm, isVar, ev, evs, evi, rd, frz, truth, isiT, isNon, cmp2, idx2, itemsD, seqD, slotD, slotL, putL, put, puts, bindT, blt1, blt2, op2, rdr, prt, cnd, isNil, outV, endR, wipe, back, partD, slice3, ix0, ix1, ix2, ix3, ints_map, augO, isI, okL, tupI, tabD]) (rngOk_of (by omega) (by omega))) (compL_filt (fun _ => false) .int fun x hx => by
      obtain ⟨x0, x1⟩ := mem_upto.mp hx
      have x1 : x < ds.length := by simpa using x1
      obtain ⟨d, e1, m⟩ := ixD_in x0 x1
      simp [runB, start, ob, bd, bz, bt, ex, evo, evm, isVar, ev, evs, evi, rd, frz, truth, isiT, isNon, cmp2, idx2, itemsD, seqD, slotD, slotL, putL, put, puts, bindT, blt1, blt2, op2, rdr, prt, cnd, isNil, outV, endR, wipe, back, partD, slice3, ix0, ix1, ix2, ix3, ints_map, augO, isI, okL, tupI, tabD, e1, h d m]) (by rw [filter_no]; simp)
  rw [filter_no] at this
  exact this
theorem alike_tupI (k : Nat) {cs : List Int} (hl : cs.length < 1000000) : run TB.fn (k + 2) 17 none [tupI cs, tupI cs] = some (.val (.bool true), []) :=
  alike_tup (k + 1) (by simpa using hl) fun d hd => by
    obtain ⟨c, _, rfl⟩ := List.mem_map.mp hd
    rw [alike_int]; simp
theorem alike_tab (k : Nat) {f : Int} {cs : List Int} (hl : cs.length < 1000000) : run TB.fn (k + 3) 17 none [tabD f cs, tabD f cs] = some (.val (.bool true), []) :=
  alike_tup (k + 2) (by simp) fun d hd => by
    rcases List.mem_cons.mp hd with rfl | hd
    · rw [alike_int]; simp
    · rcases List.mem_cons.mp hd with rfl | hd
      · exact alike_tupI k hl
      · cases hd

theorem rep_ints (a : Int) : ∀ n : Nat, repD [.int a] n = (List.replicate n a).map .int
  | 0 => rfl
  | n + 1 => by
    have := rep_ints a n
    unfold repD at this ⊢
    rw [List.replicate_succ, List.flatten_cons, this, List.replicate_succ]
    rfl
theorem ints_ex : ∀ {ds : List D}, (∀ d ∈ ds, ∃ c : Int, d = .int c) → ∃ l : List Int, ds = l.map .int
  | [], _ => ⟨[], rfl⟩
  | d :: r, h => by
    obtain ⟨c, rfl⟩ := h d (by simp)
    obtain ⟨l, rfl⟩ := ints_ex (ds := r) fun x hx => h x (by simp [hx])
    exact ⟨c :: l, rfl⟩
theorem eq_ints_nil (X : List Int) : cmp2 .eq (.list (X.map .int)) (.list []) = some (decide (X = [])) := by
  have h := shp_list X
  cases X with
  | nil => rfl
  | cons a r =>
    simp only [List.map_cons] at h
    simp [cmp2, h, eq_nil]
    have h2 : shp (.list []) = true := by rfl
    rw [h2]
    simp [PyData.eqv, PyData.eqvAll]
theorem mul_rep (a : Int) {p : Int} (p0 : 0 ≤ p) (p1 : p < 1000) : op2 .mul (.list [.int a]) (.int p) = some (.own ((List.replicate p.toNat a).map .int)) := by
  rw [← rep_ints]
  have h1 : okL (([PyData.int a]).length * p.toNat) = true := by unfold okL; apply decide_eq_true; simp; omega
  unfold op2
  simp only
  rw [h1, decide_eq_true (show p < 1000000 by omega), decide_eq_true (show -1000000 < p by omega)]
  rfl
theorem mul_repT (a : Int) {p : Int} (p0 : 0 ≤ p) (p1 : p < 1000) : op2 .mul (.tuple [.int a]) (.int p) = some (.val (tupI (List.replicate p.toNat a))) := by
  unfold tupI
  rw [← rep_ints]
  unfold op2
  simp only
  rw [decide_eq_true (show p ≤ 1000 by omega), decide_eq_true (show -1000 ≤ p by omega)]
  rfl
theorem sum_rep (a : Int) : ∀ n : Nat, (List.replicate n a).sum = n * a
  | 0 => by simp
  | n + 1 => by rw [List.replicate_succ, List.sum_cons, sum_rep a n]; rw [Int.natCast_add, Int.add_mul]; omega
theorem set_mem {l : List Int} {n : Nat} {v c : Int} (h : c ∈ l.set n v) : c = v ∨ c ∈ l := by
  rcases List.mem_or_eq_of_mem_set h with h | h
  · exact .inr h
  · exact .inl h
structure Grow (n : Nat) (B : Int) (cs : List Int) : Prop where
  len : cs.length = n
  nn : ∀ c ∈ cs, 0 ≤ c
  mx : ∀ c ∈ cs, c + 1 ≤ B
theorem big_n {i B : Int} (h0 : 0 ≤ i) (h1 : i < B) (hB : B ≤ 1000000000) : big i = true := big_of (by omega)
theorem aug_turn {n : Nat} {B f v : Int} {cs : List Int} (f2 : 2 ≤ f) (g : Grow n B cs) (v0 : 0 ≤ v) (v1 : v < n) :
    Grow n (f * B) ((cs.map (f * ·)).set v.toNat (f * at_ cs v + (f - 1))) ∧ ((cs.map (f * ·)).set v.toNat (f * at_ cs v + (f - 1))).sum = f * cs.sum + (f - 1) := by
  have hv : v < cs.length := by rw [g.len]; exact v1
  have am := at_mem v0 hv
  refine ⟨⟨by simp [g.len], fun c hc => ?_, fun c hc => ?_⟩, ?_⟩
  · rcases set_mem hc with e | e
    · have := Int.mul_nonneg (show 0 ≤ f by omega) (g.nn _ am); omega
    · obtain ⟨x, hx, rfl⟩ := List.mem_map.mp e
      exact Int.mul_nonneg (by omega) (g.nn _ hx)
  · rcases set_mem hc with e | e
    · have := Int.mul_le_mul_of_nonneg_left (g.mx _ am) (show 0 ≤ f by omega)
      rw [Int.mul_add] at this
      omega
    · obtain ⟨x, hx, rfl⟩ := List.mem_map.mp e
      have := Int.mul_le_mul_of_nonneg_left (g.mx _ hx) (show 0 ≤ f by omega)
      rw [Int.mul_add] at this
      show f * x + 1 ≤ f * B
      omega
  · rw [sum_set _ (by simp; omega), sum_mul]
    have h2 : v.toNat < cs.length := by omega
    have e : (cs.map (f * ·)).getD v.toNat 0 = f * at_ cs v := at_map (f * ·) v0 hv
    rw [e]; omega
theorem dvd_sum {f : Int} : ∀ {cs : List Int}, (∀ c ∈ cs, f ∣ c) → f ∣ cs.sum
  | [], _ => by simp
  | c :: r, h => by
    rw [List.sum_cons]
    exact Int.dvd_add (h c (by simp)) (dvd_sum fun x hx => h x (by simp [hx]))
theorem div_turn {n : Nat} {f p : Int} {cs : List Int} (f2 : 2 ≤ f) (len : cs.length = n) (nn : ∀ c ∈ cs, 0 ≤ c) (s0 : 0 < cs.sum) (p0 : 0 ≤ p) (p1 : p < n)
    (dv : ∀ (i : Nat) (c : Int), cs[i]? = some c → (i : Int) ≠ p → c % f = 0) :
    (∀ c ∈ (cs.map (· / f)).set p.toNat ((at_ cs p + (f - 1) * cs.sum) / f), 0 ≤ c) ∧ ((cs.map (· / f)).set p.toNat ((at_ cs p + (f - 1) * cs.sum) / f)).sum = cs.sum := by
  have hp : p < cs.length := by rw [len]; exact p1
  have hpn : p.toNat < cs.length := by omega
  have am := at_mem p0 hp
  have a0 := nn _ am
  have fs : 0 ≤ (f - 1) * cs.sum := Int.mul_nonneg (by omega) (by omega)
  refine ⟨fun c hc => ?_, ?_⟩
  · rcases set_mem hc with e | e
    · rw [e]; exact Int.ediv_nonneg (by omega) (by omega)
    · obtain ⟨x, hx, rfl⟩ := List.mem_map.mp e
      exact Int.ediv_nonneg (nn _ hx) (by omega)
  · -- all coins but the payer's are divisible
    have d0 : f ∣ (cs.set p.toNat 0).sum := dvd_sum fun c hc => by
      obtain ⟨i, hi⟩ := List.mem_iff_getElem?.mp hc
      by_cases e : p.toNat = i
      · subst e
        rw [List.getElem?_set_self hpn] at hi
        cases hi
        exact Int.dvd_zero f
      · rw [List.getElem?_set_ne e] at hi
        exact Int.dvd_of_emod_eq_zero (dv i c hi (by omega))
    rw [sum_set 0 hpn] at d0
    have e0 : cs.getD p.toNat 0 = at_ cs p := rfl
    rw [e0] at d0
    have d1 : f ∣ at_ cs p + (f - 1) * cs.sum := by
      have : at_ cs p + (f - 1) * cs.sum = f * cs.sum - (cs.sum - at_ cs p + 0) := by rw [Int.sub_mul]; omega
      rw [this]
      exact Int.dvd_sub (Int.dvd_mul_right f cs.sum) d0
    have key : (((cs.map (· / f)).set p.toNat ((at_ cs p + (f - 1) * cs.sum) / f)).map (f * ·)) = cs.set p.toNat (at_ cs p + (f - 1) * cs.sum) := by
      apply List.ext_getElem?
      intro i
      rw [List.getElem?_map]
      by_cases e : p.toNat = i
      · subst e
        rw [List.getElem?_set_self (by simpa using hpn), List.getElem?_set_self hpn, Option.map_some, Int.mul_ediv_cancel' d1]
      · rw [List.getElem?_set_ne e, List.getElem?_set_ne e, List.getElem?_map]
        cases h : cs[i]? with
        | none => rfl
        | some c =>
          show some (f * (c / f)) = some c
          rw [Int.mul_ediv_cancel' (Int.dvd_of_emod_eq_zero (dv i c h (by omega)))]
    have s1 := sum_mul f ((cs.map (· / f)).set p.toNat ((at_ cs p + (f - 1) * cs.sum) / f))
    rw [key, sum_set _ hpn, e0] at s1
    have s2 : f * cs.sum = f * ((cs.map (· / f)).set p.toNat ((at_ cs p + (f - 1) * cs.sum) / f)).sum := by
      rw [← s1, Int.sub_mul]; omega
    exact (Int.eq_of_mul_eq_mul_left (by omega) s2).symm

theorem pow9 : ∀ j : Nat, j ≤ 5 → (9 : Int) ^ j ≤ 59049 := fun j h => by
  have : j = 0 ∨ j = 1 ∨ j = 2 ∨ j = 3 ∨ j = 4 ∨ j = 5 := by omega
  rcases this with rfl | rfl | rfl | rfl | rfl | rfl <;> decide
/-- the names of _law_table, with coins kept by a name -/
def tbR (row : List D) (m top f p w : Int) (size : SV) (cs : List Int) (t many pay tot oth sums : SV) : Rho :=
  [.row row, .val (.int m), .val (.int top), .val (.int f), .val (.int p), .val (.int w), size, .own (cs.map .int), t, many, pay, tot, oth, sums, .un, .un]
theorem ev_seqC {c : FT} {ρ : Rho} {j : Nat} {cs : List Int} (h : rd ρ j = .own (cs.map .int)) : evi c (.seq (.var j)) ρ = some (cs.map .int, ρ.set j (.val (.list (cs.map .int)))) := by
  show bz (ev c (.var j) ρ) _ = _
  unfold ev
  rw [h]
  rfl
theorem way0 {ns : List Int} {row : List D} (k : Nat) (h : RowOk ns row) {m top f p w : Int} (f2 : 2 ≤ f) (f9 : f ≤ 9) (p1 : 1 ≤ p) (p6 : p ≤ 6) :
    ∃ cs row' ρ', ex (run TB.fn (k + 1)) (.seq (.par [6, 7] (.cons (.op .add (.int 1) (.callr 12 0 (.cons (.int 5) .nil))) (.cons (.op .mul (.lst (.cons (.int 0) .nil)) (.var 4)) .nil)))
    (.seq (.for_ (.one 8) (.rng1 (.var 6)) (.seq (.set 7 (.comp (.op .mul (.var 3) (.var 14)) (.seq (.var 7)) (.one 14) .nil [14]))
    (.seq (.augi 7 (.callr 12 0 (.cons (.var 4) .nil)) .add (.op .sub (.var 3) (.int 1)))
    .skip)))
    (.seq (.set 9 (.op .add (.int 1) (.callr 12 0 (.cons (.int 3) .nil))))
    (.seq (.ret (.tup (.cons (.var 3) (.cons (.blt1 .tuple (.comp (.op .mul (.var 14) (.var 9)) (.seq (.var 7)) (.one 14) .nil [14])) .nil))))
    .skip)))) [.row row, .val (.int m), .val (.int top), .val (.int f), .val (.int p), .val (.int w), .un, .un, .un, .un, .un, .un, .un, .un, .un, .un] = some (.rt (.val (tabD f cs)), ρ') ∧ endR true ρ' = some row' ∧ Table f cs ∧ cs.length = p ∧ RowOk ns row' := by
  obtain ⟨v1, r1, e1, a1, b1, h1⟩ := taken_ok (m := 5) k h (by decide) (by decide)
  have hm := mul_rep 0 (p := p) (by omega) (by omega)
  have bf : big f = true := big_of (by omega)
  have s1 : ex (run TB.fn (k + 1)) (.par [6, 7] (.cons (.op .add (.int 1) (.callr 12 0 (.cons (.int 5) .nil))) (.cons (.op .mul (.lst (.cons (.int 0) .nil)) (.var 4)) .nil))) [.row row, .val (.int m), .val (.int top), .val (.int f), .val (.int p), .val (.int w), .un, .un, .un, .un, .un, .un, .un, .un, .un, .un] = some (.nx, tbR r1 m top f p w (.val (.int (1 + v1))) (List.replicate p.toNat 0) .un .un .un .un .un .un) := by
    simp [runB, start, ob, bd, bz, bt, ex, evo, evm, isVar, ev, evs, evi, rd, frz, truth, isiT, isNon, cmp2, idx2, itemsD, seqD, slotD, slotL, putL, put, puts, bindT, blt1, blt2, op2, rdr, prt, cnd, isNil, outV, endR, wipe, back, partD, slice3, ix0, ix1, ix2, ix3, ints_map, augO, isI, okL, tupI, tabD, e1, tbR] at hm ⊢
    simp [hm]
    rfl
  obtain ⟨ρ', e2, row2, cs, t, rfl, ct, g, sp, h2⟩ := wx_for (c := run TB.fn (k + 1)) (t := .one 8) (it := .rng1 (.var 6)) (b := (.seq (.set 7 (.comp (.op .mul (.var 3) (.var 14)) (.seq (.var 7)) (.one 14) .nil [14])) (.seq (.augi 7 (.callr 12 0 (.cons (.var 4) .nil)) .add (.op .sub (.var 3) (.int 1))) .skip)))
    (ρ := tbR r1 m top f p w (.val (.int (1 + v1))) (List.replicate p.toNat 0) .un .un .un .un .un .un) (ρ1 := tbR r1 m top f p w (.val (.int (1 + v1))) (List.replicate p.toNat 0) .un .un .un .un .un .un)
    (evi_rng1 (n := 1 + v1) (by simp [runB, start, ob, bd, bz, bt, ex, evo, evm, isVar, ev, evs, evi, rd, frz, truth, isiT, isNon, cmp2, idx2, itemsD, seqD, slotD, slotL, putL, put, puts, bindT, blt1, blt2, op2, rdr, prt, cnd, isNil, outV, endR, wipe, back, partD, slice3, ix0, ix1, ix2, ix3, ints_map, augO, isI, okL, tupI, tabD, tbR]) (rngOk_of (by omega) (by omega)))
    (fun j ρ => ∃ row cs t, ρ = tbR row m top f p w (.val (.int (1 + v1))) cs t .un .un .un .un .un ∧ cold t ∧ Grow p.toNat (9 ^ j) cs ∧ (0 < j → 0 < cs.sum) ∧ RowOk ns row)
    ⟨r1, _, .un, rfl, cold_un, ⟨by simp, fun c hc => by rw [List.eq_of_mem_replicate hc]; omega, fun c hc => by rw [List.eq_of_mem_replicate hc]; decide⟩, fun z => absurd z (by decide), h1⟩ (by
      rintro j x ρ hx ⟨row, cs, t, rfl, ct, g, sp, hr⟩
      have hj : j < 5 := by
        have := (List.getElem?_eq_some_iff.mp hx).1
        simp [upto_length] at this
        omega
      have hB := pow9 j (by omega)
      obtain ⟨v, row3, e3, v0, v1', h3⟩ := taken_ok (m := p) k hr (by omega) (by omega)
      have len := g.len
      refine ⟨tbR row m top f p w (.val (.int (1 + v1))) cs (.val x) .un .un .un .un .un, by rcases ct with rfl | ⟨d, rfl⟩ <;> simp [runB, start, ob, bd, bz, bt, ex, evo, evm, isVar, ev, evs, evi, rd, frz, truth, isiT, isNon, cmp2, idx2, itemsD, seqD, slotD, slotL, putL, put, puts, bindT, blt1, blt2, op2, rdr, prt, cnd, isNil, outV, endR, wipe, back, partD, slice3, ix0, ix1, ix2, ix3, ints_map, augO, isI, okL, tupI, tabD, tbR], ?_⟩
      have c1 : ex (run TB.fn (k + 1)) (.set 7 (.comp (.op .mul (.var 3) (.var 14)) (.seq (.var 7)) (.one 14) .nil [14])) (tbR row m top f p w (.val (.int (1 + v1))) cs (.val x) .un .un .un .un .un) = some (.nx, tbR row m top f p w (.val (.int (1 + v1))) (cs.map (f * ·)) (.val x) .un .un .un .un .un) :=
        ex_set (ev_comp (ev_seqC (cs := cs) rfl) (compL_ints (fun c => .int (f * c)) fun c hc => by
          have bc : big c = true := big_n (g.nn c hc) (Int.lt_of_lt_of_le (Int.lt_of_lt_of_le (Int.lt_succ c) (g.mx c hc)) hB) (by decide)
          simp [runB, start, ob, bd, bz, bt, ex, evo, evm, isVar, ev, evs, evi, rd, frz, truth, isiT, isNon, cmp2, idx2, itemsD, seqD, slotD, slotL, putL, put, puts, bindT, blt1, blt2, op2, rdr, prt, cnd, isNil, outV, endR, wipe, back, partD, slice3, ix0, ix1, ix2, ix3, ints_map, augO, isI, okL, tupI, tabD, tbR, bf, bc]) (by simp; omega)) (by simp [runB, start, ob, bd, bz, bt, ex, evo, evm, isVar, ev, evs, evi, rd, frz, truth, isiT, isNon, cmp2, idx2, itemsD, seqD, slotD, slotL, putL, put, puts, bindT, blt1, blt2, op2, rdr, prt, cnd, isNil, outV, endR, wipe, back, partD, slice3, ix0, ix1, ix2, ix3, ints_map, augO, isI, okL, tupI, tabD, tbR])
      have vl : v < cs.length := by omega
      obtain ⟨g2, s2⟩ := aug_turn f2 g v0 (by omega)
      refine wx_seq c1 (wx_seq (ρ1 := tbR row3 m top f p w (.val (.int (1 + v1))) ((cs.map (f * ·)).set v.toNat (f * at_ cs v + (f - 1))) (.val x) .un .un .un .un .un) ?_ (wx_skip ⟨rfl, row3, _, _, rfl, cold_val, ⟨g2.len, g2.nn, fun c hc => ?_⟩, fun _ => ?_, h3⟩))
      · have ix := ixN_at (n := cs.length) v0 vl
        have y := ixD_atg (PyData.int ∘ fun x => f * x) v0 vl
        simp [runB, start, ob, bd, bz, bt, ex, evo, evm, isVar, ev, evs, evi, rd, frz, truth, isiT, isNon, cmp2, idx2, itemsD, seqD, slotD, slotL, putL, put, puts, bindT, blt1, blt2, op2, rdr, prt, cnd, isNil, outV, endR, wipe, back, partD, slice3, ix0, ix1, ix2, ix3, ints_map, augO, isI, okL, tupI, tabD, tbR, e3, ix, y, List.map_set]
      · have := g2.mx c hc
        have h9 : f * (9 : Int) ^ j ≤ 9 * 9 ^ j := Int.mul_le_mul_of_nonneg_right f9 (Int.le_of_lt (Int.pow_pos (by decide)))
        rw [Int.pow_succ]; omega
      · rw [s2]
        have := Int.mul_nonneg (show 0 ≤ f by omega) (sum_nn g.nn)
        omega)
  rw [List.length_map, upto_length] at g sp
  have hB := pow9 (1 + v1).toNat (by omega)
  have sp := sp (by omega)
  obtain ⟨v2, r3, e3, a3, b3, h3⟩ := taken_ok (m := 3) k h2 (by decide) (by decide)
  have len := g.len
  have mx : ∀ c ∈ cs, c ≤ 59048 := fun c hc => by have := g.mx c hc; omega
  refine ⟨cs.map (· * (1 + v2)), r3, tbR r3 m top f p w (.val (.int (1 + v1))) cs t (.val (.int (1 + v2))) .un .un .un .un |>.set 7 (.val (.list (cs.map .int))), ?_, rfl, ⟨f2, f9, by simp; omega, by simp; omega, fun c hc => ?_, fun c hc => ?_, ?_⟩, by simp; omega, h3⟩
  · refine (ex_seq s1).trans ((ex_seq e2).trans ((ex_seq (ρ1 := tbR r3 m top f p w (.val (.int (1 + v1))) cs t (.val (.int (1 + v2))) .un .un .un .un) ?_).trans (ex_seqR (ex_retE rfl ?_))))
    · simp [runB, start, ob, bd, bz, bt, ex, evo, evm, isVar, ev, evs, evi, rd, frz, truth, isiT, isNon, cmp2, idx2, itemsD, seqD, slotD, slotL, putL, put, puts, bindT, blt1, blt2, op2, rdr, prt, cnd, isNil, outV, endR, wipe, back, partD, slice3, ix0, ix1, ix2, ix3, ints_map, augO, isI, okL, tupI, tabD, tbR, e3]
    · have q := ev_comp (c := run TB.fn (k + 1)) (el := .op .mul (.var 14) (.var 9)) (cond := .nil) (t := .one 14) (vs := [14]) (ev_seqC (c := run TB.fn (k + 1)) (ρ := tbR r3 m top f p w (.val (.int (1 + v1))) cs t (.val (.int (1 + v2))) .un .un .un .un) (j := 7) (cs := cs) rfl) (compL_ints (fun c => .int (c * (1 + v2))) fun c hc => by
          have bc : big c = true := big_n (g.nn c hc) (Int.lt_of_le_of_lt (mx c hc) (by decide : (59048 : Int) < 59049)) (by decide)
          have bv : big (1 + v2) = true := big_n (by omega) (by omega : 1 + v2 < 10) (by decide)
          simp [runB, start, ob, bd, bz, bt, ex, evo, evm, isVar, ev, evs, evi, rd, frz, truth, isiT, isNon, cmp2, idx2, itemsD, seqD, slotD, slotL, putL, put, puts, bindT, blt1, blt2, op2, rdr, prt, cnd, isNil, outV, endR, wipe, back, partD, slice3, ix0, ix1, ix2, ix3, ints_map, augO, isI, okL, tupI, tabD, tbR, bc, bv]) (by simp; omega)
      have q2 := ev_blt1 (f := .tuple) (v := .val (tupI (cs.map (· * (1 + v2))))) rfl q rfl (by simp [blt1, tupI])
      simp [ev, evs, bz, bd, rd, tbR, frz, okL, tabD, wipe, back] at q2 ⊢
      simp [q2]
  · obtain ⟨x, hx, rfl⟩ := List.mem_map.mp hc
    exact Int.mul_nonneg (g.nn x hx) (by omega)
  · obtain ⟨x, hx, rfl⟩ := List.mem_map.mp hc
    have x0 := g.nn x hx
    have x1 := mx x hx
    have : x * (1 + v2) ≤ x * 3 := Int.mul_le_mul_of_nonneg_left (by omega) x0
    show x * (1 + v2) ≤ _
    omega
  · have : (cs.map (· * (1 + v2))).sum = (1 + v2) * cs.sum := by
      rw [← sum_mul]
      congr 1
      apply List.map_congr_left
      intro c _
      exact Int.mul_comm _ _
    rw [this]
    exact Int.ne_of_gt (Int.mul_pos (by omega) sp)

theorem big_sum {S : Int} (h0 : 0 ≤ S) (h1 : S ≤ 1000000) : big S = true := big_n h0 (show S < 1000001 by omega) (by decide)
theorem pow9' : ∀ j : Nat, j ≤ 4 → 9 * (9 : Int) ^ j ≤ 59049 := fun j h => by
  have : j = 0 ∨ j = 1 ∨ j = 2 ∨ j = 3 ∨ j = 4 := by omega
  rcases this with rfl | rfl | rfl | rfl | rfl <;> decide
/-- the others' coins -/
def thT (p : Int) : D → Bool
  | .tuple [.int i, _] => !decide (i = p)
  | _ => false
def thG : D → D
  | .tuple [_, d] => d
  | _ => .none
theorem others_of (cs : List Int) (p : Int) : ∃ l : List Int, ((enumD 0 (cs.map .int)).filter (thT p)).map thG = l.map .int ∧ l.length ≤ cs.length ∧ ∀ (i : Nat) (c : Int), cs[i]? = some c → (i : Int) ≠ p → c ∈ l := by
  obtain ⟨l, hl⟩ := ints_ex (ds := ((enumD 0 (cs.map .int)).filter (thT p)).map thG) fun d hd => by
    obtain ⟨x, hx, rfl⟩ := List.mem_map.mp hd
    obtain ⟨j, hj⟩ := List.mem_iff_getElem?.mp (List.mem_filter.mp hx).1
    obtain ⟨c, rfl, _⟩ := enum_int hj
    exact ⟨c, rfl⟩
  refine ⟨l, hl, ?_, fun i c hc hi => ?_⟩
  · have h1 := congrArg List.length hl
    have h2 := List.length_filter_le (thT p) (enumD 0 (cs.map .int))
    rw [enumD_length] at h2
    simp at h1 h2
    omega
  · have hj : (enumD 0 (cs.map .int))[i]? = some (.tuple [.int ((0 + i : Nat) : Int), .int c]) := by
      have : i < (enumD 0 (cs.map .int)).length := by
        rw [enumD_length, List.length_map]
        exact (List.getElem?_eq_some_iff.mp hc).1
      have e := List.getElem?_eq_getElem this
      obtain ⟨c2, e2, e3⟩ := enum_int e
      rw [hc] at e3
      cases e3
      rw [e, e2, Nat.zero_add]
    have m : PyData.int c ∈ ((enumD 0 (cs.map .int)).filter (thT p)).map thG := List.mem_map.mpr ⟨_, List.mem_filter.mpr ⟨List.mem_of_getElem? hj, by simp [thT, hi]⟩, rfl⟩
    rw [hl] at m
    obtain ⟨c2, h1, h2⟩ := List.mem_map.mp m
    cases h2
    exact h1
def w2 : S := (.seq (.set 10 (.callr 12 0 (.cons (.var 4) .nil)))
    (.seq (.set 11 (.blt1 .sum (.var 7)))
    (.seq (.set 12 (.comp (.var 14) (.enum (.var 7)) (.many [15, 14]) (.cmp .ne (.var 15) (.var 10)) [15, 14]))
    (.seq (.ite (.cmp .eq (.comp (.var 14) (.seq (.var 12)) (.one 14) (.cmp .ne (.op .mod (.blt1 .int (.var 14)) (.var 3)) (.int 0)) [14]) (.lst .nil)) (.seq (.set 13 (.op .add (.idx (.var 7) (.var 10)) (.op .mul (.op .sub (.var 3) (.int 1)) (.var 11))))
    (.seq (.set 7 (.comp (.op .fdiv (.var 14) (.var 3)) (.seq (.var 7)) (.one 14) .nil [14]))
    (.seq (.seti 7 (.var 10) (.op .fdiv (.var 13) (.var 3)))
    .skip))) (.seq (.set 7 (.comp (.op .mul (.var 3) (.var 14)) (.seq (.var 7)) (.one 14) .nil [14]))
    .skip))
    .skip))))
/-- the same names, with coins that were read -/
def tbV (row : List D) (m top f p w : Int) (size : SV) (cs : List Int) (t many pay tot oth sums : SV) : Rho :=
  [.row row, .val (.int m), .val (.int top), .val (.int f), .val (.int p), .val (.int w), size, .val (.list (cs.map .int)), t, many, pay, tot, oth, sums, .un, .un]
theorem turn2 {ns : List Int} {row : List D} (k : Nat) (h : RowOk ns row) {m top f p w : Int} (f2 : 2 ≤ f) (f9 : f ≤ 9) (p1 : 1 ≤ p) (p6 : p ≤ 6) {cs : List Int} (len : cs.length = p) (nn : ∀ c ∈ cs, 0 ≤ c) (s0 : 0 < cs.sum) (s1 : cs.sum ≤ 59049)
    {t pay tot oth sums : SV} (ct : cold pay) (c2 : cold tot) (c3 : cold oth) (c4 : cold sums) :
    ∃ row' cs' pay' tot' oth' sums', ex (run TB.fn (k + 1)) w2 (tbR row m top f p w .un cs t .un pay tot oth sums) = some (.nx, tbR row' m top f p w .un cs' t .un pay' tot' oth' sums') ∧
      RowOk ns row' ∧ cs'.length = p ∧ (∀ c ∈ cs', 0 ≤ c) ∧ 0 < cs'.sum ∧ cs'.sum ≤ 9 * cs.sum ∧ cold pay' ∧ cold tot' ∧ cold oth' ∧ cold sums' := by
  obtain ⟨v, r1, e1, a1, b1, h1⟩ := taken_ok (m := p) k h (by omega) (by omega)
  have bf : big f = true := big_of (by omega)
  have bf1 : big (f - 1) = true := big_of (by omega)
  have bs : big cs.sum = true := big_sum (by omega) (by omega)
  have vl : v < cs.length := by omega
  have hb : ∀ c ∈ cs, big c = true := fun c hc => big_sum (nn c hc) (by have := le_sum nn c hc; omega)
  obtain ⟨l, el, ll, lm⟩ := others_of cs v
  have g1 : ex (run TB.fn (k + 1)) (.set 10 (.callr 12 0 (.cons (.var 4) .nil))) (tbR row m top f p w .un cs t .un pay tot oth sums) = some (.nx, tbR r1 m top f p w .un cs t .un (.val (.int v)) tot oth sums) := by
    rcases ct with rfl | ⟨d, rfl⟩ <;> simp [runB, start, ob, bd, bz, bt, ex, evo, evm, isVar, ev, evs, evi, rd, frz, truth, isiT, isNon, cmp2, idx2, itemsD, seqD, slotD, slotL, putL, put, puts, bindT, blt1, blt2, op2, rdr, prt, cnd, isNil, outV, endR, wipe, back, partD, slice3, ix0, ix1, ix2, ix3, ints_map, augO, isI, okL, tupI, tabD, tbR, e1]
  have g2 : ex (run TB.fn (k + 1)) (.set 11 (.blt1 .sum (.var 7))) (tbR r1 m top f p w .un cs t .un (.val (.int v)) tot oth sums) = some (.nx, tbR r1 m top f p w .un cs t .un (.val (.int v)) (.val (.int cs.sum)) oth sums) := by
    rcases c2 with rfl | ⟨d, rfl⟩ <;> simp [runB, start, ob, bd, bz, bt, ex, evo, evm, isVar, ev, evs, evi, rd, frz, truth, isiT, isNon, cmp2, idx2, itemsD, seqD, slotD, slotL, putL, put, puts, bindT, blt1, blt2, op2, rdr, prt, cnd, isNil, outV, endR, wipe, back, partD, slice3, ix0, ix1, ix2, ix3, ints_map, augO, isI, okL, tupI, tabD, tbR]
  have g3 : ex (run TB.fn (k + 1)) (.set 12 (.comp (.var 14) (.enum (.var 7)) (.many [15, 14]) (.cmp .ne (.var 15) (.var 10)) [15, 14])) (tbR r1 m top f p w .un cs t .un (.val (.int v)) (.val (.int cs.sum)) oth sums) = some (.nx, tbV r1 m top f p w .un cs t .un (.val (.int v)) (.val (.int cs.sum)) (.own (l.map .int)) sums) := by
    refine ex_set (v := .own (l.map .int)) (ρ1 := tbV r1 m top f p w .un cs t .un (.val (.int v)) (.val (.int cs.sum)) oth sums) ?_ (by rcases c3 with rfl | ⟨d, rfl⟩ <;> rfl)
    rw [← el]
    refine ev_comp (ρ1 := tbV r1 m top f p w .un cs t .un (.val (.int v)) (.val (.int cs.sum)) oth sums) (xs := enumD 0 (cs.map .int)) (by simp [runB, start, ob, bd, bz, bt, ex, evo, evm, isVar, ev, evs, evi, rd, frz, truth, isiT, isNon, cmp2, idx2, itemsD, seqD, slotD, slotL, putL, put, puts, bindT, blt1, blt2, op2, rdr, prt, cnd, isNil, outV, endR, wipe, back, partD, slice3, ix0, ix1, ix2, ix3, ints_map, augO, isI, okL, tupI, tabD, tbR, tbV]) (compL_filtD (thT v) thG fun x hx => ?_) (by rw [el, List.length_map]; omega)
    obtain ⟨j, hj⟩ := List.mem_iff_getElem?.mp hx
    obtain ⟨c, rfl, _⟩ := enum_int hj
    by_cases hi : (j : Int) = v
    · simp [runB, start, ob, bd, bz, bt, ex, evo, evm, isVar, ev, evs, evi, rd, frz, truth, isiT, isNon, cmp2, idx2, itemsD, seqD, slotD, slotL, putL, put, puts, bindT, blt1, blt2, op2, rdr, prt, cnd, isNil, outV, endR, wipe, back, partD, slice3, ix0, ix1, ix2, ix3, ints_map, augO, isI, okL, tupI, tabD, tbV, thT, hi]
    · simp [runB, start, ob, bd, bz, bt, ex, evo, evm, isVar, ev, evs, evi, rd, frz, truth, isiT, isNon, cmp2, idx2, itemsD, seqD, slotD, slotL, putL, put, puts, bindT, blt1, blt2, op2, rdr, prt, cnd, isNil, outV, endR, wipe, back, partD, slice3, ix0, ix1, ix2, ix3, ints_map, augO, isI, okL, tupI, tabD, tbV, thT, thG, hi]
  have g4 : ev (run TB.fn (k + 1)) (.cmp .eq (.comp (.var 14) (.seq (.var 12)) (.one 14) (.cmp .ne (.op .mod (.blt1 .int (.var 14)) (.var 3)) (.int 0)) [14]) (.lst .nil)) (tbV r1 m top f p w .un cs t .un (.val (.int v)) (.val (.int cs.sum)) (.own (l.map .int)) sums) =
      some (.val (.bool (decide (l.filter (fun c => !decide (c % f = 0)) = []))), tbV r1 m top f p w .un cs t .un (.val (.int v)) (.val (.int cs.sum)) (.val (.list (l.map .int))) sums) := by
    refine ev_cmp (sva := .own ((l.filter fun c => !decide (c % f = 0)).map .int)) (svb := .own []) (ρ1 := tbV r1 m top f p w .un cs t .un (.val (.int v)) (.val (.int cs.sum)) (.val (.list (l.map .int))) sums) ?_ rfl ev_lst0 rfl (eq_ints_nil _)
    refine ev_comp (ρ1 := tbV r1 m top f p w .un cs t .un (.val (.int v)) (.val (.int cs.sum)) (.val (.list (l.map .int))) sums) (ev_seqC (cs := l) rfl) (compL_filt (fun c => !decide (c % f = 0)) .int fun x hx => ?_) (by rw [List.length_map]; have := List.length_filter_le (fun c => !decide (c % f = 0)) l; omega)
    have fp : (0 : Int) < f := by omega
    by_cases hi : x % f = 0
    · simp [runB, start, ob, bd, bz, bt, ex, evo, evm, isVar, ev, evs, evi, rd, frz, truth, isiT, isNon, cmp2, idx2, itemsD, seqD, slotD, slotL, putL, put, puts, bindT, blt1, blt2, op2, rdr, prt, cnd, isNil, outV, endR, wipe, back, partD, slice3, ix0, ix1, ix2, ix3, ints_map, augO, isI, okL, tupI, tabD, tbV, hi, fp]
    · simp [runB, start, ob, bd, bz, bt, ex, evo, evm, isVar, ev, evs, evi, rd, frz, truth, isiT, isNon, cmp2, idx2, itemsD, seqD, slotD, slotL, putL, put, puts, bindT, blt1, blt2, op2, rdr, prt, cnd, isNil, outV, endR, wipe, back, partD, slice3, ix0, ix1, ix2, ix3, ints_map, augO, isI, okL, tupI, tabD, tbV, hi, fp]
  by_cases hd : l.filter (fun c => !decide (c % f = 0)) = []
  · rw [decide_eq_true hd] at g4
    have dv : ∀ (i : Nat) (c : Int), cs[i]? = some c → (i : Int) ≠ v → c % f = 0 := fun i c hc hi => by
      have m := lm i c hc hi
      by_cases z : c % f = 0
      · exact z
      · have : c ∈ l.filter (fun c => !decide (c % f = 0)) := List.mem_filter.mpr ⟨m, by simp [z]⟩
        rw [hd] at this; cases this
    obtain ⟨n2, e2⟩ := div_turn (n := p.toNat) f2 (by omega) nn s0 a1 (by omega) dv
    refine ⟨r1, (cs.map (· / f)).set v.toNat ((at_ cs v + (f - 1) * cs.sum) / f), _, _, _, _, (ex_seq g1).trans ((ex_seq g2).trans ((ex_seq g3).trans ((ex_seq (((ex_iteT g4).trans (?_ : _ = some (Out.nx, tbR r1 m top f p w .un ((cs.map (· / f)).set v.toNat ((at_ cs v + (f - 1) * cs.sum) / f)) t .un (.val (.int v)) (.val (.int cs.sum)) (.val (.list (l.map .int))) (.val (.int (at_ cs v + (f - 1) * cs.sum)))))))).trans ex_skip))), h1, by simpa using len, n2, by rw [e2]; exact s0, by rw [e2]; omega, cold_val, cold_val, cold_val, cold_val⟩
    refine (ex_seq (ρ1 := tbV r1 m top f p w .un cs t .un (.val (.int v)) (.val (.int cs.sum)) (.val (.list (l.map .int))) (.val (.int (at_ cs v + (f - 1) * cs.sum)))) ?_).trans ((ex_seq (ρ1 := tbR r1 m top f p w .un (cs.map (· / f)) t .un (.val (.int v)) (.val (.int cs.sum)) (.val (.list (l.map .int))) (.val (.int (at_ cs v + (f - 1) * cs.sum)))) ?_).trans ((ex_seq ?_).trans ex_skip))
    · have y := ixD_at a1 vl
      rcases c4 with rfl | ⟨d, rfl⟩ <;> simp [runB, start, ob, bd, bz, bt, ex, evo, evm, isVar, ev, evs, evi, rd, frz, truth, isiT, isNon, cmp2, idx2, itemsD, seqD, slotD, slotL, putL, put, puts, bindT, blt1, blt2, op2, rdr, prt, cnd, isNil, outV, endR, wipe, back, partD, slice3, ix0, ix1, ix2, ix3, ints_map, augO, isI, okL, tupI, tabD, tbV, y, bf1, bs]
    · have fp : (0 : Int) < f := by omega
      refine ex_set (ev_comp (ρ1 := tbV r1 m top f p w .un cs t .un (.val (.int v)) (.val (.int cs.sum)) (.val (.list (l.map .int))) (.val (.int (at_ cs v + (f - 1) * cs.sum)))) (xs := cs.map .int) (by simp [runB, start, ob, bd, bz, bt, ex, evo, evm, isVar, ev, evs, evi, rd, frz, truth, isiT, isNon, cmp2, idx2, itemsD, seqD, slotD, slotL, putL, put, puts, bindT, blt1, blt2, op2, rdr, prt, cnd, isNil, outV, endR, wipe, back, partD, slice3, ix0, ix1, ix2, ix3, ints_map, augO, isI, okL, tupI, tabD, tbV]) (compL_ints (fun c => .int (c / f)) fun c hc => by simp [runB, start, ob, bd, bz, bt, ex, evo, evm, isVar, ev, evs, evi, rd, frz, truth, isiT, isNon, cmp2, idx2, itemsD, seqD, slotD, slotL, putL, put, puts, bindT, blt1, blt2, op2, rdr, prt, cnd, isNil, outV, endR, wipe, back, partD, slice3, ix0, ix1, ix2, ix3, ints_map, augO, isI, okL, tupI, tabD, tbV, fp, bf]) (by simp; omega)) (by simp [runB, start, ob, bd, bz, bt, ex, evo, evm, isVar, ev, evs, evi, rd, frz, truth, isiT, isNon, cmp2, idx2, itemsD, seqD, slotD, slotL, putL, put, puts, bindT, blt1, blt2, op2, rdr, prt, cnd, isNil, outV, endR, wipe, back, partD, slice3, ix0, ix1, ix2, ix3, ints_map, augO, isI, okL, tupI, tabD, tbV, tbR])
    · have fp : (0 : Int) < f := by omega
      have ix := ixN_at (n := cs.length) a1 vl
      simp [runB, start, ob, bd, bz, bt, ex, evo, evm, isVar, ev, evs, evi, rd, frz, truth, isiT, isNon, cmp2, idx2, itemsD, seqD, slotD, slotL, putL, put, puts, bindT, blt1, blt2, op2, rdr, prt, cnd, isNil, outV, endR, wipe, back, partD, slice3, ix0, ix1, ix2, ix3, ints_map, augO, isI, okL, tupI, tabD, tbR, fp, bf, ix, List.map_set]
  · rw [decide_eq_false hd] at g4
    refine ⟨r1, cs.map (f * ·), _, _, _, _, (ex_seq g1).trans ((ex_seq g2).trans ((ex_seq g3).trans ((ex_seq (((ex_iteF g4).trans (?_ : _ = some (Out.nx, tbR r1 m top f p w .un (cs.map (f * ·)) t .un (.val (.int v)) (.val (.int cs.sum)) (.val (.list (l.map .int))) sums))))).trans ex_skip))), h1, by simpa using len, fun c hc => ?_, ?_, ?_, cold_val, cold_val, cold_val, c4⟩
    · refine (ex_seq (ex_set (ev_comp (ρ1 := tbV r1 m top f p w .un cs t .un (.val (.int v)) (.val (.int cs.sum)) (.val (.list (l.map .int))) sums) (xs := cs.map .int) (by simp [runB, start, ob, bd, bz, bt, ex, evo, evm, isVar, ev, evs, evi, rd, frz, truth, isiT, isNon, cmp2, idx2, itemsD, seqD, slotD, slotL, putL, put, puts, bindT, blt1, blt2, op2, rdr, prt, cnd, isNil, outV, endR, wipe, back, partD, slice3, ix0, ix1, ix2, ix3, ints_map, augO, isI, okL, tupI, tabD, tbV]) (compL_ints (fun c => .int (f * c)) fun c hc => by simp [runB, start, ob, bd, bz, bt, ex, evo, evm, isVar, ev, evs, evi, rd, frz, truth, isiT, isNon, cmp2, idx2, itemsD, seqD, slotD, slotL, putL, put, puts, bindT, blt1, blt2, op2, rdr, prt, cnd, isNil, outV, endR, wipe, back, partD, slice3, ix0, ix1, ix2, ix3, ints_map, augO, isI, okL, tupI, tabD, tbV, bf, hb c hc]) (by simp; omega)) (by simp [runB, start, ob, bd, bz, bt, ex, evo, evm, isVar, ev, evs, evi, rd, frz, truth, isiT, isNon, cmp2, idx2, itemsD, seqD, slotD, slotL, putL, put, puts, bindT, blt1, blt2, op2, rdr, prt, cnd, isNil, outV, endR, wipe, back, partD, slice3, ix0, ix1, ix2, ix3, ints_map, augO, isI, okL, tupI, tabD, tbV, tbR]; rfl))).trans ?_
      simp [ex, tbR]
    · obtain ⟨x, hx, rfl⟩ := List.mem_map.mp hc
      exact Int.mul_nonneg (by omega) (nn x hx)
    · rw [sum_mul]; exact Int.mul_pos (by omega) s0
    · rw [sum_mul]; exact Int.mul_le_mul_of_nonneg_right f9 (by omega)

theorem way2 {ns : List Int} {row : List D} (k : Nat) (h : RowOk ns row) {m top f p w : Int} (f2 : 2 ≤ f) (f9 : f ≤ 9) (p1 : 1 ≤ p) (p6 : p ≤ 6) :
    ∃ cs row' ρ', ex (run TB.fn (k + 1)) (.seq (.set 7 (.op .mul (.lst (.cons (.int 0) .nil)) (.var 4)))
    (.seq (.seti 7 (.callr 12 0 (.cons (.var 4) .nil)) (.op .add (.int 1) (.callr 12 0 (.cons (.int 9) .nil))))
    (.seq (.for_ (.one 8) (.rng1 (.callr 12 0 (.cons (.int 5) .nil))) w2)
    (.seq (.ret (.tup (.cons (.var 3) (.cons (.blt1 .tuple (.var 7)) .nil))))
    .skip)))) [.row row, .val (.int m), .val (.int top), .val (.int f), .val (.int p), .val (.int w), .un, .un, .un, .un, .un, .un, .un, .un, .un, .un] = some (.rt (.val (tabD f cs)), ρ') ∧ endR true ρ' = some row' ∧ Table f cs ∧ cs.length = p ∧ RowOk ns row' := by
  obtain ⟨v1, r1, e1, a1, b1, h1⟩ := taken_ok (m := 9) k h (by decide) (by decide)
  obtain ⟨v2, r2, e2, a2, b2, h2⟩ := taken_ok (m := p) k h1 (by omega) (by omega)
  obtain ⟨v3, r3, e3, a3, b3, h3⟩ := taken_ok (m := 5) k h2 (by decide) (by decide)
  have hm := mul_rep 0 (p := p) (by omega) (by omega)
  have s1 : ex (run TB.fn (k + 1)) (.set 7 (.op .mul (.lst (.cons (.int 0) .nil)) (.var 4))) [.row row, .val (.int m), .val (.int top), .val (.int f), .val (.int p), .val (.int w), .un, .un, .un, .un, .un, .un, .un, .un, .un, .un] = some (.nx, tbR row m top f p w .un (List.replicate p.toNat 0) .un .un .un .un .un .un) := by
    simp [runB, start, ob, bd, bz, bt, ex, evo, evm, isVar, ev, evs, evi, rd, frz, truth, isiT, isNon, cmp2, idx2, itemsD, seqD, slotD, slotL, putL, put, puts, bindT, blt1, blt2, op2, rdr, prt, cnd, isNil, outV, endR, wipe, back, partD, slice3, ix0, ix1, ix2, ix3, ints_map, augO, isI, okL, tupI, tabD, tbR] at hm ⊢
    simp [hm]
  have s2 : ex (run TB.fn (k + 1)) (.seti 7 (.callr 12 0 (.cons (.var 4) .nil)) (.op .add (.int 1) (.callr 12 0 (.cons (.int 9) .nil)))) (tbR row m top f p w .un (List.replicate p.toNat 0) .un .un .un .un .un .un) = some (.nx, tbR r2 m top f p w .un ((List.replicate p.toNat 0).set v2.toNat (1 + v1)) .un .un .un .un .un .un) := by
    have ix := ixN_at (n := p.toNat) a2 (by omega)
    simp [runB, start, ob, bd, bz, bt, ex, evo, evm, isVar, ev, evs, evi, rd, frz, truth, isiT, isNon, cmp2, idx2, itemsD, seqD, slotD, slotL, putL, put, puts, bindT, blt1, blt2, op2, rdr, prt, cnd, isNil, outV, endR, wipe, back, partD, slice3, ix0, ix1, ix2, ix3, ints_map, augO, isI, okL, tupI, tabD, tbR, e1, e2, ix, List.map_set]
  have len0 : ((List.replicate p.toNat (0 : Int)).set v2.toNat (1 + v1)).length = p := by simp; omega
  have nn0 : ∀ c ∈ (List.replicate p.toNat (0 : Int)).set v2.toNat (1 + v1), 0 ≤ c := fun c hc => by
    rcases set_mem hc with e | e
    · omega
    · rw [List.eq_of_mem_replicate e]; omega
  have sum0 : ((List.replicate p.toNat (0 : Int)).set v2.toNat (1 + v1)).sum = 1 + v1 := by
    rw [sum_set _ (by simp; omega), sum_rep]
    have : (List.replicate p.toNat (0 : Int)).getD v2.toNat 0 = 0 := by
      rw [List.getD_eq_getElem?_getD, List.getElem?_replicate]
      split <;> rfl
    rw [this]; omega
  obtain ⟨ρ', e4, row4, cs, t, pay, tot, oth, sums, rfl, ct, c2, c3, c4, c5, len, nn, s0, sB, h4⟩ := wx_for (c := run TB.fn (k + 1)) (t := .one 8) (it := .rng1 (.callr 12 0 (.cons (.int 5) .nil))) (b := w2)
    (ρ := tbR r2 m top f p w .un ((List.replicate p.toNat 0).set v2.toNat (1 + v1)) .un .un .un .un .un .un) (ρ1 := tbR r3 m top f p w .un ((List.replicate p.toNat 0).set v2.toNat (1 + v1)) .un .un .un .un .un .un)
    (evi_rng1 (n := v3) (by simp [runB, start, ob, bd, bz, bt, ex, evo, evm, isVar, ev, evs, evi, rd, frz, truth, isiT, isNon, cmp2, idx2, itemsD, seqD, slotD, slotL, putL, put, puts, bindT, blt1, blt2, op2, rdr, prt, cnd, isNil, outV, endR, wipe, back, partD, slice3, ix0, ix1, ix2, ix3, ints_map, augO, isI, okL, tupI, tabD, tbR, e3]) (rngOk_of (by omega) (by omega)))
    (fun j ρ => ∃ row cs t pay tot oth sums, ρ = tbR row m top f p w .un cs t .un pay tot oth sums ∧ cold t ∧ cold pay ∧ cold tot ∧ cold oth ∧ cold sums ∧ (cs.length : Int) = p ∧ (∀ c ∈ cs, 0 ≤ c) ∧ 0 < cs.sum ∧ cs.sum ≤ 9 * 9 ^ j ∧ RowOk ns row)
    ⟨r3, _, .un, .un, .un, .un, .un, rfl, cold_un, cold_un, cold_un, cold_un, cold_un, len0, nn0, by rw [sum0]; omega, by rw [sum0, Int.pow_zero]; omega, h3⟩ (by
      rintro j x ρ hx ⟨row, cs, t, pay, tot, oth, sums, rfl, ct, c2, c3, c4, c5, len, nn, s0, sB, hr⟩
      have hj : j < 4 := by
        have := (List.getElem?_eq_some_iff.mp hx).1
        simp [upto_length] at this
        omega
      have hB := pow9' j (by omega)
      refine ⟨tbR row m top f p w .un cs (.val x) .un pay tot oth sums, by rcases ct with rfl | ⟨d, rfl⟩ <;> simp [runB, start, ob, bd, bz, bt, ex, evo, evm, isVar, ev, evs, evi, rd, frz, truth, isiT, isNon, cmp2, idx2, itemsD, seqD, slotD, slotL, putL, put, puts, bindT, blt1, blt2, op2, rdr, prt, cnd, isNil, outV, endR, wipe, back, partD, slice3, ix0, ix1, ix2, ix3, ints_map, augO, isI, okL, tupI, tabD, tbR], ?_⟩
      obtain ⟨row', cs', pay', tot', oth', sums', e, q1, q2, q3, q4, q5, q6, q7, q8, q9⟩ := turn2 (t := .val x) (m := m) (top := top) (w := w) k hr f2 f9 p1 p6 len nn s0 (by omega) c2 c3 c4 c5
      exact ⟨.nx, _, e, rfl, row', cs', .val x, pay', tot', oth', sums', rfl, cold_val, q6, q7, q8, q9, q2, q3, q4, by rw [Int.pow_succ]; omega, q1⟩)
  rw [List.length_map, upto_length] at sB
  have hB := pow9' v3.toNat (by omega)
  refine ⟨cs, row4, tbR row4 m top f p w .un cs t .un pay tot oth sums, ?_, rfl, ⟨f2, f9, by omega, by omega, nn, fun c hc => ?_, by omega⟩, len, h4⟩
  · refine (ex_seq s1).trans ((ex_seq s2).trans ((ex_seq e4).trans (ex_seqR (ex_retE rfl ?_))))
    simp [runB, start, ob, bd, bz, bt, ex, evo, evm, isVar, ev, evs, evi, rd, frz, truth, isiT, isNon, cmp2, idx2, itemsD, seqD, slotD, slotL, putL, put, puts, bindT, blt1, blt2, op2, rdr, prt, cnd, isNil, outV, endR, wipe, back, partD, slice3, ix0, ix1, ix2, ix3, ints_map, augO, isI, okL, tupI, tabD, tbR]
  · have := le_sum nn c hc
    omega
theorem way3 {ns : List Int} {row : List D} (k : Nat) (h : RowOk ns row) {m top f p w : Int} (f2 : 2 ≤ f) (f9 : f ≤ 9) (p1 : 1 ≤ p) (p6 : p ≤ 6) (t1 : 1 ≤ top) (t2 : top ≤ 1000001) :
    ∃ cs row' ρ', ex (run TB.fn (k + 1)) (.seq (.set 7 (.comp (.callr 12 0 (.cons (.var 2) .nil)) (.rng1 (.var 4)) (.one 15) .nil [15]))
    (.seq (.ret (.tup (.cons (.var 3) (.cons (.ife (.cmp .gt (.blt1 .sum (.var 7)) (.int 0)) (.blt1 .tuple (.var 7)) (.op .mul (.tup (.cons (.int 1) .nil)) (.var 4))) .nil))))
    .skip)) [.row row, .val (.int m), .val (.int top), .val (.int f), .val (.int p), .val (.int w), .un, .un, .un, .un, .un, .un, .un, .un, .un, .un] = some (.rt (.val (tabD f cs)), ρ') ∧ endR true ρ' = some row' ∧ Table f cs ∧ cs.length = p ∧ RowOk ns row' := by
  obtain ⟨ys, ρ', e, ⟨row1, rfl, h1⟩, ly, hy⟩ := compL_inv (fun ρ => ∃ row, ρ = [.row row, .val (.int m), .val (.int top), .val (.int f), .val (.int p), .val (.int w), .un, .un, .un, .un, .un, .un, .un, .un, .un, .un] ∧ RowOk ns row) (fun y => ∃ c : Int, y = .int c ∧ 0 ≤ c ∧ c < top)
    (f := fun x ρ2 => ob (bindT (.one 15) x ρ2) fun ρ3 => bd (cnd ρ3 .nil (ev (run TB.fn (k + 1)) .nil ρ3)) fun k_1 ρ4 => if k_1 = true then bz (ev (run TB.fn (k + 1)) (.callr 12 0 (.cons (.var 2) .nil)) ρ4) fun y ρ5 => some ([y], wipe ρ5 [15]) else some ([], wipe ρ4 [15]))
    (xs := (upto p.toNat).map .int) (ρ := [.row row, .val (.int m), .val (.int top), .val (.int f), .val (.int p), .val (.int w), .un, .un, .un, .un, .un, .un, .un, .un, .un, .un]) ⟨row, rfl, h⟩ (by
      rintro x ρ _ ⟨row, rfl, hr⟩
      obtain ⟨v, r1, e1, a1, b1, h1⟩ := taken_ok (m := top) k hr (by omega) (by omega)
      refine ⟨.int v, [.row r1, .val (.int m), .val (.int top), .val (.int f), .val (.int p), .val (.int w), .un, .un, .un, .un, .un, .un, .un, .un, .un, .un], ?_, ⟨r1, rfl, h1⟩, v, rfl, a1, b1⟩
      simp [runB, start, ob, bd, bz, bt, ex, evo, evm, isVar, ev, evs, evi, rd, frz, truth, isiT, isNon, cmp2, idx2, itemsD, seqD, slotD, slotL, putL, put, puts, bindT, blt1, blt2, op2, rdr, prt, cnd, isNil, outV, endR, wipe, back, partD, slice3, ix0, ix1, ix2, ix3, ints_map, augO, isI, okL, tupI, tabD, e1])
  obtain ⟨cs, rfl⟩ := ints_ex fun y hy' => (hy y hy').imp fun c q => q.1
  have len : cs.length = p := by
    rw [List.length_map, List.length_map, upto_length] at ly; omega
  have rg : ∀ c ∈ cs, 0 ≤ c ∧ c < top := fun c hc => by
    obtain ⟨c2, h1, h2⟩ := hy (.int c) (List.mem_map.mpr ⟨c, hc, rfl⟩)
    cases h1; exact h2
  have s1 : ex (run TB.fn (k + 1)) (.set 7 (.comp (.callr 12 0 (.cons (.var 2) .nil)) (.rng1 (.var 4)) (.one 15) .nil [15])) [.row row, .val (.int m), .val (.int top), .val (.int f), .val (.int p), .val (.int w), .un, .un, .un, .un, .un, .un, .un, .un, .un, .un] = some (.nx, tbR row1 m top f p w .un cs .un .un .un .un .un .un) :=
    ex_set (ev_comp (ρ1 := [.row row, .val (.int m), .val (.int top), .val (.int f), .val (.int p), .val (.int w), .un, .un, .un, .un, .un, .un, .un, .un, .un, .un]) (evi_rng1 (n := p) (by simp [runB, start, ob, bd, bz, bt, ex, evo, evm, isVar, ev, evs, evi, rd, frz, truth, isiT, isNon, cmp2, idx2, itemsD, seqD, slotD, slotL, putL, put, puts, bindT, blt1, blt2, op2, rdr, prt, cnd, isNil, outV, endR, wipe, back, partD, slice3, ix0, ix1, ix2, ix3, ints_map, augO, isI, okL, tupI, tabD]) (rngOk_of (by omega) (by omega))) e (by rw [List.length_map]; omega)) rfl
  by_cases hs : 0 < cs.sum
  · refine ⟨cs, row1, tbR row1 m top f p w .un cs .un .un .un .un .un .un, (ex_seq s1).trans (ex_seqR (ex_retE rfl ?_)), rfl, ⟨f2, f9, by omega, by omega, fun c hc => (rg c hc).1, fun c hc => by have := (rg c hc).2; omega, by omega⟩, len, h1⟩
    simp [runB, start, ob, bd, bz, bt, ex, evo, evm, isVar, ev, evs, evi, rd, frz, truth, isiT, isNon, cmp2, idx2, itemsD, seqD, slotD, slotL, putL, put, puts, bindT, blt1, blt2, op2, rdr, prt, cnd, isNil, outV, endR, wipe, back, partD, slice3, ix0, ix1, ix2, ix3, ints_map, augO, isI, okL, tupI, tabD, tbR, hs]
  · refine ⟨List.replicate p.toNat 1, row1, tbR row1 m top f p w .un cs .un .un .un .un .un .un, (ex_seq s1).trans (ex_seqR (ex_retE rfl ?_)), rfl, ⟨f2, f9, by simp; omega, by simp; omega, fun c hc => by rw [List.eq_of_mem_replicate hc]; decide, fun c hc => by rw [List.eq_of_mem_replicate hc]; decide, by rw [sum_rep]; omega⟩, by simp; omega, h1⟩
    have hm := mul_repT 1 (p := p) (by omega) (by omega)
    simp [runB, start, ob, bd, bz, bt, ex, evo, evm, isVar, ev, evs, evi, rd, frz, truth, isiT, isNon, cmp2, idx2, itemsD, seqD, slotD, slotL, putL, put, puts, bindT, blt1, blt2, op2, rdr, prt, cnd, isNil, outV, endR, wipe, back, partD, slice3, ix0, ix1, ix2, ix3, ints_map, augO, isI, okL, tupI, tabD, tbR, hs] at hm ⊢
    simp [hm]
theorem factors_of {d : D} (h : d ∈ [PyData.int 2, .int 2, .int 2, .int 3, .int 3, .int 4, .int 9]) : ∃ f : Int, d = .int f ∧ 2 ≤ f ∧ f ≤ 9 := by
  simp only [List.mem_cons, List.not_mem_nil, or_false] at h
  rcases h with rfl | rfl | rfl | rfl | rfl | rfl | rfl <;> exact ⟨_, rfl, by decide, by decide⟩
theorem l_table_ok {ns : List Int} {row : List D} (k : Nat) (h : RowOk ns row) {m top : Int} (m1 : 1 ≤ m) (m6 : m ≤ 6) (t1 : 1 ≤ top) (t2 : top ≤ 1000001) :
    ∃ f cs row', run TB.fn (k + 3) 14 (some row) [.int m, .int top] = some (.val (tabD f cs), row') ∧ Table f cs ∧ cs.length ≤ m ∧ RowOk ns row' := by
  obtain ⟨d, r1, e1, hd, h1⟩ := pick_ok k (ds := [.int 2, .int 2, .int 2, .int 3, .int 3, .int 4, .int 9]) h (by simp) (by simp)
  obtain ⟨f, rfl, f2, f9⟩ := factors_of hd
  obtain ⟨v2, r2, e2, a2, b2, h2⟩ := taken_ok (m := m) (k + 1) h1 (by omega) (by omega)
  obtain ⟨v3, r3, e3, a3, b3, h3⟩ := taken_ok (m := 5) (k + 1) h2 (by decide) (by decide)
  have s1 : ex (run TB.fn (k + 2)) (.par [3, 4] (.cons (.callr 13 0 (.cons (.lst (.cons (.int 2) (.cons (.int 2) (.cons (.int 2) (.cons (.int 3) (.cons (.int 3) (.cons (.int 4) (.cons (.int 9) .nil)))))))) .nil)) (.cons (.op .add (.int 1) (.callr 12 0 (.cons (.var 1) .nil))) .nil)))
      [.row row, .val (.int m), .val (.int top), .un, .un, .un, .un, .un, .un, .un, .un, .un, .un, .un, .un, .un] = some (.nx, [.row r2, .val (.int m), .val (.int top), .val (.int f), .val (.int (1 + v2)), .un, .un, .un, .un, .un, .un, .un, .un, .un, .un, .un]) := by
    simp [runB, start, ob, bd, bz, bt, ex, evo, evm, isVar, ev, evs, evi, rd, frz, truth, isiT, isNon, cmp2, idx2, itemsD, seqD, slotD, slotL, putL, put, puts, bindT, blt1, blt2, op2, rdr, prt, cnd, isNil, outV, endR, wipe, back, partD, slice3, ix0, ix1, ix2, ix3, ints_map, augO, isI, okL, tupI, tabD, e1, e2]
  have s2 : ex (run TB.fn (k + 2)) (.set 5 (.callr 12 0 (.cons (.int 5) .nil))) [.row r2, .val (.int m), .val (.int top), .val (.int f), .val (.int (1 + v2)), .un, .un, .un, .un, .un, .un, .un, .un, .un, .un, .un] =
      some (.nx, [.row r3, .val (.int m), .val (.int top), .val (.int f), .val (.int (1 + v2)), .val (.int v3), .un, .un, .un, .un, .un, .un, .un, .un, .un, .un]) := by
    simp [runB, start, ob, bd, bz, bt, ex, evo, evm, isVar, ev, evs, evi, rd, frz, truth, isiT, isNon, cmp2, idx2, itemsD, seqD, slotD, slotL, putL, put, puts, bindT, blt1, blt2, op2, rdr, prt, cnd, isNil, outV, endR, wipe, back, partD, slice3, ix0, ix1, ix2, ix3, ints_map, augO, isI, okL, tupI, tabD, e3]
  have fin : ∀ {cs : List Int} {row' : List D}, Wx (ex (run TB.fn (k + 2)) fn_14.body [.row row, .val (.int m), .val (.int top), .un, .un, .un, .un, .un, .un, .un, .un, .un, .un, .un, .un, .un]) (fun o ρ => o = .rt (.val (tabD f cs)) ∧ endR true ρ = some row') → run TB.fn (k + 3) 14 (some row) [.int m, .int top] = some (.val (tabD f cs), row') := fun w =>
    run_eq [.row row, .val (.int m), .val (.int top), .un, .un, .un, .un, .un, .un, .un, .un, .un, .un, .un, .un, .un] look_14 rfl (wx_mono w fun o ρ ⟨q1, q2⟩ => by subst q1; exact ⟨rfl, q2⟩)
  by_cases w0 : v3 < 2
  · obtain ⟨cs, row', ρ', e, er, tb, ln, hr⟩ := way0 (m := m) (top := top) (w := v3) (k + 1) h3 f2 f9 (p := 1 + v2) (by omega) (by omega)
    refine ⟨f, cs, row', fin (wx_seq s1 (wx_seq s2 (wx_seqR (v := .val (tabD f cs)) ((ex_iteT ?_).trans e) ⟨rfl, er⟩))), tb, by omega, hr⟩
    simp [runB, start, ob, bd, bz, bt, ex, evo, evm, isVar, ev, evs, evi, rd, frz, truth, isiT, isNon, cmp2, idx2, itemsD, seqD, slotD, slotL, putL, put, puts, bindT, blt1, blt2, op2, rdr, prt, cnd, isNil, outV, endR, wipe, back, partD, slice3, ix0, ix1, ix2, ix3, ints_map, augO, isI, okL, tupI, tabD, w0]
  · by_cases w1 : v3 = 2
    · obtain ⟨cs, row', ρ', e, er, tb, ln, hr⟩ := way2 (m := m) (top := top) (w := v3) (k + 1) h3 f2 f9 (p := 1 + v2) (by omega) (by omega)
      refine ⟨f, cs, row', fin (wx_seq s1 (wx_seq s2 (wx_seq ((ex_iteF (ρ1 := [.row r3, .val (.int m), .val (.int top), .val (.int f), .val (.int (1 + v2)), .val (.int v3), .un, .un, .un, .un, .un, .un, .un, .un, .un, .un]) ?_).trans ex_skip) (wx_seqR (v := .val (tabD f cs)) ((ex_iteT ?_).trans e) ⟨rfl, er⟩)))), tb, by omega, hr⟩
      · simp [runB, start, ob, bd, bz, bt, ex, evo, evm, isVar, ev, evs, evi, rd, frz, truth, isiT, isNon, cmp2, idx2, itemsD, seqD, slotD, slotL, putL, put, puts, bindT, blt1, blt2, op2, rdr, prt, cnd, isNil, outV, endR, wipe, back, partD, slice3, ix0, ix1, ix2, ix3, ints_map, augO, isI, okL, tupI, tabD, w0]
      · simp [runB, start, ob, bd, bz, bt, ex, evo, evm, isVar, ev, evs, evi, rd, frz, truth, isiT, isNon, cmp2, idx2, itemsD, seqD, slotD, slotL, putL, put, puts, bindT, blt1, blt2, op2, rdr, prt, cnd, isNil, outV, endR, wipe, back, partD, slice3, ix0, ix1, ix2, ix3, ints_map, augO, isI, okL, tupI, tabD, w1]
    · obtain ⟨cs, row', ρ', e, er, tb, ln, hr⟩ := way3 (m := m) (top := top) (w := v3) (k + 1) h3 f2 f9 (p := 1 + v2) (by omega) (by omega) t1 t2
      refine ⟨f, cs, row', fin (wx_seq s1 (wx_seq s2 (wx_seq ((ex_iteF (ρ1 := [.row r3, .val (.int m), .val (.int top), .val (.int f), .val (.int (1 + v2)), .val (.int v3), .un, .un, .un, .un, .un, .un, .un, .un, .un, .un]) ?_).trans ex_skip) (wx_seq ((ex_iteF (ρ1 := [.row r3, .val (.int m), .val (.int top), .val (.int f), .val (.int (1 + v2)), .val (.int v3), .un, .un, .un, .un, .un, .un, .un, .un, .un, .un]) ?_).trans ex_skip) ⟨_, _, e, rfl, er⟩)))), tb, by omega, hr⟩
      · simp [runB, start, ob, bd, bz, bt, ex, evo, evm, isVar, ev, evs, evi, rd, frz, truth, isiT, isNon, cmp2, idx2, itemsD, seqD, slotD, slotL, putL, put, puts, bindT, blt1, blt2, op2, rdr, prt, cnd, isNil, outV, endR, wipe, back, partD, slice3, ix0, ix1, ix2, ix3, ints_map, augO, isI, okL, tupI, tabD, w0]
      · simp [runB, start, ob, bd, bz, bt, ex, evo, evm, isVar, ev, evs, evi, rd, frz, truth, isiT, isNon, cmp2, idx2, itemsD, seqD, slotD, slotL, putL, put, puts, bindT, blt1, blt2, op2, rdr, prt, cnd, isNil, outV, endR, wipe, back, partD, slice3, ix0, ix1, ix2, ix3, ints_map, augO, isI, okL, tupI, tabD, w1]

/-! two who pay at once -/
theorem three_le {cs : List Int} (nn : ∀ c ∈ cs, 0 ≤ c) {i j : Int} (i0 : 0 ≤ i) (i1 : i < cs.length) (j0 : 0 ≤ j) (j1 : j < cs.length) (ij : i ≠ j) :
    at_ cs i + at_ cs j ≤ cs.sum ∧ ∀ k : Int, 0 ≤ k → k < cs.length → k ≠ i → k ≠ j → at_ cs i + at_ cs j + at_ cs k ≤ cs.sum := by
  have hi : i.toNat < cs.length := by omega
  have hj : j.toNat < (cs.set i.toNat 0).length := by simp; omega
  have s1 := sum_set (cs := cs) 0 hi
  have s2 := sum_set (cs := cs.set i.toNat 0) 0 hj
  have e1 : cs.getD i.toNat 0 = at_ cs i := rfl
  have e2 : (cs.set i.toNat 0).getD j.toNat 0 = at_ cs j := by
    unfold at_
    rw [List.getD_eq_getElem?_getD, List.getElem?_set_ne (by omega), List.getD_eq_getElem?_getD]
  have n1 : ∀ c ∈ (cs.set i.toNat 0).set j.toNat 0, 0 ≤ c := fun c hc => by
    rcases set_mem hc with e | e
    · omega
    · rcases set_mem e with e | e
      · omega
      · exact nn c e
  have z := sum_nn n1
  rw [e1] at s1
  rw [e2] at s2
  refine ⟨by omega, fun k k0 k1 ki kj => ?_⟩
  have m : at_ cs k ∈ (cs.set i.toNat 0).set j.toNat 0 := by
    have : ((cs.set i.toNat 0).set j.toNat 0)[k.toNat]? = some (at_ cs k) := by
      rw [List.getElem?_set_ne (by omega), List.getElem?_set_ne (by omega)]
      exact at_some k0 k1
    exact List.mem_of_getElem? this
  have := le_sum n1 _ m
  omega
theorem two_payG {f : Int} {cs : List Int} (f2 : 2 ≤ f) (f9 : f ≤ 9) (nn : ∀ c ∈ cs, 0 ≤ c) (sp : 0 < cs.sum) (h2 : 2 ≤ (payL f cs).length) : f = 2 ∧ (payL f cs).length = 2 ∧ ∀ c ∈ cs, c = 0 ∨ c = cs.sum / 2 := by
  have nd : (payL f cs).Nodup := by
    unfold payL upto
    exact (List.Pairwise.filter _ (List.Pairwise.map _ (fun a b (hab : a ≠ b) (e : Int.ofNat a = Int.ofNat b) => hab (Int.ofNat.inj e)) List.nodup_range))
  have mem : ∀ k ∈ payL f cs, (0 ≤ k ∧ k < cs.length) ∧ (f - 1) * cs.sum ≤ f * at_ cs k := fun k hk => mem_payL.mp hk
  match e : payL f cs, h2 with
  | i :: j :: r, _ =>
    rw [e] at mem nd
    obtain ⟨⟨i0, i1⟩, hi⟩ := mem i (by simp)
    obtain ⟨⟨j0, j1⟩, hj⟩ := mem j (by simp)
    have ij : i ≠ j := by
      intro z; subst z
      simp at nd
    obtain ⟨t1, t2⟩ := three_le nn i0 i1 j0 j1 ij
    have a0 := nn _ (at_mem i0 i1)
    have b0 := nn _ (at_mem j0 j1)
    have ff : f = 2 := by
      have : f = 2 ∨ f = 3 ∨ f = 4 ∨ f = 5 ∨ f = 6 ∨ f = 7 ∨ f = 8 ∨ f = 9 := by omega
      rcases this with z | z | z | z | z | z | z | z <;> subst z <;> omega
    subst ff
    have ci : at_ cs i = cs.sum / 2 := by omega
    have cj : at_ cs j = cs.sum / 2 := by omega
    have s2 : at_ cs i + at_ cs j = cs.sum := by omega
    have rn : r = [] := by
      cases r with
      | nil => rfl
      | cons k r =>
        obtain ⟨⟨k0, k1⟩, hk⟩ := mem k (by simp)
        have ki : k ≠ i := by intro z; subst z; simp at nd
        have kj : k ≠ j := by intro z; subst z; simp at nd
        have := t2 k k0 k1 ki kj
        omega
    subst rn
    refine ⟨rfl, rfl, fun c hc => ?_⟩
    obtain ⟨n, hn⟩ := List.mem_iff_getElem?.mp hc
    have nl := (List.getElem?_eq_some_iff.mp hn).1
    have en : at_ cs (n : Int) = c := by
      unfold at_
      rw [Int.toNat_natCast, List.getD_eq_getElem?_getD, hn]; rfl
    have c0 := nn c hc
    by_cases ki : (n : Int) = i
    · rw [← en, ki]; exact .inr ci
    · by_cases kj : (n : Int) = j
      · rw [← en, kj]; exact .inr cj
      · have := t2 n (by omega) (by omega) ki kj
        rw [en] at this
        exact .inl (by omega)
  | [i], h2 => simp at h2
  | [], h2 => simp at h2
theorem two_pay {f : Int} {cs : List Int} (h : Table f cs) (h2 : 2 ≤ (payL f cs).length) : f = 2 ∧ (payL f cs).length = 2 ∧ ∀ c ∈ cs, c = 0 ∨ c = cs.sum / 2 := two_payG h.f2 h.f9 h.nn h.sum_pos h2

theorem items_tupI (cs : List Int) : itemsD (tupI cs) = some (cs.map .int) := rfl
theorem seq_tupI (cs : List Int) : seqD (tupI cs) = some (cs.map .int) := rfl
theorem items_tabD (f : Int) (cs : List Int) : itemsD (tabD f cs) = some [.int f, tupI cs] := rfl
theorem seq_tabD (f : Int) (cs : List Int) : seqD (tabD f cs) = some [.int f, tupI cs] := rfl
theorem items_list (ds : List D) : itemsD (.list ds) = some ds := rfl
theorem seq_list (ds : List D) : seqD (.list ds) = some ds := rfl
theorem ev_and {c : FT} {a b : E} {ρ ρ1 ρ2 : Rho} {v : SV} (h1 : ev c a ρ = some (.val (.bool true), ρ1)) (h2 : ev c b ρ1 = some (v, ρ2)) : ev c (.and a b) ρ = some (v, ρ2) := by
  show bt (ev c a ρ) _ = _
  rw [h1]
  exact h2

/-! numbers of words -/
/-- the numbers behind one more payer -/
def numT (f : Int) (x : List Int) (p : Int) : List Int := (x.map (f * ·)).set p.toNat (f * at_ x p + (f - 1))
def numF (f : Int) : List Int → List Int → List Int
  | x, [] => x
  | x, p :: w => numF f (numT f x p) w
def zeros (n : Nat) : List Int := List.replicate n 0
/-- the numbers of a word -/
def nums (f : Int) (n : Nat) (w : List Int) : List Int := numF f (zeros n) w
def InW (n : Nat) (w : List Int) : Prop := ∀ p ∈ w, 0 ≤ p ∧ p < n
theorem numT_len (f : Int) (x : List Int) (p : Int) : (numT f x p).length = x.length := by simp [numT]
theorem numF_len (f : Int) : ∀ (w x : List Int), (numF f x w).length = x.length
  | [], _ => rfl
  | p :: w, x => by unfold numF; rw [numF_len f w, numT_len]
theorem nums_len (f : Int) (n : Nat) (w : List Int) : (nums f n w).length = n := by unfold nums; rw [numF_len]; simp [zeros]
theorem numF_app (f : Int) : ∀ (w v x : List Int), numF f x (w ++ v) = numF f (numF f x w) v
  | [], _, _ => rfl
  | p :: w, v, x => by show numF f (numT f x p) (w ++ v) = _; rw [numF_app f w]; rfl
theorem at_set {x : List Int} {p k : Int} {v : Int} (p0 : 0 ≤ p) (p1 : p < x.length) (k0 : 0 ≤ k) (k1 : k < x.length) : at_ (x.set p.toNat v) k = if k = p then v else at_ x k := by
  unfold at_
  rw [List.getD_eq_getElem?_getD, List.getD_eq_getElem?_getD]
  by_cases h : k = p
  · subst h
    rw [if_pos rfl, List.getElem?_set_self (by omega)]
    rfl
  · rw [if_neg h, List.getElem?_set_ne (by omega)]
theorem numT_at {f : Int} {x : List Int} {p k : Int} (p0 : 0 ≤ p) (p1 : p < x.length) (k0 : 0 ≤ k) (k1 : k < x.length) : at_ (numT f x p) k = f * at_ x k + (if k = p then f - 1 else 0) := by
  unfold numT
  rw [at_set p0 (by simpa using p1) k0 (by simpa using k1)]
  by_cases h : k = p
  · rw [if_pos h, if_pos h, h]
  · rw [if_neg h, if_neg h, at_map (f * ·) k0 k1]; omega
theorem numT_sum {f : Int} {x : List Int} {p : Int} (p0 : 0 ≤ p) (p1 : p < x.length) : (numT f x p).sum = f * x.sum + (f - 1) := by
  unfold numT
  rw [sum_set _ (by simp; omega), sum_mul]
  have e : (x.map (f * ·)).getD p.toNat 0 = f * at_ x p := at_map (f * ·) p0 p1
  rw [e]; omega
theorem numF_sum {f : Int} : ∀ {w x : List Int}, InW x.length w → (numF f x w).sum + 1 = f ^ w.length * (x.sum + 1)
  | [], x, _ => by simp [numF]
  | p :: w, x, h => by
    obtain ⟨p0, p1⟩ := h p (by simp)
    unfold numF
    rw [numF_sum (w := w) (by rw [numT_len]; exact fun q hq => h q (by simp [hq])), numT_sum p0 p1, List.length_cons, Int.pow_succ]
    have : f * x.sum + (f - 1) + 1 = f * (x.sum + 1) := by rw [Int.mul_add]; omega
    rw [this, Int.mul_assoc]
theorem nums_sum {f : Int} {n : Nat} {w : List Int} (h : InW n w) : (nums f n w).sum = f ^ w.length - 1 := by
  have := numF_sum (f := f) (x := zeros n) (w := w) (by simpa [zeros] using h)
  have z : (zeros n).sum = 0 := by unfold zeros; rw [sum_rep]; omega
  rw [z] at this
  unfold nums; omega
theorem numT_nn {f : Int} {x : List Int} {p : Int} (f1 : 1 ≤ f) (p0 : 0 ≤ p) (p1 : p < x.length) (h : ∀ c ∈ x, 0 ≤ c) : ∀ c ∈ numT f x p, 0 ≤ c := fun c hc => by
  rcases set_mem hc with e | e
  · have := Int.mul_nonneg (show 0 ≤ f by omega) (h _ (at_mem p0 p1)); omega
  · obtain ⟨y, hy, rfl⟩ := List.mem_map.mp e
    exact Int.mul_nonneg (by omega) (h y hy)
theorem numF_nn {f : Int} (f1 : 1 ≤ f) : ∀ {w x : List Int}, InW x.length w → (∀ c ∈ x, 0 ≤ c) → ∀ c ∈ numF f x w, 0 ≤ c
  | [], _, _, h => h
  | p :: w, x, hw, h => by
    obtain ⟨p0, p1⟩ := hw p (by simp)
    exact numF_nn f1 (w := w) (by rw [numT_len]; exact fun q hq => hw q (by simp [hq])) (numT_nn f1 p0 p1 h)
theorem nums_nn {f : Int} {n : Nat} {w : List Int} (f1 : 1 ≤ f) (h : InW n w) : ∀ c ∈ nums f n w, 0 ≤ c :=
  numF_nn f1 (by simpa [zeros] using h) fun c hc => by rw [List.eq_of_mem_replicate hc]; omega
/-! one digit -/
def unit (n p : Nat) (v : Int) : List Int := (zeros n).set p v
theorem sort_zeros : ∀ n : Nat, sortI (zeros n) = zeros n
  | 0 => rfl
  | n + 1 => by
    show insI 0 (sortI (zeros n)) = _
    rw [sort_zeros n]
    cases n <;> rfl
theorem ins_last {v : Int} (hv : 0 < v) : ∀ n : Nat, insI v (zeros n) = zeros n ++ [v]
  | 0 => rfl
  | n + 1 => by
    show insI v (0 :: zeros n) = _
    unfold insI
    rw [if_neg (by omega), ins_last hv n]
    rfl
theorem ins_zero {v : Int} (hv : 0 < v) : ∀ n : Nat, insI 0 (zeros n ++ [v]) = zeros (n + 1) ++ [v]
  | 0 => by show insI 0 [v] = [0, v]; unfold insI; rw [if_pos (by omega)]
  | n + 1 => by show insI 0 (0 :: (zeros n ++ [v])) = _; unfold insI; rw [if_pos (by omega)]; rfl
theorem sort_unit {v : Int} (hv : 0 < v) : ∀ (n p : Nat), p < n → sortI (unit n p v) = zeros (n - 1) ++ [v]
  | n + 1, 0, _ => by
    show insI v (sortI (zeros n)) = _
    rw [sort_zeros, ins_last hv]; rfl
  | n + 2, p + 1, h => by
    show insI 0 (sortI (unit (n + 1) p v)) = _
    rw [sort_unit hv (n + 1) p (by omega)]
    exact ins_zero hv n
theorem ins_perm (x : Int) : ∀ l : List Int, (insI x l).Perm (x :: l)
  | [] => .refl _
  | y :: r => by
    unfold insI
    by_cases h : x ≤ y
    · rw [if_pos h]
    · rw [if_neg h]
      exact ((ins_perm x r).cons y).trans (.swap x y r)
theorem sort_perm : ∀ l : List Int, (sortI l).Perm l
  | [] => .refl _
  | x :: r => (ins_perm x (sortI r)).trans ((sort_perm r).cons x)
theorem unit_of_perm {v : Int} (hv : 0 < v) : ∀ (d : List Int) (m : Nat), d.Perm (zeros m ++ [v]) → ∃ p, p < m + 1 ∧ d = unit (m + 1) p v
  | [], m, h => by have := h.length_eq; simp [zeros] at this
  | x :: r, m, h => by
    have hx : x ∈ zeros m ++ [v] := h.subset (by simp)
    rcases List.mem_append.mp hx with e | e
    · have x0 : x = 0 := List.eq_of_mem_replicate e
      subst x0
      cases m with
      | zero => simp [zeros] at e
      | succ m =>
        obtain ⟨p, hp, e2⟩ := unit_of_perm hv r m (List.Perm.cons_inv (show (0 :: r).Perm (0 :: (zeros m ++ [v])) from h))
        exact ⟨p + 1, by omega, by rw [e2]; rfl⟩
    · have xv : x = v := by simpa using e
      subst xv
      have h2 : (x :: r).Perm (x :: zeros m) := h.trans (List.perm_append_comm (l₁ := zeros m) (l₂ := [x]))
      have h3 := List.Perm.cons_inv h2
      have : r = zeros m := List.perm_replicate.mp h3
      exact ⟨0, by omega, by rw [this]; rfl⟩
theorem unit_of_sort {v : Int} (hv : 0 < v) {d : List Int} {n : Nat} (h : sortI d = zeros (n - 1) ++ [v]) (hn : 0 < n) : ∃ p, p < n ∧ d = unit n p v := by
  obtain ⟨p, h1, h2⟩ := unit_of_perm hv d (n - 1) (h ▸ (sort_perm d).symm)
  rw [show n - 1 + 1 = n by omega] at h1 h2
  exact ⟨p, h1, h2⟩
theorem find_unit {v : Int} (hv : 0 < v) : ∀ (n p : Nat), p < n → (unit n p v).findIdx? (fun z => z == v) = some p
  | n + 1, 0, _ => by
    show (v :: zeros n).findIdx? _ = _
    simp [List.findIdx?_cons]
  | n + 1, p + 1, h => by
    show (0 :: unit n p v).findIdx? _ = _
    have : ((0 : Int) == v) = false := beq_false_of_ne (by omega)
    rw [List.findIdx?_cons, this, find_unit hv n p (by omega)]
    rfl
/-- a payer more, read back -/
theorem numT_mod {f : Int} {x : List Int} {p : Int} (f2 : 2 ≤ f) (p0 : 0 ≤ p) (p1 : p < x.length) : (numT f x p).map (· % f) = unit x.length p.toNat (f - 1) := by
  apply List.ext_getElem?
  intro i
  unfold numT unit
  rw [List.getElem?_map]
  by_cases h : p.toNat = i
  · subst h
    rw [List.getElem?_set_self (by simp; omega), List.getElem?_set_self (by simp [zeros]; omega), Option.map_some]
    congr 1
    rw [Int.mul_add_emod_self_left]
    exact Int.emod_eq_of_lt (by omega) (by omega)
  · rw [List.getElem?_set_ne h, List.getElem?_set_ne h, List.getElem?_map]
    unfold zeros
    rw [List.getElem?_replicate]
    by_cases hi : i < x.length
    · rw [List.getElem?_eq_getElem hi, if_pos hi]
      simp
    · rw [List.getElem?_eq_none (by omega), if_neg hi]; rfl
theorem numT_div {f : Int} {x : List Int} {p : Int} (f2 : 2 ≤ f) (p0 : 0 ≤ p) (p1 : p < x.length) : (numT f x p).map (· / f) = x := by
  apply List.ext_getElem?
  intro i
  unfold numT
  rw [List.getElem?_map]
  by_cases h : p.toNat = i
  · subst h
    rw [List.getElem?_set_self (by simp; omega), at_some p0 p1, Option.map_some]
    congr 1
    rw [Int.mul_add_ediv_left _ _ (by omega)]
    have : (f - 1) / f = 0 := Int.ediv_eq_zero_of_lt (by omega) (by omega)
    omega
  · rw [List.getElem?_set_ne h, List.getElem?_map]
    cases hx : x[i]? with
    | none => rfl
    | some c =>
      show some (f * c / f) = some c
      rw [Int.mul_ediv_cancel_left _ (by omega)]
theorem numT_of {f : Int} {x : List Int} {p : Nat} (f2 : 2 ≤ f) (hp : p < x.length) (h : x.map (· % f) = unit x.length p (f - 1)) : numT f (x.map (· / f)) (p : Int) = x := by
  apply List.ext_getElem?
  intro i
  have hi : (x.map (· % f))[i]? = (unit x.length p (f - 1))[i]? := by rw [h]
  rw [List.getElem?_map] at hi
  unfold numT
  rw [Int.toNat_natCast]
  by_cases e : p = i
  · subst e
    unfold unit at hi
    rw [List.getElem?_set_self (by simpa [zeros] using hp), List.getElem?_eq_getElem hp, Option.map_some] at hi
    have hi := Option.some.inj hi
    rw [List.getElem?_set_self (by simpa using hp), List.getElem?_eq_getElem hp]
    have ha : at_ (x.map (· / f)) (p : Int) = x[p] / f := by
      unfold at_
      rw [Int.toNat_natCast, List.getD_eq_getElem?_getD, List.getElem?_map, List.getElem?_eq_getElem hp]
      rfl
    rw [ha]
    have := Int.mul_ediv_add_emod x[p] f
    congr 1
    omega
  · unfold unit at hi
    rw [List.getElem?_set_ne e] at hi
    rw [List.getElem?_set_ne e, List.getElem?_map, List.getElem?_map]
    cases hx : x[i]? with
    | none => rfl
    | some c =>
      rw [hx] at hi
      have hl : i < x.length := (List.getElem?_eq_some_iff.mp hx).1
      unfold zeros at hi
      rw [List.getElem?_replicate, if_pos hl] at hi
      have hi : c % f = 0 := Option.some.inj hi
      show some (f * (c / f)) = some c
      rw [Int.mul_ediv_cancel' (Int.dvd_of_emod_eq_zero hi)]
/-! a word read back from numbers -/
def dec (f : Int) : Nat → List Int → List Int → Option (List Int × List Int)
  | 0, x, fd => some (fd, x)
  | m + 1, x, fd => if sortI (x.map (· % f)) = zeros (x.length - 1) ++ [f - 1] then
      (match (x.map (· % f)).findIdx? (fun z => z == f - 1) with
      | some p => dec f m (x.map (· / f)) (fd ++ [(p : Int)])
      | none => none) else none
theorem dec_step {f : Int} {m : Nat} {x fd : List Int} {p : Int} (f2 : 2 ≤ f) (p0 : 0 ≤ p) (p1 : p < x.length) : dec f (m + 1) (numT f x p) fd = dec f m x (fd ++ [p]) := by
  have hp : p.toNat < x.length := by omega
  conv => lhs; unfold dec
  rw [numT_mod f2 p0 p1, numT_len, if_pos (sort_unit (by omega) _ _ hp), find_unit (by omega) _ _ hp, numT_div f2 p0 p1]
  simp only
  rw [Int.toNat_of_nonneg p0]
theorem dec_num {f : Int} (f2 : 2 ≤ f) : ∀ (w x fd : List Int), InW x.length w → dec f w.length (numF f x w.reverse) fd = some (fd ++ w, x)
  | [], x, fd, _ => by simp [numF, dec]
  | p :: w, x, fd, h => by
    obtain ⟨p0, p1⟩ := h p (by simp)
    rw [List.reverse_cons, numF_app, List.length_cons]
    show dec f (w.length + 1) (numT f (numF f x w.reverse) p) fd = _
    rw [dec_step f2 p0 (by rw [numF_len]; exact p1), dec_num f2 w x _ fun q hq => h q (by simp [hq])]
    simp
theorem dec_inv {f : Int} (f2 : 2 ≤ f) : ∀ (m : Nat) (x fd fd' left : List Int), 0 < x.length → dec f m x fd = some (fd', left) → ∃ u : List Int, u.length = m ∧ fd' = fd ++ u ∧ InW x.length u ∧ left.length = x.length ∧ x = numF f left u.reverse
  | 0, x, fd, fd', left, _, h => by
    unfold dec at h
    cases h
    exact ⟨[], rfl, (List.append_nil _).symm, fun p hp => absurd hp (by simp), rfl, rfl⟩
  | m + 1, x, fd, fd', left, hx, h => by
    unfold dec at h
    by_cases c : sortI (x.map (· % f)) = zeros (x.length - 1) ++ [f - 1]
    · rw [if_pos c] at h
      obtain ⟨p, hp, e⟩ := unit_of_sort (by omega) c hx
      rw [e, find_unit (by omega) _ _ hp] at h
      simp only at h
      obtain ⟨u, h1, h2, h3, h4, h5⟩ := dec_inv f2 m _ _ _ _ (by simpa using hx) h
      refine ⟨(p : Int) :: u, by simp [h1], by rw [h2]; simp, fun q hq => ?_, by simpa using h4, ?_⟩
      · rcases List.mem_cons.mp hq with rfl | hq
        · exact ⟨by omega, by omega⟩
        · simpa using h3 q hq
      · rw [List.reverse_cons, numF_app, ← h5]
        exact (numT_of f2 hp e).symm
    · rw [if_neg c] at h; cases h
def wordOf (f : Int) (x : List Int) (m : Nat) : Option (List Int) := match dec f m x [] with
  | some (fd, left) => if left.filter (fun c => !decide (c = 0)) = [] then some fd.reverse else none
  | none => none
theorem wordOf_nums {f : Int} {n : Nat} {w : List Int} (f2 : 2 ≤ f) (h : InW n w) : wordOf f (nums f n w) w.length = some w := by
  unfold wordOf nums
  have := dec_num f2 w.reverse (zeros n) [] (by simpa [zeros, InW] using h)
  rw [List.reverse_reverse, List.length_reverse] at this
  rw [this]
  simp only
  rw [if_pos]
  · simp
  · apply List.filter_eq_nil_iff.mpr
    intro c hc
    rw [List.eq_of_mem_replicate hc]
    decide
theorem wordOf_inv {f : Int} {x u : List Int} {m : Nat} (f2 : 2 ≤ f) (hx : 0 < x.length) (h : wordOf f x m = some u) : u.length = m ∧ InW x.length u ∧ x = nums f x.length u := by
  unfold wordOf at h
  cases e : dec f m x [] with
  | none => rw [e] at h; cases h
  | some q =>
    obtain ⟨fd, left⟩ := q
    rw [e] at h
    simp only at h
    by_cases c : left.filter (fun c => !decide (c = 0)) = []
    · rw [if_pos c] at h
      cases h
      obtain ⟨v, h1, h2, h3, h4, h5⟩ := dec_inv f2 m x [] fd left hx e
      have h2 : fd = v := by simpa using h2
      subst h2
      have z : left = zeros x.length := by
        apply List.eq_replicate_iff.mpr
        refine ⟨h4, fun b hb => ?_⟩
        have := (List.filter_eq_nil_iff.mp c) b hb
        simpa using this
      exact ⟨by simp [h1], fun p hp => h3 p (by simpa using hp), by unfold nums; rw [← z]; exact h5⟩
    · rw [if_neg c] at h; cases h
theorem pow_inj {f : Int} (f2 : 2 ≤ f) {a b : Nat} (h : f ^ a = f ^ b) : a = b := by
  have mono : ∀ (a d : Nat), f ^ a < f ^ (a + (d + 1)) := fun a d => by
    have p : 0 < f ^ a := Int.pow_pos (by omega)
    have q : 1 < f ^ (d + 1) := by
      induction d with
      | zero => rw [Int.pow_succ, Int.pow_zero]; omega
      | succ d ih =>
        rw [Int.pow_succ]
        have := Int.mul_le_mul_of_nonneg_left (show 2 ≤ f from f2) (show 0 ≤ f ^ (d + 1) by omega)
        omega
    rw [Int.pow_add]
    have := Int.mul_lt_mul_of_pos_left q p
    omega
  rcases Nat.lt_trichotomy a b with z | z | z
  · have := mono a (b - a - 1)
    rw [show a + (b - a - 1 + 1) = b by omega] at this
    omega
  · exact z
  · have := mono b (a - b - 1)
    rw [show b + (a - b - 1 + 1) = a by omega] at this
    omega

theorem eqvAll_ints : ∀ a b : List Int, PyData.eqvAll (a.map .int) (b.map .int) = decide (a = b)
  | [], [] => rfl
  | [], _ :: _ => rfl
  | _ :: _, [] => rfl
  | x :: a, y :: b => by
    rw [List.map_cons, List.map_cons]
    unfold PyData.eqvAll
    rw [eqvAll_ints a b, eqv_int]
    by_cases h1 : x = y <;> by_cases h2 : a = b <;> simp [h1, h2]
theorem eq_ints (a b : List Int) : cmp2 .eq (.list (a.map .int)) (.list (b.map .int)) = some (decide (a = b)) := by
  have h1 := shp_list a
  have h2 := shp_list b
  simp [cmp2, h1, h2, PyData.eqv, eqvAll_ints]
theorem ne_ints (a b : List Int) : cmp2 .ne (.list (a.map .int)) (.list (b.map .int)) = some (!decide (a = b)) := by
  have h1 := shp_list a
  have h2 := shp_list b
  simp [cmp2, h1, h2, PyData.eqv, eqvAll_ints]
theorem eq_tups (a b : List Int) : cmp2 .eq (tupI a) (tupI b) = some (decide (a = b)) := by
  have h1 := shp_tup a
  have h2 := shp_tup b
  unfold tupI at *
  simp [cmp2, h1, h2, PyData.eqv, eqvAll_ints]
theorem ne_tups (a b : List Int) : cmp2 .ne (tupI a) (tupI b) = some (!decide (a = b)) := by
  have h1 := shp_tup a
  have h2 := shp_tup b
  unfold tupI at *
  simp [cmp2, h1, h2, PyData.eqv, eqvAll_ints]
theorem need_rounds_ok (k : Nat) {n : Int} (n0 : 0 ≤ n) (n1 : n ≤ 40) : run TB.fn (k + 2) 22 none [.int n] = some (.val .none, []) := by
  rw [run_succ look_22]
  simp [runB, start, ob, bd, bz, bt, ex, evo, evm, isVar, ev, evs, evi, rd, frz, truth, isiT, isNon, cmp2, idx2, itemsD, seqD, slotD, slotL, putL, put, puts, bindT, blt1, blt2, op2, rdr, prt, cnd, isNil, outV, endR, wipe, back, partD, slice3, ix0, ix1, ix2, ix3, ints_map, augO, isI, okL, tupI, tabD, fn_22, is_in_ok, n0, n1]
theorem need_word_ok (k : Nat) {n : Nat} {w : List Int} (hw : InW n w) (hl : w.length ≤ 40) : run TB.fn (k + 2) 21 none [.int n, tupI w] = some (.val .none, []) := by
  have hl2 : ¬ (40 : Int) < w.length := by omega
  refine run_eq [.val (.int n), .val (tupI w), .un] look_21 rfl ?_
  refine wx_seq (ρ1 := [.val (.int n), .val (tupI w), .un]) (by simp [runB, start, ob, bd, bz, bt, ex, evo, evm, isVar, ev, evs, evi, rd, frz, truth, isiT, isNon, cmp2, idx2, itemsD, seqD, slotD, slotL, putL, put, puts, bindT, blt1, blt2, op2, rdr, prt, cnd, isNil, outV, endR, wipe, back, partD, slice3, ix0, ix1, ix2, ix3, ints_map, augO, isI, okL, tupI, tabD, hl2]) ?_
  refine wx_seq (ρ1 := [.val (.int n), .val (tupI w), .un]) ((ex_iteF (ev_cmp (sva := .own []) (svb := .own []) (ρ1 := [.val (.int n), .val (tupI w), .un]) ?_ rfl ev_lst0 rfl (by rfl : cmp2 .ne (.list []) (.list []) = some false))).trans ex_skip) (wx_skip ⟨rfl, rfl⟩)
  have := ev_comp (c := run TB.fn (k + 1)) (el := .var 2) (it := .seq (.var 1)) (cond := .not (.call 1 (.cons (.var 2) (.cons (.int 0) (.cons (.op .sub (.var 0) (.int 1)) .nil))))) (t := .one 2) (vs := [2]) (ρ := [.val (.int n), .val (tupI w), .un]) (ρ1 := [.val (.int n), .val (tupI w), .un]) (xs := w.map .int) (by simp [runB, start, ob, bd, bz, bt, ex, evo, evm, isVar, ev, evs, evi, rd, frz, truth, isiT, isNon, cmp2, idx2, itemsD, seqD, slotD, slotL, putL, put, puts, bindT, blt1, blt2, op2, rdr, prt, cnd, isNil, outV, endR, wipe, back, partD, slice3, ix0, ix1, ix2, ix3, ints_map, augO, isI, okL, tupI, tabD]) (compL_filt (fun _ => false) .int fun x hx => by
    obtain ⟨x0, x1⟩ := hw x hx
    have x2 : x ≤ n - 1 := by omega
    simp [runB, start, ob, bd, bz, bt, ex, evo, evm, isVar, ev, evs, evi, rd, frz, truth, isiT, isNon, cmp2, idx2, itemsD, seqD, slotD, slotL, putL, put, puts, bindT, blt1, blt2, op2, rdr, prt, cnd, isNil, outV, endR, wipe, back, partD, slice3, ix0, ix1, ix2, ix3, ints_map, augO, isI, okL, tupI, tabD, is_in_ok, x0, x2]) (by rw [filter_no]; simp)
  rw [filter_no] at this
  exact this
theorem pow_le {f : Int} (f1 : 1 ≤ f) (f9 : f ≤ 9) : ∀ m : Nat, f ^ m ≤ 9 ^ m
  | 0 => by simp
  | m + 1 => by
    rw [Int.pow_succ, Int.pow_succ]
    have h1 := pow_le f1 f9 m
    have h2 : 0 ≤ f ^ m := Int.le_of_lt (Int.pow_pos (by omega))
    calc f ^ m * f ≤ f ^ m * 9 := Int.mul_le_mul_of_nonneg_left f9 h2
      _ ≤ 9 ^ m * 9 := Int.mul_le_mul_of_nonneg_right h1 (by decide)
theorem pow_mono9 {a b : Nat} (h : a ≤ b) : (9 : Int) ^ a ≤ 9 ^ b := by
  obtain ⟨d, rfl⟩ := Nat.exists_eq_add_of_le h
  rw [Int.pow_add]
  have p : (1 : Int) ≤ 9 ^ d := Int.pow_pos (by decide)
  have q : (0 : Int) ≤ 9 ^ a := Int.le_of_lt (Int.pow_pos (by decide))
  have := Int.mul_le_mul_of_nonneg_left p q
  omega
theorem pow40 {f : Int} (f1 : 1 ≤ f) (f9 : f ≤ 9) {m : Nat} (hm : m ≤ 40) : f ^ m < 2 ^ 127 :=
  Int.lt_of_le_of_lt (Int.le_trans (pow_le f1 f9 m) (pow_mono9 hm)) (by decide)
theorem big_127 {c : Int} (h0 : 0 ≤ c) (h1 : c < 2 ^ 127) : big c = true := big_lt (n := 127) (by
  have : ((2 : Int) ^ 127).natAbs = 2 ^ 127 := by decide
  omega) (by decide)
theorem nums_lt {f : Int} {n : Nat} {w : List Int} (f2 : 2 ≤ f) (f9 : f ≤ 9) (hw : InW n w) (hl : w.length ≤ 40) : ∀ c ∈ nums f n w, 0 ≤ c ∧ c < 2 ^ 127 := fun c hc => by
  have nn := nums_nn (f := f) (by omega) hw
  have h1 := le_sum nn c hc
  rw [nums_sum hw] at h1
  have h2 := pow40 (f := f) (by omega) f9 hl
  exact ⟨nn c hc, by omega⟩
theorem InW.take {n : Nat} {w : List Int} (h : InW n w) (j : Nat) : InW n (w.take j) := fun p hp => h p (List.mem_of_mem_take hp)
theorem nums_take {f : Int} {n : Nat} {w : List Int} {j : Nat} {p : Int} (h : w[j]? = some p) : nums f n (w.take (j + 1)) = numT f (nums f n (w.take j)) p := by
  unfold nums
  rw [List.take_add_one, h]
  show numF f (zeros n) (w.take j ++ [p]) = _
  rw [numF_app]
  rfl
theorem numbers_in_ok (k : Nat) {f : Int} {n : Nat} {w : List Int} (f2 : 2 ≤ f) (f9 : f ≤ 9) (n6 : n ≤ 6) (hw : InW n w) (hl : w.length ≤ 40) :
    run TB.fn (k + 1) 26 none [.int f, .int n, tupI w] = some (.own ((nums f n w).map .int), []) := by
  have bf : big f = true := big_of (by omega)
  have hm := mul_rep 0 (p := (n : Int)) (by omega) (by omega)
  refine run_eq [.val (.int f), .val (.int n), .val (tupI w), .un, .un, .un] look_26 rfl ?_
  refine wx_seq (ρ1 := [.val (.int f), .val (.int n), .val (tupI w), .own ((zeros n).map .int), .un, .un]) (by
    rw [Int.toNat_natCast] at hm
    unfold zeros
    refine ex_set (v := .own ((List.replicate n 0).map .int)) (ρ1 := [.val (.int f), .val (.int n), .val (tupI w), .un, .un, .un]) ?_ rfl
    generalize (List.replicate n (0 : Int)).map PyData.int = Z at hm
    simp [bz, ev, evs, bd, rd, frz, ob, okL, hm]) ?_
  obtain ⟨ρ', e, t, rfl, ct⟩ := wx_for (c := run TB.fn k) (t := .one 4) (it := .seq (.var 2)) (b := (.seq (.set 3 (.comp (.op .mul (.var 0) (.var 5)) (.seq (.var 3)) (.one 5) .nil [5])) (.seq (.augi 3 (.var 4) .add (.op .sub (.var 0) (.int 1))) .skip)))
    (ρ := [.val (.int f), .val (.int n), .val (tupI w), .own ((zeros n).map .int), .un, .un]) (ρ1 := [.val (.int f), .val (.int n), .val (tupI w), .own ((zeros n).map .int), .un, .un]) (xs := w.map .int) (by simp [runB, start, ob, bd, bz, bt, ex, evo, evm, isVar, ev, evs, evi, rd, frz, truth, isiT, isNon, cmp2, idx2, itemsD, seqD, slotD, slotL, putL, put, puts, bindT, blt1, blt2, op2, rdr, prt, cnd, isNil, outV, endR, wipe, back, partD, slice3, ix0, ix1, ix2, ix3, ints_map, augO, isI, okL, tupI, tabD])
    (fun j ρ => ∃ t, ρ = [.val (.int f), .val (.int n), .val (tupI w), .own ((nums f n (w.take j)).map .int), t, .un] ∧ cold t) ⟨.un, rfl, cold_un⟩ (by
      rintro j x ρ hx ⟨t, rfl, ct⟩
      rw [List.getElem?_map] at hx
      cases hj : w[j]? with
      | none => rw [hj] at hx; cases hx
      | some p =>
        rw [hj] at hx
        cases hx
        obtain ⟨p0, p1⟩ := hw p (List.mem_of_getElem? hj)
        have lt := nums_lt f2 f9 (hw.take j) (by rw [List.length_take]; omega)
        have xl := nums_len f n (w.take j)
        rw [nums_take hj]
        generalize nums f n (w.take j) = x at lt xl
        refine ⟨[.val (.int f), .val (.int n), .val (tupI w), .own (x.map .int), .val (.int p), .un], by rcases ct with rfl | ⟨d, rfl⟩ <;> simp [runB, start, ob, bd, bz, bt, ex, evo, evm, isVar, ev, evs, evi, rd, frz, truth, isiT, isNon, cmp2, idx2, itemsD, seqD, slotD, slotL, putL, put, puts, bindT, blt1, blt2, op2, rdr, prt, cnd, isNil, outV, endR, wipe, back, partD, slice3, ix0, ix1, ix2, ix3, ints_map, augO, isI, okL, tupI, tabD], ?_⟩
        refine wx_seq (ρ1 := [.val (.int f), .val (.int n), .val (tupI w), .own (x.map fun c => .int (f * c)), .val (.int p), .un]) (ex_set (ev_comp (ev_seqC (cs := x) rfl) (compL_ints (fun c => .int (f * c)) fun c hc => by
          have bc : big c = true := big_127 (lt c hc).1 (lt c hc).2
          simp [runB, start, ob, bd, bz, bt, ex, evo, evm, isVar, ev, evs, evi, rd, frz, truth, isiT, isNon, cmp2, idx2, itemsD, seqD, slotD, slotL, putL, put, puts, bindT, blt1, blt2, op2, rdr, prt, cnd, isNil, outV, endR, wipe, back, partD, slice3, ix0, ix1, ix2, ix3, ints_map, augO, isI, okL, tupI, tabD, bf, bc]) (by simp; omega)) (by simp [runB, start, ob, bd, bz, bt, ex, evo, evm, isVar, ev, evs, evi, rd, frz, truth, isiT, isNon, cmp2, idx2, itemsD, seqD, slotD, slotL, putL, put, puts, bindT, blt1, blt2, op2, rdr, prt, cnd, isNil, outV, endR, wipe, back, partD, slice3, ix0, ix1, ix2, ix3, ints_map, augO, isI, okL, tupI, tabD])) ?_
        refine wx_seq (ρ1 := [.val (.int f), .val (.int n), .val (tupI w), .own ((numT f x p).map .int), .val (.int p), .un]) ?_ (wx_skip ⟨rfl, _, rfl, cold_val⟩)
        have pl : p < x.length := by omega
        have ix := ixN_at (n := x.length) p0 pl
        have y := ixD_atg (fun c => .int (f * c)) p0 pl
        have y2 := ixD_atg (PyData.int ∘ fun c => f * c) p0 pl
        simp [runB, start, ob, bd, bz, bt, ex, evo, evm, isVar, ev, evs, evi, rd, frz, truth, isiT, isNon, cmp2, idx2, itemsD, seqD, slotD, slotL, putL, put, puts, bindT, blt1, blt2, op2, rdr, prt, cnd, isNil, outV, endR, wipe, back, partD, slice3, ix0, ix1, ix2, ix3, ints_map, augO, isI, okL, tupI, tabD, ix, y, y2, numT, List.map_set]
        rfl)
  refine wx_seq e ?_
  rw [List.length_map, List.take_length]
  exact wx_seqR (v := .own ((nums f n w).map .int)) (ex_ret rfl) ⟨rfl, rfl⟩
theorem l_word_ok {ns : List Int} {row : List D} (k : Nat) (h : RowOk ns row) {n most : Int} (n1 : 1 ≤ n) (n6 : n < 1000) (m0 : 0 ≤ most) (m1 : most < 1000) :
    ∃ w row', run TB.fn (k + 2) 41 (some row) [.int n, .int most] = some (.val (tupI w), row') ∧ InW n.toNat w ∧ w.length ≤ most ∧ RowOk ns row' := by
  obtain ⟨v, r1, e1, a1, b1, h1⟩ := taken_ok (m := most + 1) k h (by omega) (by omega)
  obtain ⟨ys, ρ', e, ⟨row1, rfl, h2⟩, ly, hy⟩ := compL_inv (fun ρ => ∃ row, ρ = [.row row, .val (.int n), .val (.int most), .un] ∧ RowOk ns row) (fun y => ∃ c : Int, y = .int c ∧ 0 ≤ c ∧ c < n)
    (f := fun x ρ2 => ob (bindT (.one 3) x ρ2) fun ρ3 => bd (cnd ρ3 .nil (ev (run TB.fn (k + 1)) .nil ρ3)) fun k_1 ρ4 => if k_1 = true then bz (ev (run TB.fn (k + 1)) (.callr 12 0 (.cons (.var 1) .nil)) ρ4) fun y ρ5 => some ([y], wipe ρ5 [3]) else some ([], wipe ρ4 [3]))
    (xs := (upto v.toNat).map .int) (ρ := [.row r1, .val (.int n), .val (.int most), .un]) ⟨r1, rfl, h1⟩ (by
      rintro x ρ _ ⟨row, rfl, hr⟩
      obtain ⟨v, r1, e1, a1, b1, h1⟩ := taken_ok (m := n) k hr (by omega) (by omega)
      refine ⟨.int v, [.row r1, .val (.int n), .val (.int most), .un], ?_, ⟨r1, rfl, h1⟩, v, rfl, a1, b1⟩
      simp [runB, start, ob, bd, bz, bt, ex, evo, evm, isVar, ev, evs, evi, rd, frz, truth, isiT, isNon, cmp2, idx2, itemsD, seqD, slotD, slotL, putL, put, puts, bindT, blt1, blt2, op2, rdr, prt, cnd, isNil, outV, endR, wipe, back, partD, slice3, ix0, ix1, ix2, ix3, ints_map, augO, isI, okL, tupI, tabD, e1])
  obtain ⟨w, rfl⟩ := ints_ex fun y hy' => (hy y hy').imp fun c q => q.1
  have len : w.length = v.toNat := by
    rw [List.length_map, List.length_map, upto_length] at ly; exact ly
  refine ⟨w, row1, run_eq [.row row, .val (.int n), .val (.int most), .un] look_41 rfl ?_, fun c hc => ?_, by omega, h2⟩
  · exact wx_seqR (v := .val (tupI w)) (ex_retE rfl (ev_blt1 rfl (ev_comp (ρ1 := [.row r1, .val (.int n), .val (.int most), .un]) (evi_rng1 (n := v) (by simp [runB, start, ob, bd, bz, bt, ex, evo, evm, isVar, ev, evs, evi, rd, frz, truth, isiT, isNon, cmp2, idx2, itemsD, seqD, slotD, slotL, putL, put, puts, bindT, blt1, blt2, op2, rdr, prt, cnd, isNil, outV, endR, wipe, back, partD, slice3, ix0, ix1, ix2, ix3, ints_map, augO, isI, okL, tupI, tabD, e1]) (rngOk_of (by omega) (by omega))) e (by rw [List.length_map]; omega)) rfl rfl)) ⟨rfl, rfl⟩
  · obtain ⟨c2, h1, h2, h3⟩ := hy (.int c) (List.mem_map.mpr ⟨c, hc, rfl⟩)
    cases h1; exact ⟨h2, by omega⟩

def wiB : S := (.seq (.set 6 (.comp (.op .mod (.var 7) (.var 0)) (.seq (.var 4)) (.one 7) .nil [7]))
    (.seq (.ite (.cmp .ne (.blt1 .sorted (.var 6)) (.op .add (.op .mul (.lst (.cons (.int 0) .nil)) (.op .sub (.blt1 .len (.var 4)) (.int 1))) (.lst (.cons (.op .sub (.var 0) (.int 1)) .nil)))) (.seq (.ret .non)
    .skip) .skip)
    (.seq (.app 3 (.meth .index (.var 6) (.op .sub (.var 0) (.int 1))))
    (.seq (.set 4 (.comp (.op .fdiv (.var 7) (.var 0)) (.seq (.var 4)) (.one 7) .nil [7]))
    .skip))))
def wiR (f : Int) (nx many : D) (fd left : List Int) (t dg : SV) : Rho := [.val (.int f), .val nx, .val many, .own (fd.map .int), .own (left.map .int), t, dg, .un]
theorem cat_ints (a b : List Int) (h : a.length + b.length < 1000000) : op2 .add (.list (a.map .int)) (.list (b.map .int)) = some (.own ((a ++ b).map .int)) := by
  unfold op2
  simp only
  rw [if_pos (by unfold okL; apply decide_eq_true; simp; omega), List.map_append]
theorem wi_turn (c : FT) {f : Int} {nx many : D} {fd left : List Int} {t dg : SV} (f2 : 2 ≤ f) (f9 : f ≤ 9) (l1 : 1 ≤ left.length) (l6 : left.length < 900) (lf : fd.length < 900) (cd : cold dg) :
    if sortI (left.map (· % f)) = zeros (left.length - 1) ++ [f - 1] then
      (∃ p, (left.map (· % f)).findIdx? (fun z => z == f - 1) = some p ∧ ∃ dg', cold dg' ∧ ex c wiB (wiR f nx many fd left t dg) = some (.nx, wiR f nx many (fd ++ [(p : Int)]) (left.map (· / f)) t dg'))
    else ∃ ρ', ex c wiB (wiR f nx many fd left t dg) = some (.rt (.val .none), ρ') := by
  have bf : big f = true := big_of (by omega)
  have fp : (0 : Int) < f := by omega
  let R4 : SV → SV → Rho := fun l g => [.val (.int f), .val nx, .val many, .own (fd.map .int), l, t, g, .un]
  have c1 : ex c (.set 6 (.comp (.op .mod (.var 7) (.var 0)) (.seq (.var 4)) (.one 7) .nil [7])) (wiR f nx many fd left t dg) = some (.nx, R4 (.val (.list (left.map .int))) (.own ((left.map (· % f)).map .int))) := by
    refine ex_set (v := .own ((left.map (· % f)).map .int)) (ρ1 := R4 (.val (.list (left.map .int))) dg) ?_ (by rcases cd with rfl | ⟨d, rfl⟩ <;> rfl)
    rw [List.map_map]
    exact ev_comp (ev_seqC (cs := left) rfl) (compL_ints (fun c => .int (c % f)) fun c hc => by simp [runB, start, ob, bd, bz, bt, ex, evo, evm, isVar, ev, evs, evi, rd, frz, truth, isiT, isNon, cmp2, idx2, itemsD, seqD, slotD, slotL, putL, put, puts, bindT, blt1, blt2, op2, rdr, prt, cnd, isNil, outV, endR, wipe, back, partD, slice3, ix0, ix1, ix2, ix3, ints_map, augO, isI, okL, tupI, tabD, wiR, fp]) (by simp; omega)
  have hm := mul_rep 0 (p := (left.length : Int) - 1) (by omega) (by omega)
  have ez : (List.replicate ((left.length : Int) - 1).toNat (0 : Int)) = zeros (left.length - 1) := by unfold zeros; congr 1; omega
  rw [ez] at hm
  have c2 : ev c (.cmp .ne (.blt1 .sorted (.var 6)) (.op .add (.op .mul (.lst (.cons (.int 0) .nil)) (.op .sub (.blt1 .len (.var 4)) (.int 1))) (.lst (.cons (.op .sub (.var 0) (.int 1)) .nil)))) (R4 (.val (.list (left.map .int))) (.own ((left.map (· % f)).map .int))) =
      some (.val (.bool (!decide (sortI (left.map (· % f)) = zeros (left.length - 1) ++ [f - 1]))), R4 (.val (.list (left.map .int))) (.own ((left.map (· % f)).map .int))) := by
    refine ev_cmp (sva := .own ((sortI (left.map (· % f))).map .int)) (svb := .own ((zeros (left.length - 1) ++ [f - 1]).map .int)) (ρ1 := R4 (.val (.list (left.map .int))) (.own ((left.map (· % f)).map .int))) ?_ rfl ?_ rfl (ne_ints _ _)
    · generalize left.map (· % f) = dd
      simp [ev, bd, rdr, isVar, slotD, rd, ob, blt1, ints_map, R4]
    · have ca := cat_ints (zeros (left.length - 1)) [f - 1] (by simp [zeros]; omega)
      generalize (zeros (left.length - 1) ++ [f - 1]).map PyData.int = ZZ at ca
      generalize (zeros (left.length - 1)).map PyData.int = Z at ca hm
      simp only [List.map_cons, List.map_nil] at ca
      have sb : op2 .sub (.int f) (.int 1) = some (.val (.int (f - 1))) := rfl
      have sb2 : op2 .sub (.int left.length) (.int 1) = some (.val (.int (left.length - 1))) := rfl
      simp [ev, evs, bz, bd, rdr, isVar, slotD, rd, ob, frz, blt1, itemsD, okL, R4, hm, ca, sb, sb2]
  by_cases hs : sortI (left.map (· % f)) = zeros (left.length - 1) ++ [f - 1]
  · rw [if_pos hs]
    rw [decide_eq_true hs] at c2
    obtain ⟨p, hp, e⟩ := unit_of_sort (by omega) hs (by omega)
    have hx := find_unit (v := f - 1) (by omega) _ _ hp
    rw [← e] at hx
    refine ⟨p, hx, .val (.list ((left.map (· % f)).map .int)), cold_val, (ex_seq c1).trans ((ex_seq ((ex_iteF c2).trans ex_skip)).trans ((ex_seq (ρ1 := [.val (.int f), .val nx, .val many, .own ((fd ++ [(p : Int)]).map .int), .val (.list (left.map .int)), t, .val (.list ((left.map (· % f)).map .int)), .un]) ?_).trans ((ex_seq (ρ1 := wiR f nx many (fd ++ [(p : Int)]) (left.map (· / f)) t (.val (.list ((left.map (· % f)).map .int)))) (ex_set (ev_comp (xs := left.map .int) (ρ1 := [.val (.int f), .val nx, .val many, .own ((fd ++ [(p : Int)]).map .int), .val (.list (left.map .int)), t, .val (.list ((left.map (· % f)).map .int)), .un]) ?_ (compL_ints (fun c => .int (c / f)) fun c hc => by simp [runB, start, ob, bd, bz, bt, ex, evo, evm, isVar, ev, evs, evi, rd, frz, truth, isiT, isNon, cmp2, idx2, itemsD, seqD, slotD, slotL, putL, put, puts, bindT, blt1, blt2, op2, rdr, prt, cnd, isNil, outV, endR, wipe, back, partD, slice3, ix0, ix1, ix2, ix3, ints_map, augO, isI, okL, tupI, tabD, fp, bf]) (by simp; omega)) ?_)).trans ?_)))⟩
    · have im := ints_map (left.map (· % f))
      generalize left.map (· % f) = dd at hx im
      have sb : op2 .sub (.int f) (.int 1) = some (.val (.int (f - 1))) := rfl
      have lf2 : fd.length < 16777216 := by omega
      simp [ex, ev, bz, bd, slotL, rd, ob, frz, putL, R4, sb, methD, im, hx, okL, lf2]
    · simp [runB, start, ob, bd, bz, bt, ex, evo, evm, isVar, ev, evs, evi, rd, frz, truth, isiT, isNon, cmp2, idx2, itemsD, seqD, slotD, slotL, putL, put, puts, bindT, blt1, blt2, op2, rdr, prt, cnd, isNil, outV, endR, wipe, back, partD, slice3, ix0, ix1, ix2, ix3, ints_map, augO, isI, okL, tupI, tabD]
    · simp [put, wiR, back, wipe]
      rfl
    · exact ex_skip
  · rw [if_neg hs]
    rw [decide_eq_false hs] at c2
    exact ⟨_, (ex_seq c1).trans (ex_seqR ((ex_iteT c2).trans (ex_seqR (ex_retE rfl rfl))))⟩
theorem forL_nx {f : D → Rho → Option (Out × Rho)} {x : D} {xs : List D} {ρ ρ1 : Rho} (h : f x ρ = some (.nx, ρ1)) : forL f (x :: xs) ρ = forL f xs ρ1 := by
  conv => lhs; unfold forL
  rw [h]
theorem forL_rt {f : D → Rho → Option (Out × Rho)} {x : D} {xs : List D} {ρ ρ1 : Rho} {v : SV} (h : f x ρ = some (.rt v, ρ1)) : forL f (x :: xs) ρ = some (.rt v, ρ1) := by
  conv => lhs; unfold forL
  rw [h]
theorem wi_loop (c : FT) {f : Int} {nx many : D} (f2 : 2 ≤ f) (f9 : f ≤ 9) : ∀ (xs : List D) (fd left : List Int) (t dg : SV), 1 ≤ left.length → left.length < 900 → fd.length + xs.length < 900 → cold t → cold dg →
    match dec f xs.length left fd with
    | some (fd', left') => ∃ t' dg', cold dg' ∧ forL (fun x ρ2 => ob (bindT (.one 5) x ρ2) fun ρ3 => ex c wiB ρ3) xs (wiR f nx many fd left t dg) = some (.nx, wiR f nx many fd' left' t' dg')
    | none => ∃ ρ', forL (fun x ρ2 => ob (bindT (.one 5) x ρ2) fun ρ3 => ex c wiB ρ3) xs (wiR f nx many fd left t dg) = some (.rt (.val .none), ρ')
  | [], fd, left, t, dg, _, _, _, _, cd => ⟨t, dg, cd, rfl⟩
  | x :: xs, fd, left, t, dg, l1, l6, lf, ct, cd => by
    have tn := wi_turn c (nx := nx) (many := many) (t := .val x) f2 f9 l1 l6 (by simp at lf; omega) cd (fd := fd)
    have bt : bindT (.one 5) x (wiR f nx many fd left t dg) = some (wiR f nx many fd left (.val x) dg) := by
      rcases ct with rfl | ⟨d, rfl⟩ <;> rfl
    rw [List.length_cons]
    unfold dec
    by_cases hs : sortI (left.map (· % f)) = zeros (left.length - 1) ++ [f - 1]
    · rw [if_pos hs] at tn ⊢
      obtain ⟨p, hp, dg', cd', e⟩ := tn
      rw [hp]
      simp only
      have ih := wi_loop c (nx := nx) (many := many) f2 f9 xs (fd ++ [(p : Int)]) (left.map (· / f)) (.val x) dg' (by simpa using l1) (by simpa using l6) (by simp at lf ⊢; omega) cold_val cd'
      have st : forL (fun x ρ2 => ob (bindT (.one 5) x ρ2) fun ρ3 => ex c wiB ρ3) (x :: xs) (wiR f nx many fd left t dg) = forL (fun x ρ2 => ob (bindT (.one 5) x ρ2) fun ρ3 => ex c wiB ρ3) xs (wiR f nx many (fd ++ [(p : Int)]) (left.map (· / f)) (.val x) dg') := by
        exact forL_nx (by show ob (bindT (.one 5) x (wiR f nx many fd left t dg)) _ = _; rw [bt]; exact e)
      rw [st]
      exact ih
    · rw [if_neg hs] at tn ⊢
      obtain ⟨ρ', e⟩ := tn
      exact ⟨ρ', forL_rt (by show ob (bindT (.one 5) x (wiR f nx many fd left t dg)) _ = _; rw [bt]; exact e)⟩
def optT : Option (List Int) → D
  | some u => tupI u
  | none => .none
/-! coins behind a word -/
def zw (h : Int → Int → Int) (a b : List Int) : List Int := List.zipWith h a b
def zG (h : Int → Int → Int) : D → D
  | .tuple [.int a, .int b] => .int (h a b)
  | _ => .none
theorem zip_map (h : Int → Int → Int) : ∀ a b : List Int, (zipD (a.map .int) (b.map .int)).map (zG h) = (zw h a b).map .int
  | [], _ => by simp [zipD, zw]
  | _ :: _, [] => by simp [zipD, zw]
  | x :: a, y :: b => by
    show zG h (.tuple [.int x, .int y]) :: (zipD (a.map .int) (b.map .int)).map (zG h) = _
    rw [zip_map h a b]
    rfl
theorem zip_mem : ∀ {a b : List Int} {x : D}, x ∈ zipD (a.map .int) (b.map .int) → ∃ p q : Int, x = .tuple [.int p, .int q] ∧ p ∈ a ∧ q ∈ b
  | [], _, _, h => by simp [zipD] at h
  | _ :: _, [], _, h => by simp [zipD] at h
  | x :: a, y :: b, z, h => by
    have h : z ∈ (PyData.tuple [.int x, .int y] : D) :: zipD (a.map .int) (b.map .int) := h
    rcases List.mem_cons.mp h with e | e
    · exact ⟨x, y, e, by simp, by simp⟩
    · obtain ⟨p, q, e1, e2, e3⟩ := zip_mem e
      exact ⟨p, q, e1, by simp [e2], by simp [e3]⟩
theorem zw_len (h : Int → Int → Int) {a b : List Int} (e : a.length = b.length) : (zw h a b).length = a.length := by simp [zw, e]
theorem zw_len_le (h : Int → Int → Int) (a b : List Int) : (zw h a b).length ≤ a.length := by simp [zw]; omega
theorem zw_at (h : Int → Int → Int) {a b : List Int} {k : Int} (e : a.length = b.length) (k0 : 0 ≤ k) (k1 : k < a.length) : at_ (zw h a b) k = h (at_ a k) (at_ b k) := by
  have ha := at_some (cs := a) k0 k1
  have hb := at_some (cs := b) k0 (by omega)
  have : (zw h a b)[k.toNat]? = some (h (at_ a k) (at_ b k)) := by
    unfold zw
    rw [List.getElem?_zipWith, ha, hb]
  conv => lhs; unfold at_
  rw [List.getD_eq_getElem?_getD, this]
  rfl
theorem zw_sum (P S : Int) : ∀ a b : List Int, a.length = b.length → (zw (fun c m => P * c - S * m) a b).sum = P * a.sum - S * b.sum
  | [], [], _ => by simp [zw]
  | [], _ :: _, h => by simp at h
  | _ :: _, [], h => by simp at h
  | x :: a, y :: b, h => by
    show ((P * x - S * y) :: zw (fun c m => P * c - S * m) a b).sum = _
    rw [List.sum_cons, zw_sum P S a b (by simpa using h), List.sum_cons, List.sum_cons, Int.mul_add, Int.mul_add]
    omega
def aft (f : Int) (cs w : List Int) : List Int := zw (fun c m => f ^ w.length * c - cs.sum * m) cs (nums f cs.length w)
theorem aft_len (f : Int) (cs w : List Int) : (aft f cs w).length = cs.length := zw_len _ (nums_len f cs.length w).symm
theorem aft_sum {f : Int} {cs w : List Int} (hw : InW cs.length w) : (aft f cs w).sum = cs.sum := by
  unfold aft
  rw [zw_sum _ _ _ _ (nums_len f cs.length w).symm, nums_sum hw, Int.mul_sub, Int.mul_comm cs.sum]
  omega
theorem aft_at {f : Int} {cs w : List Int} {k : Int} (k0 : 0 ≤ k) (k1 : k < cs.length) : at_ (aft f cs w) k = f ^ w.length * at_ cs k - cs.sum * at_ (nums f cs.length w) k := zw_at _ (nums_len f cs.length w).symm k0 k1
/-- the same by places -/
theorem ext_at {a b : List Int} (e : a.length = b.length) (h : ∀ k : Int, 0 ≤ k → k < a.length → at_ a k = at_ b k) : a = b := by
  apply List.ext_getElem?
  intro i
  by_cases hi : i < a.length
  · have h1 := at_some (cs := a) (k := (i : Int)) (by omega) (by omega)
    have h2 := at_some (cs := b) (k := (i : Int)) (by omega) (by omega)
    rw [Int.toNat_natCast] at h1 h2
    rw [h1, h2, h i (by omega) (by omega)]
  · rw [List.getElem?_eq_none (by omega), List.getElem?_eq_none (by omega)]
def badG (S g : Int) : Bool := decide (g < 0) || !decide (g % S = 0)
def gaps (f : Int) (cs x : List Int) (m : Nat) : List Int := zw (fun c y => f ^ m * c - y) cs x
def btw (f : Int) (cs x : List Int) (m : Nat) : Option (List Int) :=
  if x.sum = cs.sum then (if (gaps f cs x m).filter (badG cs.sum) = [] then wordOf f ((gaps f cs x m).map (· / cs.sum)) m else none) else none
theorem gaps_aft {f : Int} {cs w : List Int} : gaps f cs (aft f cs w) w.length = (nums f cs.length w).map (cs.sum * ·) := by
  have l := aft_len f cs w
  have n := nums_len f cs.length w
  refine ext_at (by rw [gaps, zw_len _ l.symm, List.length_map, n]) fun k k0 k1 => ?_
  have k1 : k < cs.length := by rw [gaps, zw_len _ l.symm] at k1; exact k1
  rw [gaps, zw_at _ l.symm k0 k1, aft_at k0 k1, at_map (cs.sum * ·) k0 (by omega)]
  omega
theorem btw_aft {f : Int} {cs w : List Int} (f2 : 2 ≤ f) (hw : InW cs.length w) (sp : 0 < cs.sum) : btw f cs (aft f cs w) w.length = some w := by
  unfold btw
  rw [if_pos (aft_sum hw), gaps_aft, if_pos]
  · rw [List.map_map]
    have : (fun x => x / cs.sum) ∘ (fun x => cs.sum * x) = id := by
      funext x
      exact Int.mul_ediv_cancel_left x (by omega)
    rw [this, List.map_id]
    exact wordOf_nums f2 hw
  · apply List.filter_eq_nil_iff.mpr
    intro g hg
    obtain ⟨m, hm, rfl⟩ := List.mem_map.mp hg
    have m0 := nums_nn (f := f) (by omega) hw m hm
    have h1 : 0 ≤ cs.sum * m := Int.mul_nonneg (by omega) m0
    have h2 : cs.sum * m % cs.sum = 0 := Int.mul_emod_right _ _
    have h3 : ¬ cs.sum * m < 0 := by omega
    simp [badG, h2, h3]
theorem btw_inv {f : Int} {cs x u : List Int} {m : Nat} (f2 : 2 ≤ f) (l : x.length = cs.length) (l1 : 0 < cs.length) (sp : 0 < cs.sum) (h : btw f cs x m = some u) : u.length = m ∧ InW cs.length u ∧ x = aft f cs u := by
  unfold btw at h
  by_cases c1 : x.sum = cs.sum
  · rw [if_pos c1] at h
    by_cases c2 : (gaps f cs x m).filter (badG cs.sum) = []
    · rw [if_pos c2] at h
      have gl : (gaps f cs x m).length = cs.length := zw_len _ l.symm
      obtain ⟨u1, u2, u3⟩ := wordOf_inv f2 (by rw [List.length_map, gl]; exact l1) h
      rw [List.length_map, gl] at u2 u3
      refine ⟨u1, u2, ext_at (by rw [aft_len, l]) fun k k0 k1 => ?_⟩
      have k1 : k < cs.length := by omega
      rw [aft_at k0 k1, ← u3, u1, at_map (· / cs.sum) k0 (by omega)]
      have e : at_ (gaps f cs x m) k = f ^ m * at_ cs k - at_ x k := zw_at _ l.symm k0 k1
      have d := (List.filter_eq_nil_iff.mp c2) (at_ (gaps f cs x m) k) (at_mem k0 (by omega))
      have d2 : at_ (gaps f cs x m) k % cs.sum = 0 := by
        simp [badG] at d
        exact d.2
      have := Int.mul_ediv_cancel' (Int.dvd_of_emod_eq_zero d2)
      omega
    · rw [if_neg c2] at h; cases h
  · rw [if_neg c1] at h; cases h
def startOf (f : Int) (x w : List Int) : Option (List Int) :=
  if (zw (fun y m => y + x.sum * m) x (nums f x.length w)).filter (fun c => !decide (c % f ^ w.length = 0)) = [] then some ((zw (fun y m => y + x.sum * m) x (nums f x.length w)).map (· / f ^ w.length)) else none
theorem start_aft {f : Int} {cs w : List Int} (f2 : 2 ≤ f) (hw : InW cs.length w) : startOf f (aft f cs w) w = some cs := by
  have l := aft_len f cs w
  have n := nums_len f cs.length w
  have pp : (0 : Int) < f ^ w.length := Int.pow_pos (by omega)
  have e : zw (fun y m => y + (aft f cs w).sum * m) (aft f cs w) (nums f (aft f cs w).length w) = cs.map (f ^ w.length * ·) := by
    rw [aft_sum hw, l]
    refine ext_at (by rw [zw_len _ (by rw [l, n]), l, List.length_map]) fun k k0 k1 => ?_
    have k1 : k < cs.length := by rw [zw_len _ (by rw [l, n]), l] at k1; exact k1
    rw [zw_at _ (by rw [l, n]) k0 (by rw [l]; exact k1), aft_at k0 k1, at_map (f ^ w.length * ·) k0 k1]
    omega
  unfold startOf
  rw [e, if_pos]
  · rw [List.map_map]
    have : (fun x => x / f ^ w.length) ∘ (fun x => f ^ w.length * x) = id := by
      funext x
      exact Int.mul_ediv_cancel_left x (by omega)
    rw [this, List.map_id]
  · apply List.filter_eq_nil_iff.mpr
    intro g hg
    obtain ⟨m, hm, rfl⟩ := List.mem_map.mp hg
    simp [Int.mul_emod_right]
/-- the first number of rounds -/
def firstM (f : Int) (cs x : List Int) : Nat → Nat → Option Nat
  | _, 0 => none
  | m, n + 1 => match btw f cs x m with
    | some _ => some m
    | none => firstM f cs x (m + 1) n
theorem firstM_some {f : Int} {cs x : List Int} : ∀ {n m r : Nat}, firstM f cs x m n = some r → m ≤ r ∧ r < m + n ∧ (∃ u, btw f cs x r = some u) ∧ ∀ j, m ≤ j → j < r → btw f cs x j = none
  | 0, _, _, h => by cases h
  | n + 1, m, r, h => by
    unfold firstM at h
    cases e : btw f cs x m with
    | some u =>
      rw [e] at h
      cases h
      exact ⟨Nat.le_refl _, by omega, ⟨u, e⟩, fun j h1 h2 => absurd h1 (by omega)⟩
    | none =>
      rw [e] at h
      obtain ⟨h1, h2, h3, h4⟩ := firstM_some h
      refine ⟨by omega, by omega, h3, fun j j1 j2 => ?_⟩
      by_cases hj : j = m
      · rw [hj]; exact e
      · exact h4 j (by omega) j2
theorem firstM_none {f : Int} {cs x : List Int} : ∀ {n m : Nat}, firstM f cs x m n = none → ∀ j, m ≤ j → j < m + n → btw f cs x j = none
  | 0, _, _, j, h1, h2 => absurd h1 (by omega)
  | n + 1, m, h, j, h1, h2 => by
    unfold firstM at h
    cases e : btw f cs x m with
    | some u => rw [e] at h; cases h
    | none =>
      rw [e] at h
      by_cases hj : j = m
      · rw [hj]; exact e
      · exact firstM_none h j (by omega) (by omega)

/-- coins small enough for all that is reckoned, of 1 to 6 players -/
structure Md (x : List Int) : Prop where
  l1 : 1 ≤ x.length
  l6 : x.length ≤ 6
  b : ∀ c ∈ x, c.natAbs < 2 ^ 8000
theorem Md.bd {x : List Int} (h : Md x) : Bd x := ⟨by have := h.l6; omega, h.b⟩
theorem Table.md {f : Int} {cs : List Int} (h : Table f cs) : Md cs := ⟨h.l1, h.l6, h.bd.b⟩
theorem power_ok (k : Nat) {f : Int} {m : Nat} (f2 : 2 ≤ f) (f9 : f ≤ 9) (hm : m ≤ 40) : run TB.fn (k + 1) 25 none [.int f, .int m] = some (.val (.int (f ^ m)), []) := by
  have bf : big f = true := big_of (by omega)
  have pw : ∀ j, j ≤ 40 → big (f ^ j) = true := fun j hj => big_127 (Int.le_of_lt (Int.pow_pos (by omega))) (pow40 (by omega) f9 hj)
  refine run_eq [.val (.int f), .val (.int m), .un, .un] look_25 rfl ?_
  refine wx_seq (ρ1 := [.val (.int f), .val (.int m), .val (.int 1), .un]) (by simp [runB, start, ob, bd, bz, bt, ex, evo, evm, isVar, ev, evs, evi, rd, frz, truth, isiT, isNon, cmp2, idx2, itemsD, seqD, slotD, slotL, putL, put, puts, bindT, blt1, blt2, op2, rdr, prt, cnd, isNil, outV, endR, wipe, back, partD, slice3, ix0, ix1, ix2, ix3, ints_map, augO, isI, okL, tupI, tabD]) ?_
  obtain ⟨ρ', e, t, rfl, ct⟩ := wx_for (c := run TB.fn k) (t := .one 3) (it := .rng1 (.var 1)) (b := (.seq (.aug 2 .mul (.var 0)) .skip))
    (ρ := [.val (.int f), .val (.int m), .val (.int 1), .un]) (ρ1 := [.val (.int f), .val (.int m), .val (.int 1), .un]) (evi_rng1 (n := (m : Int)) (by simp [runB, start, ob, bd, bz, bt, ex, evo, evm, isVar, ev, evs, evi, rd, frz, truth, isiT, isNon, cmp2, idx2, itemsD, seqD, slotD, slotL, putL, put, puts, bindT, blt1, blt2, op2, rdr, prt, cnd, isNil, outV, endR, wipe, back, partD, slice3, ix0, ix1, ix2, ix3, ints_map, augO, isI, okL, tupI, tabD]) (rngOk_of (by omega) (by omega)))
    (fun j ρ => ∃ t, ρ = [.val (.int f), .val (.int m), .val (.int (f ^ j)), t] ∧ cold t) ⟨.un, by rw [Int.pow_zero], cold_un⟩ (by
      rintro j x ρ hx ⟨t, rfl, ct⟩
      have hj : j < m := by
        have := (List.getElem?_eq_some_iff.mp hx).1
        simpa [upto_length] using this
      refine ⟨[.val (.int f), .val (.int m), .val (.int (f ^ j)), .val x], by rcases ct with rfl | ⟨d, rfl⟩ <;> rfl, ?_⟩
      refine wx_seq (ρ1 := [.val (.int f), .val (.int m), .val (.int (f ^ (j + 1))), .val x]) ?_ (wx_skip ⟨rfl, _, rfl, cold_val⟩)
      have b := pw j (by omega)
      rw [Int.pow_succ]
      simp [runB, start, ob, bd, bz, bt, ex, evo, evm, isVar, ev, evs, evi, rd, frz, truth, isiT, isNon, cmp2, idx2, itemsD, seqD, slotD, slotL, putL, put, puts, bindT, blt1, blt2, op2, rdr, prt, cnd, isNil, outV, endR, wipe, back, partD, slice3, ix0, ix1, ix2, ix3, ints_map, augO, isI, okL, tupI, tabD, b, bf])
  rw [List.length_map, upto_length, Int.toNat_natCast] at e
  refine wx_seq e (wx_seqR (v := .val (.int (f ^ m))) (ex_ret (by simp [runB, start, ob, bd, bz, bt, ex, evo, evm, isVar, ev, evs, evi, rd, frz, truth, isiT, isNon, cmp2, idx2, itemsD, seqD, slotD, slotL, putL, put, puts, bindT, blt1, blt2, op2, rdr, prt, cnd, isNil, outV, endR, wipe, back, partD, slice3, ix0, ix1, ix2, ix3, ints_map, augO, isI, okL, tupI, tabD]; rfl)) ⟨rfl, rfl⟩)
/-- a comprehension over two lists, walked side by side -/
theorem zip_comp (h : Int → Int → Int) {f : D → Rho → Option (List D × Rho)} {ρ : Rho} {a b : List Int} (H : ∀ p q : Int, p ∈ a → q ∈ b → f (.tuple [.int p, .int q]) ρ = some ([.int (h p q)], ρ)) :
    compL f (zipD (a.map .int) (b.map .int)) ρ = some ((zw h a b).map .int, ρ) := by
  rw [← zip_map]
  refine compL_map (zG h) fun x hx => ?_
  obtain ⟨p, q, rfl, h1, h2⟩ := zip_mem hx
  exact H p q h1 h2
theorem nums_big {f : Int} {n : Nat} {w : List Int} (f2 : 2 ≤ f) (f9 : f ≤ 9) (hw : InW n w) (hl : w.length ≤ 40) {c : Int} (hc : c ∈ nums f n w) : big c = true :=
  big_127 (nums_lt f2 f9 hw hl c hc).1 (nums_lt f2 f9 hw hl c hc).2
theorem after_in_body (c : FT) {f P S : Int} {cs w N : List Int} (q1 : c 25 none [.int f, .int w.length] = some (.val (.int P), [])) (q2 : c 26 none [.int f, .int cs.length, tupI w] = some (.own (N.map .int), [])) (hS : cs.sum = S)
    (bp : big P = true) (bs : big S = true) (bc : ∀ x ∈ cs, big x = true) (bn : ∀ x ∈ N, big x = true) (l6 : cs.length ≤ 6) :
    Wx (ex c fn_30.body [.val (.int f), .val (tupI cs), .val (tupI w), .un, .un, .un, .un]) fun o ρ' => outV o = some (.val (tupI (zw (fun c m => P * c - S * m) cs N))) ∧ endR fn_30.io ρ' = some [] := by
  refine wx_seq (ρ1 := [.val (.int f), .val (tupI cs), .val (tupI w), .val (.int P), .val (.int S), .un, .un]) (by simp [runB, start, ob, bd, bz, bt, ex, evo, evm, isVar, ev, evs, evi, rd, frz, truth, isiT, isNon, idx2, slotD, slotL, putL, put, puts, bindT, blt1, blt2, op2, rdr, prt, cnd, isNil, outV, endR, wipe, back, partD, slice3, ix0, ix1, ix2, ix3, ints_map, augO, isI, okL, items_tupI, seq_tupI, items_tabD, seq_tabD, items_list, seq_list, q1, hS]) ?_
  refine wx_seqR (v := .val (tupI (zw (fun c m => P * c - S * m) cs N))) (ex_retE rfl (ev_blt1 rfl (ev_comp (ρ1 := [.val (.int f), .val (tupI cs), .val (tupI w), .val (.int P), .val (.int S), .un, .un]) (xs := zipD (cs.map .int) (N.map .int)) ?_ (zip_comp (fun c m => P * c - S * m) fun p q hp hq => ?_) (by rw [List.length_map]; have := zw_len_le (fun c m => P * c - S * m) cs N; omega)) rfl rfl)) ⟨rfl, rfl⟩
  · generalize N.map PyData.int = Z at q2
    simp [evi, ev, evs, bz, bd, ob, rd, frz, rdr, isVar, slotD, blt1, items_tupI, seq_tupI, seq_list, q2]
  · have b1 := bc p hp
    have b2 := bn q hq
    simp [runB, start, ob, bd, bz, bt, ex, evo, evm, isVar, ev, evs, evi, rd, frz, truth, isiT, isNon, idx2, slotD, slotL, putL, put, puts, bindT, blt1, blt2, op2, rdr, prt, cnd, isNil, outV, endR, wipe, back, partD, slice3, ix0, ix1, ix2, ix3, ints_map, augO, isI, okL, items_tupI, seq_tupI, items_tabD, seq_tabD, items_list, seq_list, bp, bs, b1, b2]
theorem after_in_ok (k : Nat) {f : Int} {cs w : List Int} (f2 : 2 ≤ f) (f9 : f ≤ 9) (M : Md cs) (hw : InW cs.length w) (hl : w.length ≤ 40) :
    run TB.fn (k + 2) 30 none [.int f, tupI cs, tupI w] = some (.val (tupI (aft f cs w)), []) :=
  run_eq [.val (.int f), .val (tupI cs), .val (tupI w), .un, .un, .un, .un] look_30 rfl (after_in_body _ (power_ok k f2 f9 hl) (numbers_in_ok k f2 f9 M.l6 hw hl) rfl (big_127 (Int.le_of_lt (Int.pow_pos (by omega))) (pow40 (by omega) f9 hl)) M.bd.bigS (fun c hc => M.bd.bigC hc) (fun c hc => nums_big f2 f9 hw hl hc) M.l6)
def stOf (P S : Int) (x N : List Int) : Option (List Int) := if (zw (fun y m => y + S * m) x N).filter (fun c => !decide (c % P = 0)) = [] then some ((zw (fun y m => y + S * m) x N).map (· / P)) else none
def btOf (f P S : Int) (cs x : List Int) (m : Nat) : Option (List Int) :=
  if x.sum = S then (if (zw (fun c y => P * c - y) cs x).filter (badG S) = [] then wordOf f ((zw (fun c y => P * c - y) cs x).map (· / S)) m else none) else none
def optN : Option Nat → D
  | some m => .int m
  | none => .none
theorem fewest_loop (c : FT) {f : Int} {cs x : List Int} (q : ∀ m : Nat, m ≤ 40 → c 33 none [tabD f cs, tupI x, .int m] = some (.val (optT (btw f cs x m)), [])) : ∀ (n m : Nat) (t : SV), m + n ≤ 41 → cold t →
    match firstM f cs x m n with
    | some r => ∃ ρ', forL (fun x ρ2 => ob (bindT (.one 2) x ρ2) fun ρ3 => ex c (.seq (.ite (.isnt (.call 33 (.cons (.var 0) (.cons (.var 1) (.cons (.var 2) .nil))))) (.seq (.ret (.var 2)) .skip) .skip) .skip) ρ3) ((List.range' m n).map fun i => .int (i : Nat)) [.val (tabD f cs), .val (tupI x), t] = some (.rt (.val (.int (r : Nat))), ρ')
    | none => ∃ t', forL (fun x ρ2 => ob (bindT (.one 2) x ρ2) fun ρ3 => ex c (.seq (.ite (.isnt (.call 33 (.cons (.var 0) (.cons (.var 1) (.cons (.var 2) .nil))))) (.seq (.ret (.var 2)) .skip) .skip) .skip) ρ3) ((List.range' m n).map fun i => .int (i : Nat)) [.val (tabD f cs), .val (tupI x), t] = some (.nx, [.val (tabD f cs), .val (tupI x), t'])
  | 0, m, t, _, _ => ⟨t, rfl⟩
  | n + 1, m, t, h, ct => by
    have q0 := q m (by omega)
    have ih := fewest_loop c q n (m + 1) (.val (.int m)) (by omega) cold_val
    have bt : bindT (.one 2) (.int (m : Nat)) [.val (tabD f cs), .val (tupI x), t] = some [.val (tabD f cs), .val (tupI x), .val (.int m)] := by rcases ct with rfl | ⟨d, rfl⟩ <;> rfl
    have er : (List.range' m (n + 1)).map (fun i => PyData.int (i : Nat)) = .int (m : Nat) :: (List.range' (m + 1) n).map fun i => .int (i : Nat) := by rw [List.range'_succ, List.map_cons]
    rw [er]
    unfold firstM
    cases e : btw f cs x m with
    | some u =>
      rw [e] at q0
      simp only
      have nn : isNon (optT (some u)) = false := rfl
      generalize optT (some u) = A at q0 nn
      have e1 : ev c (.isnt (.call 33 (.cons (.var 0) (.cons (.var 1) (.cons (.var 2) .nil))))) [.val (tabD f cs), .val (tupI x), .val (.int m)] = some (.val (.bool true), [.val (tabD f cs), .val (tupI x), .val (.int m)]) := by simp [bz, ev, evs, bd, ob, rd, frz, q0, nn]
      refine ⟨[.val (tabD f cs), .val (tupI x), .val (.int m)], forL_rt ?_⟩
      · show ob (bindT (.one 2) (.int (m : Nat)) [.val (tabD f cs), .val (tupI x), t]) _ = _
        rw [bt]
        exact ex_seqR ((ex_iteT e1).trans (ex_seqR (ex_ret rfl)))
    | none =>
      rw [e] at q0
      simp only
      have st : forL (fun x ρ2 => ob (bindT (.one 2) x ρ2) fun ρ3 => ex c (.seq (.ite (.isnt (.call 33 (.cons (.var 0) (.cons (.var 1) (.cons (.var 2) .nil))))) (.seq (.ret (.var 2)) .skip) .skip) .skip) ρ3) (.int (m : Nat) :: (List.range' (m + 1) n).map fun i => .int (i : Nat)) [.val (tabD f cs), .val (tupI x), t] = _ := forL_nx (ρ1 := [.val (tabD f cs), .val (tupI x), .val (.int m)]) (by
        show ob (bindT (.one 2) (.int (m : Nat)) [.val (tabD f cs), .val (tupI x), t]) _ = _
        rw [bt]
        refine (ex_seq ((ex_iteF (ρ1 := [.val (tabD f cs), .val (tupI x), .val (.int m)]) ?_).trans ex_skip)).trans ex_skip
        have nn : isNon (optT none) = true := rfl
        generalize optT none = A at q0 nn
        simp [bz, ev, evs, bd, ob, rd, frz, q0, nn])
      rw [st]
      exact ih
theorem upto_range (n : Nat) : (upto n).map PyData.int = (List.range' 0 n).map fun i => .int (i : Nat) := by
  unfold upto
  rw [List.range_eq_range', List.map_map]
  rfl
theorem nums0_at {f : Int} {n : Nat} {k : Int} : at_ (nums f n []) k = 0 := by
  unfold nums numF zeros at_
  rw [List.getD_eq_getElem?_getD, List.getElem?_replicate]
  split <;> rfl
theorem aft_md {f : Int} {cs w : List Int} (h : Table f cs) (hw : InW cs.length w) (hl : w.length ≤ 40) : Md (aft f cs w) := by
  refine ⟨by rw [aft_len]; exact h.l1, by rw [aft_len]; exact h.l6, fun c hc => ?_⟩
  obtain ⟨i, hi⟩ := List.mem_iff_getElem?.mp hc
  have il := (List.getElem?_eq_some_iff.mp hi).1
  rw [aft_len] at il
  have e := aft_at (f := f) (cs := cs) (w := w) (k := (i : Int)) (by omega) (by omega)
  have e2 : at_ (aft f cs w) (i : Int) = c := by
    unfold at_
    rw [Int.toNat_natCast, List.getD_eq_getElem?_getD, hi]; rfl
  rw [e2] at e
  have f2 := h.f2
  have p0 : 0 ≤ f ^ w.length := Int.le_of_lt (Int.pow_pos (by omega))
  have p1 := pow40 (f := f) (m := w.length) (by omega) h.f9 hl
  have c0 := h.nn _ (at_mem (cs := cs) (k := (i : Int)) (by omega) (by omega))
  have c1 := h.mx _ (at_mem (cs := cs) (k := (i : Int)) (by omega) (by omega))
  have m := nums_lt (f := f) h.f2 h.f9 hw hl _ (at_mem (cs := nums f cs.length w) (k := (i : Int)) (by omega) (by rw [nums_len]; omega))
  have s0 := h.sum_pos
  have s1 : cs.sum ≤ 6000000 := by
    have := sum_abs (M := 1000000) (cs := cs) fun c hc => by have := h.nn c hc; have := h.mx c hc; omega
    have := h.l6
    omega
  have x1 : f ^ w.length * at_ cs i ≤ 2 ^ 127 * 1000000 := Int.le_trans (Int.mul_le_mul_of_nonneg_left c1 p0) (Int.mul_le_mul_of_nonneg_right (by omega) (by decide))
  have x2 : 0 ≤ f ^ w.length * at_ cs i := Int.mul_nonneg p0 c0
  have x3 : cs.sum * at_ (nums f cs.length w) i ≤ 6000000 * 2 ^ 127 := Int.le_trans (Int.mul_le_mul_of_nonneg_left (Int.le_of_lt m.2) (by omega)) (Int.mul_le_mul_of_nonneg_right s1 (by decide))
  have x4 : 0 ≤ cs.sum * at_ (nums f cs.length w) i := Int.mul_nonneg (by omega) m.1
  have y1 : ((2 : Int) ^ 127) = 170141183460469231731687303715884105728 := by decide
  have y2 : c.natAbs < 2 ^ 160 := by
    have y3 : (2 : Nat) ^ 160 = 1461501637330902918203684832716283019655932542976 := by decide
    omega
  exact Nat.lt_of_lt_of_le y2 (Nat.pow_le_pow_right (by decide) (by decide))
theorem upto_eq {n : Nat} {N : List Int} (g : Int → Int) (l : N.length = n) (h : ∀ k : Int, 0 ≤ k → k < n → g k = at_ N k) : (upto n).map g = N := by
  refine ext_at (by rw [List.length_map, upto_length, l]) fun k k0 k1 => ?_
  rw [List.length_map, upto_length] at k1
  rw [at_map g k0 (by rw [upto_length]; exact k1)]
  have : at_ (upto n) k = k := by
    unfold at_
    rw [List.getD_eq_getElem?_getD, upto_get (by omega)]
    show ((k.toNat : Nat) : Int) = k
    omega
  rw [this, h k k0 k1]
theorem cut1 (a : D) (r : List D) : cutD (a :: r) (some 1) none = r := by
  unfold cutD HT.sIx
  simp
theorem firstM_found {f : Int} {cs x : List Int} {m : Nat} (hm : m ≤ 40) (u : List Int) (h : btw f cs x m = some u) : ∃ r, firstM f cs x 0 41 = some r ∧ r ≤ m := by
  cases e : firstM f cs x 0 41 with
  | none =>
    have := firstM_none e m (by omega) (by omega)
    rw [h] at this; cases this
  | some r =>
    obtain ⟨h1, h2, h3, h4⟩ := firstM_some e
    refine ⟨r, rfl, ?_⟩
    by_cases c : r ≤ m
    · exact c
    · have := h4 m (by omega) (by omega)
      rw [h] at this; cases this
theorem nums_nil (f : Int) (n : Nat) : nums f n [] = zeros n := rfl
theorem aft_nil {f : Int} {cs : List Int} : aft f cs [] = cs := by
  refine ext_at (aft_len f cs []) fun k k0 k1 => ?_
  rw [aft_len] at k1
  rw [aft_at k0 k1, nums0_at]
  simp

/-! coins round by round; debts -/
theorem nums_snoc {f : Int} {n : Nat} {w : List Int} {p : Int} : nums f n (w ++ [p]) = numT f (nums f n w) p := by
  unfold nums; rw [numF_app]; rfl
theorem aft_snoc {f : Int} {cs w : List Int} {p : Int} (hw : InW cs.length w) (p0 : 0 ≤ p) (p1 : p < cs.length) : aft f cs (w ++ [p]) = owedL f (aft f cs w) p := by
  have l := aft_len f cs w
  refine ext_at (by rw [aft_len, owedL_length, l]) fun k k0 k1 => ?_
  rw [aft_len] at k1
  rw [aft_at k0 k1, nums_snoc, numT_at p0 (by rw [nums_len]; exact p1) k0 (by rw [nums_len]; exact k1), List.length_append, List.length_singleton, Int.pow_succ]
  have e := aft_at (f := f) (w := w) k0 k1
  have s := aft_sum (f := f) hw
  by_cases h : k = p
  · subst h
    rw [if_pos rfl, owedL_at k0 (by rw [l]; exact k1), e, s, Int.mul_sub, Int.mul_add, ← Int.mul_assoc, ← Int.mul_assoc, Int.mul_comm f (f ^ w.length), Int.mul_comm (f - 1) cs.sum]
    rw [show f * (cs.sum * at_ (nums f cs.length w) k) = cs.sum * f * at_ (nums f cs.length w) k by rw [← Int.mul_assoc, Int.mul_comm f]]
    omega
  · rw [if_neg h, owedL_ne p0 k0 (by rw [l]; exact k1) h, e, Int.mul_sub, Int.add_zero, ← Int.mul_assoc, ← Int.mul_assoc, Int.mul_comm f (f ^ w.length)]
    rw [show f * (cs.sum * at_ (nums f cs.length w) k) = cs.sum * f * at_ (nums f cs.length w) k by rw [← Int.mul_assoc, Int.mul_comm f]]
/-- coins behind i rounds of a word -/
def A_ (f : Int) (cs w : List Int) (i : Nat) : List Int := aft f cs (w.take i)
theorem A_zero (f : Int) (cs w : List Int) : A_ f cs w 0 = cs := by unfold A_; rw [List.take_zero]; exact aft_nil
theorem A_len (f : Int) (cs w : List Int) (i : Nat) : (A_ f cs w i).length = cs.length := aft_len _ _ _
theorem A_sum {f : Int} {cs w : List Int} (hw : InW cs.length w) (i : Nat) : (A_ f cs w i).sum = cs.sum := aft_sum (hw.take i)
theorem A_succ {f : Int} {cs w : List Int} (hw : InW cs.length w) {i : Nat} {p : Int} (h : w[i]? = some p) : A_ f cs w (i + 1) = owedL f (A_ f cs w i) p := by
  obtain ⟨p0, p1⟩ := hw p (List.mem_of_getElem? h)
  unfold A_
  rw [List.take_add_one, h]
  exact aft_snoc (hw.take i) p0 p1
theorem A_all (f : Int) (cs w : List Int) : A_ f cs w w.length = aft f cs w := by unfold A_; rw [List.take_length]
theorem A_neg {f : Int} {cs w : List Int} (f2 : 2 ≤ f) (sp : 0 < cs.sum) (hw : InW cs.length w) {i : Nat} (hi : i < w.length) {k : Int} (k0 : 0 ≤ k) (k1 : k < cs.length) (h : at_ (A_ f cs w i) k < 0) : at_ (A_ f cs w (i + 1)) k < 0 := by
  have hp := List.getElem?_eq_getElem hi
  obtain ⟨p0, p1⟩ := hw _ (List.mem_of_getElem? hp)
  rw [A_succ hw hp]
  have l := A_len f cs w i
  have x := Int.mul_neg_of_pos_of_neg (show 0 < f by omega) h
  by_cases e : k = w[i]
  · rw [e] at h x ⊢
    rw [owedL_at p0 (by rw [l]; exact p1), A_sum hw]
    have := Int.mul_nonneg (show 0 ≤ f - 1 by omega) (show 0 ≤ cs.sum by omega)
    omega
  · rw [owedL_ne p0 k0 (by rw [l]; exact k1) e]
    exact x
theorem A_negs {f : Int} {cs w : List Int} (f2 : 2 ≤ f) (sp : 0 < cs.sum) (hw : InW cs.length w) {k : Int} (k0 : 0 ≤ k) (k1 : k < cs.length) {i : Nat} (h : at_ (A_ f cs w i) k < 0) : ∀ d : Nat, i + d ≤ w.length → at_ (A_ f cs w (i + d)) k < 0
  | 0, _ => h
  | d + 1, hd => by
    have := A_negs f2 sp hw k0 k1 h d (by omega)
    have hd2 : i + d < w.length := by omega
    exact A_neg f2 sp hw (i := i + d) hd2 k0 k1 this
/-- the first round with a debt, of the first n -/
def deb (f : Int) (cs w : List Int) (k : Int) (n : Nat) : Option Nat := (List.range n).find? fun t => decide (at_ (A_ f cs w t) k < 0)
theorem deb_succ (f : Int) (cs w : List Int) (k : Int) (n : Nat) : deb f cs w k (n + 1) = (match deb f cs w k n with | some t => some t | none => if at_ (A_ f cs w n) k < 0 then some n else none) := by
  unfold deb
  rw [List.range_succ, List.find?_append]
  cases (List.range n).find? fun t => decide (at_ (A_ f cs w t) k < 0) with
  | some t => rfl
  | none =>
    by_cases h : at_ (A_ f cs w n) k < 0
    · rw [if_pos h]; simp [h]
    · rw [if_neg h]; simp [h]
theorem filt_mono {P : Nat → Bool} : ∀ n : Nat, (∀ i, i + 1 < n → P i = true → P (i + 1) = true) → (List.range n).filter P = (match (List.range n).find? P with | none => [] | some r => List.range' r (n - r))
  | 0, _ => rfl
  | n + 1, h => by
    have ih := filt_mono n fun i hi => h i (by omega)
    rw [List.range_succ, List.filter_append, List.find?_append, ih]
    cases e : (List.range n).find? P with
    | none =>
      by_cases c : P n = true
      · simp [c]
      · simp [c]
    | some r =>
      have hr : r < n := by simpa using List.mem_of_find?_eq_some e
      have pr : P r = true := List.find?_some e
      have up : ∀ d, r + d ≤ n → P (r + d) = true := fun d => by
        induction d with
        | zero => intro _; exact pr
        | succ d ih2 => intro hd; exact h (r + d) (by omega) (ih2 (by omega))
      have c : P n = true := by have := up (n - r) (by omega); rwa [show r + (n - r) = n by omega] at this
      simp only [List.filter_cons, c, if_true, List.filter_nil, Option.some_or]
      rw [show n + 1 - r = (n - r) + 1 by omega, List.range'_concat]
      rw [show r + 1 * (n - r) = n by omega]
/-- all pay with right, nobody owes at last, nobody ever owes: the same -/
theorem owe_iff {f : Int} {cs w : List Int} (h : Table f cs) (hw : InW cs.length w) :
    ((∀ (t : Nat) (p : Int), w[t]? = some p → p ∈ payL f (A_ f cs w t)) ↔ (∀ k : Int, 0 ≤ k → k < cs.length → 0 ≤ at_ (aft f cs w) k)) ∧
    ((∀ k : Int, 0 ≤ k → k < cs.length → 0 ≤ at_ (aft f cs w) k) ↔ (∀ k : Int, 0 ≤ k → k < cs.length → deb f cs w k (w.length + 1) = none)) := by
  have f2 := h.f2
  have sp := h.sum_pos
  have back : (∀ k : Int, 0 ≤ k → k < cs.length → 0 ≤ at_ (aft f cs w) k) → ∀ t, t ≤ w.length → ∀ k : Int, 0 ≤ k → k < cs.length → 0 ≤ at_ (A_ f cs w t) k := by
    intro m t ht k k0 k1
    by_cases c : at_ (A_ f cs w t) k < 0
    · have := A_negs f2 sp hw k0 k1 c (w.length - t) (by omega)
      rw [show t + (w.length - t) = w.length by omega, A_all] at this
      have := m k k0 k1
      omega
    · omega
  refine ⟨⟨fun g => ?_, fun m t p hp => ?_⟩, ⟨fun m k k0 k1 => ?_, fun d k k0 k1 => ?_⟩⟩
  · have all : ∀ t, t ≤ w.length → ∀ k : Int, 0 ≤ k → k < cs.length → 0 ≤ at_ (A_ f cs w t) k := by
      intro t
      induction t with
      | zero => intro _ k k0 k1; rw [A_zero]; exact h.nn _ (at_mem k0 k1)
      | succ t ih =>
        intro ht k k0 k1
        have hp := List.getElem?_eq_getElem (show t < w.length by omega)
        obtain ⟨p0, p1⟩ := hw _ (List.mem_of_getElem? hp)
        have gp := (mem_payL.mp (g t _ hp)).2
        rw [A_succ hw hp]
        have l := A_len f cs w t
        by_cases e : k = w[t]
        · rw [e, owedL_at p0 (by rw [l]; exact p1)]; omega
        · rw [owedL_ne p0 k0 (by rw [l]; exact k1) e]
          exact Int.mul_nonneg (by omega) (ih (by omega) k k0 k1)
    intro k k0 k1
    have := all w.length (Nat.le_refl _) k k0 k1
    rwa [A_all] at this
  · have tl := (List.getElem?_eq_some_iff.mp hp).1
    obtain ⟨p0, p1⟩ := hw p (List.mem_of_getElem? hp)
    have l := A_len f cs w t
    have := back m (t + 1) (by omega) p p0 p1
    rw [A_succ hw hp, owedL_at p0 (by rw [l]; exact p1)] at this
    exact mem_payL.mpr ⟨⟨p0, by rw [l]; exact p1⟩, by omega⟩
  · unfold deb
    rw [List.find?_eq_none]
    intro t ht
    have tl : t < w.length + 1 := by simpa using ht
    have := back m t (by omega) k k0 k1
    simp; omega
  · have := d k k0 k1
    unfold deb at this
    rw [List.find?_eq_none] at this
    have q := this w.length (by simp)
    rw [A_all] at q
    simpa using q

theorem ixD_last (l : List D) (d : D) : ixD (l ++ [d]) (-1) = some d := by
  unfold ixD L2.atI L2.ixN
  rw [if_neg (by decide), if_pos (by simp; omega)]
  simp
  rw [List.getElem?_append_right (by omega)]
  have : (-1 + ((l.length : Int) + 1)).toNat - l.length = 0 := by omega
  rw [this]; rfl
/-- coins behind 0, 1, .. rounds -/
def alD (f : Int) (cs w : List Int) (n : Nat) : List D := (List.range n).map fun i => tupI (A_ f cs w i)
theorem alD_succ (f : Int) (cs w : List Int) (n : Nat) : alD f cs w (n + 1) = alD f cs w n ++ [tupI (A_ f cs w n)] := by
  unfold alD; rw [List.range_succ, List.map_append]; rfl
theorem alD_len (f : Int) (cs w : List Int) (n : Nat) : (alD f cs w n).length = n := by simp [alD]
theorem ex_app {c : FT} {j : Nat} {e : E} {ρ ρ1 ρ2 : Rho} {ds0 ds : List D} {sv : SV} {d : D} (h0 : slotL ρ j = some ds0) (h : ev c e ρ = some (sv, ρ1)) (z : frz sv = some d) (h1 : slotL ρ1 j = some ds) (l : ds.length < 16777216) (p : putL ρ1 j (ds ++ [d]) = some ρ2) : ex c (.app j e) ρ = some (.nx, ρ2) := by
  unfold ex
  rw [h0]
  show bz (ev c e ρ) _ = _
  rw [h]
  unfold bz
  simp only [z]
  rw [h1]
  show (if okL ds.length = true then _ else _) = _
  rw [if_pos (by simp [okL, l])]
  show ob (putL ρ1 j (ds ++ [d])) _ = _
  rw [p]; rfl
theorem along_body (c : FT) {f : Int} {cs w : List Int} (hl : w.length < 1000) (q : ∀ (i : Nat) (p : Int), w[i]? = some p → c 15 none [.int f, tupI (A_ f cs w i), .int p] = some (.val (tupI (A_ f cs w (i + 1))), [])) :
    Wx (ex c fn_44.body [.val (.int f), .val (tupI cs), .val (tupI w), .un, .un]) fun o ρ' => outV o = some (.own (alD f cs w (w.length + 1))) ∧ endR fn_44.io ρ' = some [] := by
  have a0 : alD f cs w 1 = [tupI cs] := by unfold alD; rw [show List.range 1 = [0] by rfl, List.map_singleton, A_zero]
  refine wx_seq (ρ1 := [.val (.int f), .val (tupI cs), .val (tupI w), .own (alD f cs w 1), .un]) (by rw [a0]; simp [runB, start, ob, bd, bz, bt, ex, evo, evm, isVar, ev, evs, evi, rd, frz, truth, isiT, isNon, idx2, slotD, slotL, putL, put, puts, bindT, blt1, blt2, op2, rdr, prt, cnd, isNil, outV, endR, wipe, back, partD, slice3, ix0, ix1, ix2, ix3, ints_map, augO, isI, okL, items_tupI, seq_tupI, items_tabD, seq_tabD, items_list, seq_list]) ?_
  obtain ⟨ρ', e, t, rfl, ct⟩ := wx_for (c := c) (t := .one 4) (it := .seq (.var 2)) (b := (.seq (.app 3 (.call 15 (.cons (.var 0) (.cons (.idx (.var 3) (.neg (.int 1))) (.cons (.var 4) .nil))))) .skip))
    (ρ := [.val (.int f), .val (tupI cs), .val (tupI w), .own (alD f cs w 1), .un]) (ρ1 := [.val (.int f), .val (tupI cs), .val (tupI w), .own (alD f cs w 1), .un]) (xs := w.map .int) (by simp [runB, start, ob, bd, bz, bt, ex, evo, evm, isVar, ev, evs, evi, rd, frz, truth, isiT, isNon, idx2, slotD, slotL, putL, put, puts, bindT, blt1, blt2, op2, rdr, prt, cnd, isNil, outV, endR, wipe, back, partD, slice3, ix0, ix1, ix2, ix3, ints_map, augO, isI, okL, items_tupI, seq_tupI, items_tabD, seq_tabD, items_list, seq_list])
    (fun j ρ => ∃ t, ρ = [.val (.int f), .val (tupI cs), .val (tupI w), .own (alD f cs w (j + 1)), t] ∧ cold t) ⟨.un, rfl, cold_un⟩ (by
      rintro j x ρ hx ⟨t, rfl, ct⟩
      rw [List.getElem?_map] at hx
      cases hj : w[j]? with
      | none => rw [hj] at hx; cases hx
      | some p =>
        rw [hj] at hx
        cases hx
        have jl := (List.getElem?_eq_some_iff.mp hj).1
        have q0 := q j p hj
        refine ⟨[.val (.int f), .val (tupI cs), .val (tupI w), .own (alD f cs w (j + 1)), .val (.int p)], by rcases ct with rfl | ⟨d, rfl⟩ <;> rfl, ?_⟩
        refine wx_seq (ρ1 := [.val (.int f), .val (tupI cs), .val (tupI w), .own (alD f cs w (j + 1 + 1)), .val (.int p)]) ?_ (wx_skip ⟨rfl, _, rfl, cold_val⟩)
        have il : ixD (alD f cs w (j + 1)) (-1) = some (tupI (A_ f cs w j)) := by rw [alD_succ]; exact ixD_last _ _
        have ll := alD_len f cs w (j + 1)
        rw [alD_succ f cs w (j + 1)]
        refine ex_app (ds0 := alD f cs w (j + 1)) rfl (ev_call (ds := [.int f, tupI (A_ f cs w j), .int p]) (ρ1 := [.val (.int f), .val (tupI cs), .val (tupI w), .own (alD f cs w (j + 1)), .val (.int p)]) ?_ q0) rfl (ds := alD f cs w (j + 1)) rfl (by rw [ll]; omega) rfl
        generalize alD f cs w (j + 1) = Z at il
        simp [runB, start, ob, bd, bz, bt, ex, evo, evm, isVar, ev, evs, evi, rd, frz, truth, isiT, isNon, idx2, slotD, slotL, putL, put, puts, bindT, blt1, blt2, op2, rdr, prt, cnd, isNil, outV, endR, wipe, back, partD, slice3, ix0, ix1, ix2, ix3, ints_map, augO, isI, okL, items_tupI, seq_tupI, items_tabD, seq_tabD, items_list, seq_list, il])
  rw [List.length_map] at e
  exact wx_seq e (wx_seqR (v := .own (alD f cs w (w.length + 1))) (ex_ret rfl) ⟨rfl, rfl⟩)
theorem A_bd {f : Int} {cs w : List Int} (h : Table f cs) (hw : InW cs.length w) (hl : w.length ≤ 40) (i : Nat) : Bd (A_ f cs w i) :=
  (aft_md h (hw.take i) (by rw [List.length_take]; omega)).bd
theorem l_along_ok (k : Nat) {f : Int} {cs w : List Int} (h : Table f cs) (hw : InW cs.length w) (hl : w.length ≤ 40) : run TB.fn (k + 2) 44 none [.int f, tupI cs, tupI w] = some (.own (alD f cs w (w.length + 1)), []) :=
  run_eq [.val (.int f), .val (tupI cs), .val (tupI w), .un, .un] look_44 rfl (along_body _ (by omega) fun i p hp => by
    obtain ⟨p0, p1⟩ := hw p (List.mem_of_getElem? hp)
    rw [A_succ hw hp]
    exact l_owed_ok k (Table.bf h) (A_bd h hw hl i) p0 (by rw [A_len]; exact p1))
/-- a word in which each time the first of those who pay pays -/
def Pw (f : Int) (cs v : List Int) : Prop := ∀ (i : Nat) (p : Int), v[i]? = some p → (payL f (A_ f cs v i)).head? = some p
theorem A_app {f : Int} {cs v u : List Int} {i : Nat} (h : i ≤ v.length) : A_ f cs (v ++ u) i = A_ f cs v i := by
  unfold A_; rw [List.take_append_of_le_length h]
theorem alD_app {f : Int} {cs v u : List Int} {n : Nat} (h : n ≤ v.length + 1) : alD f cs (v ++ u) n = alD f cs v n := by
  unfold alD
  apply List.map_congr_left
  intro i hi
  rw [A_app (by have := List.mem_range.mp hi; omega)]
def plB : S := (.seq (.set 6 (.call 16 (.cons (.var 0) (.cons (.idx (.var 3) (.neg (.int 1))) .nil))))
    (.seq (.ite (.cmp .ne (.var 6) (.lst .nil)) (.seq (.app 4 (.idx (.var 6) (.int 0)))
    (.seq (.app 3 (.call 15 (.cons (.var 0) (.cons (.idx (.var 3) (.neg (.int 1))) (.cons (.idx (.var 6) (.int 0)) .nil)))))
    .skip)) (.seq (.ret (.tup (.cons (.var 3) (.cons (.blt1 .tuple (.var 4)) .nil))))
    .skip))
    .skip))
def plV (f : Int) (cs v : List Int) : D := .tuple [.list (alD f cs v (v.length + 1)), tupI v]
theorem play_ret (c : FT) {f : Int} {cs v : List Int} {m : D} {t s : SV} : ∃ ρ', ex c (.seq (.ret (.tup (.cons (.var 3) (.cons (.blt1 .tuple (.var 4)) .nil)))) .skip) [.val (.int f), .val (tupI cs), .val m, .own (alD f cs v (v.length + 1)), .own (v.map .int), t, s] = some (.rt (.val (plV f cs v)), ρ') := by
  refine ⟨[.val (.int f), .val (tupI cs), .val m, .val (.list (alD f cs v (v.length + 1))), .own (v.map .int), t, s], ?_⟩
  unfold plV
  generalize alD f cs v (v.length + 1) = Z
  refine ex_seqR (ex_retE rfl ?_)
  simp [runB, start, ob, bd, bz, bt, ex, evo, evm, isVar, ev, evs, evi, rd, frz, truth, isiT, isNon, idx2, slotD, slotL, putL, put, puts, bindT, blt1, blt2, op2, rdr, prt, cnd, isNil, outV, endR, wipe, back, partD, slice3, ix0, ix1, ix2, ix3, ints_map, augO, isI, okL, items_tupI, seq_tupI, items_tabD, seq_tabD, items_list, seq_list]
  rfl
theorem play_turn (c : FT) {f : Int} {cs v : List Int} {m : D} {t s : SV} (hl : v.length < 1000) (cs6 : cold s) {P : List Int} (hP : P = payL f (A_ f cs v v.length)) (q1 : c 16 none [.int f, tupI (A_ f cs v v.length)] = some (.own (P.map .int), []))
    (q2 : ∀ p, p ∈ P → c 15 none [.int f, tupI (A_ f cs v v.length), .int p] = some (.val (tupI (aft f cs (v ++ [p]))), [])) :
    match P with
    | p :: _ => ∃ s', cold s' ∧ ex c plB [.val (.int f), .val (tupI cs), .val m, .own (alD f cs v (v.length + 1)), .own (v.map .int), t, s] = some (.nx, [.val (.int f), .val (tupI cs), .val m, .own (alD f cs (v ++ [p]) (v.length + 2)), .own ((v ++ [p]).map .int), t, s'])
    | [] => ∃ ρ', ex c plB [.val (.int f), .val (tupI cs), .val m, .own (alD f cs v (v.length + 1)), .own (v.map .int), t, s] = some (.rt (.val (plV f cs v)), ρ') := by
  have il : ixD (alD f cs v (v.length + 1)) (-1) = some (tupI (A_ f cs v v.length)) := by rw [alD_succ]; exact ixD_last _ _
  have ll := alD_len f cs v (v.length + 1)
  let R : SV → Rho := fun s => [.val (.int f), .val (tupI cs), .val m, .own (alD f cs v (v.length + 1)), .own (v.map .int), t, s]
  have g1 : ex c (.set 6 (.call 16 (.cons (.var 0) (.cons (.idx (.var 3) (.neg (.int 1))) .nil)))) (R s) = some (.nx, R (.own (P.map .int))) := by
    refine ex_set (ev_call (ds := [.int f, tupI (A_ f cs v v.length)]) (ρ1 := R s) ?_ q1) (by rcases cs6 with rfl | ⟨d, rfl⟩ <;> rfl)
    simp only [R]
    generalize alD f cs v (v.length + 1) = Z at il
    simp [runB, start, ob, bd, bz, bt, ex, evo, evm, isVar, ev, evs, evi, rd, frz, truth, isiT, isNon, idx2, slotD, slotL, putL, put, puts, bindT, blt1, blt2, op2, rdr, prt, cnd, isNil, outV, endR, wipe, back, partD, slice3, ix0, ix1, ix2, ix3, ints_map, augO, isI, okL, items_tupI, seq_tupI, items_tabD, seq_tabD, items_list, seq_list, il]
  have g2 : ev c (.cmp .ne (.var 6) (.lst .nil)) (R (.own (P.map .int))) = some (.val (.bool (!decide (P = []))), R (.val (.list (P.map .int)))) :=
    ev_cmp (sva := .val (.list (P.map .int))) (ρ1 := R (.val (.list (P.map .int)))) (by simp only [R]; generalize alD f cs v (v.length + 1) = Z; simp [runB, start, ob, bd, bz, bt, ex, evo, evm, isVar, ev, evs, evi, rd, frz, truth, isiT, isNon, idx2, slotD, slotL, putL, put, puts, bindT, blt1, blt2, op2, rdr, prt, cnd, isNil, outV, endR, wipe, back, partD, slice3, ix0, ix1, ix2, ix3, ints_map, augO, isI, okL, items_tupI, seq_tupI, items_tabD, seq_tabD, items_list, seq_list]) rfl ev_lst0 rfl (ne_ints P [])
  cases P with
  | nil =>
    rw [decide_eq_true rfl] at g2
    obtain ⟨ρ', e⟩ := play_ret c (f := f) (cs := cs) (v := v) (m := m) (t := t) (s := .val (.list ([] : List D)))
    exact ⟨ρ', (ex_seq g1).trans (ex_seqR ((ex_iteF g2).trans e))⟩
  | cons p r =>
    rw [decide_eq_false (by simp)] at g2
    refine ⟨.val (.list ((p :: r).map .int)), cold_val, (ex_seq g1).trans ((ex_seq ((ex_iteT g2).trans ((ex_seq (ρ1 := [.val (.int f), .val (tupI cs), .val m, .own (alD f cs v (v.length + 1)), .own ((v ++ [p]).map .int), t, .val (.list ((p :: r).map .int))]) ?_).trans ((ex_seq ?_).trans ex_skip)))).trans ex_skip)⟩
    · refine ex_app (ds0 := v.map .int) rfl (sv := .val (.int p)) (d := .int p) (ρ1 := R (.val (.list ((p :: r).map .int)))) ?_ rfl (ds := v.map .int) rfl (by rw [List.length_map]; omega) (by rw [List.map_append]; rfl)
      simp only [R]
      generalize alD f cs v (v.length + 1) = Z
      simp [runB, start, ob, bd, bz, bt, ex, evo, evm, isVar, ev, evs, evi, rd, frz, truth, isiT, isNon, idx2, slotD, slotL, putL, put, puts, bindT, blt1, blt2, op2, rdr, prt, cnd, isNil, outV, endR, wipe, back, partD, slice3, ix0, ix1, ix2, ix3, ints_map, augO, isI, okL, items_tupI, seq_tupI, items_tabD, seq_tabD, items_list, seq_list]
    · have e2 : alD f cs (v ++ [p]) (v.length + 2) = alD f cs v (v.length + 1) ++ [tupI (aft f cs (v ++ [p]))] := by
        rw [alD_succ, alD_app (Nat.le_refl _)]
        have : A_ f cs (v ++ [p]) (v.length + 1) = aft f cs (v ++ [p]) := by
          have := A_all f cs (v ++ [p])
          rwa [List.length_append, List.length_singleton] at this
        rw [this]
      rw [e2]
      refine ex_app (ds0 := alD f cs v (v.length + 1)) rfl (ev_call (ds := [.int f, tupI (A_ f cs v v.length), .int p]) (ρ1 := [.val (.int f), .val (tupI cs), .val m, .own (alD f cs v (v.length + 1)), .own ((v ++ [p]).map .int), t, .val (.list ((p :: r).map .int))]) ?_ (q2 p (by simp))) rfl (ds := alD f cs v (v.length + 1)) rfl (by rw [ll]; omega) rfl
      generalize alD f cs v (v.length + 1) = Z at il
      simp [runB, start, ob, bd, bz, bt, ex, evo, evm, isVar, ev, evs, evi, rd, frz, truth, isiT, isNon, idx2, slotD, slotL, putL, put, puts, bindT, blt1, blt2, op2, rdr, prt, cnd, isNil, outV, endR, wipe, back, partD, slice3, ix0, ix1, ix2, ix3, ints_map, augO, isI, okL, items_tupI, seq_tupI, items_tabD, seq_tabD, items_list, seq_list, il]
theorem play_loop (c : FT) {f : Int} {cs : List Int} {m : D} (q : ∀ v : List Int, InW cs.length v → v.length ≤ 40 → c 16 none [.int f, tupI (A_ f cs v v.length)] = some (.own ((payL f (A_ f cs v v.length)).map .int), []) ∧
      ∀ p, p ∈ payL f (A_ f cs v v.length) → c 15 none [.int f, tupI (A_ f cs v v.length), .int p] = some (.val (tupI (aft f cs (v ++ [p]))), [])) : ∀ (xs : List D) (v : List Int) (t s : SV), InW cs.length v → v.length + xs.length ≤ 41 → cold t → cold s → Pw f cs v →
    ∃ v', InW cs.length v' ∧ Pw f cs v' ∧ v'.length ≤ v.length + xs.length ∧ ((v'.length = v.length + xs.length ∧ ∃ t' s', forL (fun x ρ2 => ob (bindT (.one 5) x ρ2) fun ρ3 => ex c plB ρ3) xs [.val (.int f), .val (tupI cs), .val m, .own (alD f cs v (v.length + 1)), .own (v.map .int), t, s] = some (.nx, [.val (.int f), .val (tupI cs), .val m, .own (alD f cs v' (v'.length + 1)), .own (v'.map .int), t', s'])) ∨
      (v'.length < v.length + xs.length ∧ payL f (A_ f cs v' v'.length) = [] ∧ ∃ ρ', forL (fun x ρ2 => ob (bindT (.one 5) x ρ2) fun ρ3 => ex c plB ρ3) xs [.val (.int f), .val (tupI cs), .val m, .own (alD f cs v (v.length + 1)), .own (v.map .int), t, s] = some (.rt (.val (plV f cs v')), ρ')))
  | [], v, t, s, hv, hl, ct, c6, pw => ⟨v, hv, pw, by simp, .inl ⟨by simp, t, s, rfl⟩⟩
  | x :: xs, v, t, s, hv, hl, ct, c6, pw => by
    have hl2 : v.length ≤ 40 := by simp at hl; omega
    obtain ⟨q1, q2⟩ := q v hv hl2
    have bt : bindT (.one 5) x [.val (.int f), .val (tupI cs), .val m, .own (alD f cs v (v.length + 1)), .own (v.map .int), t, s] = some [.val (.int f), .val (tupI cs), .val m, .own (alD f cs v (v.length + 1)), .own (v.map .int), .val x, s] := by rcases ct with rfl | ⟨d, rfl⟩ <;> rfl
    cases hP : payL f (A_ f cs v v.length) with
    | nil =>
      have tn := play_turn c (f := f) (cs := cs) (v := v) (m := m) (t := .val x) (s := s) (by omega) c6 (P := []) hP.symm (by rw [hP] at q1; exact q1) (fun p hp => absurd hp (by simp))
      obtain ⟨ρ', e⟩ := tn
      exact ⟨v, hv, pw, by omega, .inr ⟨by simp, hP, ρ', forL_rt (by show ob (bindT (.one 5) x _) _ = _; rw [bt]; exact e)⟩⟩
    | cons p r =>
      have tn := play_turn c (f := f) (cs := cs) (v := v) (m := m) (t := .val x) (s := s) (by omega) c6 (P := p :: r) hP.symm (by rw [hP] at q1; exact q1) (fun z hz => q2 z (by rw [hP]; exact hz))
      obtain ⟨s', cs', e⟩ := tn
      have pm : p ∈ payL f (A_ f cs v v.length) := by rw [hP]; simp
      have pr := (mem_payL.mp pm).1
      rw [A_len] at pr
      have hv' : InW cs.length (v ++ [p]) := fun z hz => by
        rcases List.mem_append.mp hz with hz | hz
        · exact hv z hz
        · have : z = p := by simpa using hz
          rw [this]; exact pr
      have pw' : Pw f cs (v ++ [p]) := fun i z hz => by
        by_cases hi : i < v.length
        · rw [List.getElem?_append_left hi] at hz
          rw [A_app (by omega)]
          exact pw i z hz
        · rw [List.getElem?_append_right (by omega)] at hz
          have : i - v.length = 0 := by
            by_cases h0 : i - v.length = 0
            · exact h0
            · rw [List.getElem?_eq_none (by simp; omega)] at hz; cases hz
          rw [this] at hz
          have hz : p = z := by simpa using hz
          have ei : i = v.length := by omega
          rw [ei, A_app (Nat.le_refl _), hP, ← hz]; rfl
      have ih := play_loop c (m := m) q xs (v ++ [p]) (.val x) s' hv' (by simp at hl ⊢; omega) cold_val cs' pw'
      have st : forL (fun x ρ2 => ob (bindT (.one 5) x ρ2) fun ρ3 => ex c plB ρ3) (x :: xs) [.val (.int f), .val (tupI cs), .val m, .own (alD f cs v (v.length + 1)), .own (v.map .int), t, s] = forL (fun x ρ2 => ob (bindT (.one 5) x ρ2) fun ρ3 => ex c plB ρ3) xs [.val (.int f), .val (tupI cs), .val m, .own (alD f cs (v ++ [p]) (v.length + 2)), .own ((v ++ [p]).map .int), .val x, s'] :=
        forL_nx (by show ob (bindT (.one 5) x _) _ = _; rw [bt]; exact e)
      rw [st]
      rw [List.length_append, List.length_singleton] at ih
      rw [List.length_cons, show v.length + (xs.length + 1) = v.length + 1 + xs.length by omega]
      exact ih
theorem l_play_ok (k : Nat) {f : Int} {cs : List Int} {m : Nat} (h : Table f cs) (hm : m ≤ 41) : ∃ v, InW cs.length v ∧ Pw f cs v ∧ v.length ≤ m ∧ (v.length = m ∨ payL f (A_ f cs v v.length) = []) ∧ run TB.fn (k + 3) 47 none [.int f, tupI cs, .int m] = some (.val (plV f cs v), []) := by
  have q : ∀ v : List Int, InW cs.length v → v.length ≤ 40 → run TB.fn (k + 2) 16 none [.int f, tupI (A_ f cs v v.length)] = some (.own ((payL f (A_ f cs v v.length)).map .int), []) ∧
      ∀ p, p ∈ payL f (A_ f cs v v.length) → run TB.fn (k + 2) 15 none [.int f, tupI (A_ f cs v v.length), .int p] = some (.val (tupI (aft f cs (v ++ [p]))), []) := fun v hv hl => by
    refine ⟨l_payers_ok k (Table.bf h) (A_bd h hv hl _), fun p hp => ?_⟩
    obtain ⟨⟨p0, p1⟩, _⟩ := mem_payL.mp hp
    rw [A_len] at p1
    rw [aft_snoc hv p0 p1, ← A_all]
    exact l_owed_ok (k + 1) (Table.bf h) (A_bd h hv hl _) p0 (by rw [A_len]; exact p1)
  obtain ⟨v, h1, h2, h3, h4⟩ := play_loop (run TB.fn (k + 2)) (m := .int m) q ((upto m).map .int) [] .un .un (fun p hp => absurd hp (by simp)) (by simp [upto_length]; omega) cold_un cold_un (fun i p hp => by simp at hp)
  rw [List.length_map, upto_length, List.length_nil, Nat.zero_add] at h3 h4
  have a0 : alD f cs [] 1 = [tupI cs] := by unfold alD; rw [show List.range 1 = [0] by rfl, List.map_singleton, A_zero]
  have s1 : ∀ c : FT, ex c (.par [3, 4] (.cons (.lst (.cons (.var 1) .nil)) (.cons (.lst .nil) .nil))) [.val (.int f), .val (tupI cs), .val (.int m), .un, .un, .un, .un] = some (.nx, [.val (.int f), .val (tupI cs), .val (.int m), .own (alD f cs [] 1), .own [], .un, .un]) := fun c => by
    rw [a0]; simp [runB, start, ob, bd, bz, bt, ex, evo, evm, isVar, ev, evs, evi, rd, frz, truth, isiT, isNon, idx2, slotD, slotL, putL, put, puts, bindT, blt1, blt2, op2, rdr, prt, cnd, isNil, outV, endR, wipe, back, partD, slice3, ix0, ix1, ix2, ix3, ints_map, augO, isI, okL, items_tupI, seq_tupI, items_tabD, seq_tabD, items_list, seq_list]
  have ef : ∀ c : FT, ex c (.for_ (.one 5) (.rng1 (.var 2)) plB) [.val (.int f), .val (tupI cs), .val (.int m), .own (alD f cs [] 1), .own [], .un, .un] = forL (fun x ρ2 => ob (bindT (.one 5) x ρ2) fun ρ3 => ex c plB ρ3) ((upto m).map .int) [.val (.int f), .val (tupI cs), .val (.int m), .own (alD f cs [] 1), .own [], .un, .un] := fun c =>
    ex_for (evi_rng1 (n := (m : Int)) rfl (rngOk_of (by omega) (by omega)))
  refine ⟨v, h1, h2, h3, by rcases h4 with ⟨z, _⟩ | ⟨_, z, _⟩ <;> simp [z], run_eq [.val (.int f), .val (tupI cs), .val (.int m), .un, .un, .un, .un] look_47 rfl (wx_seq (s1 _) ?_)⟩
  rcases h4 with ⟨_, t', s', e⟩ | ⟨_, _, ρ', e⟩
  · obtain ⟨ρ', e2⟩ := play_ret (run TB.fn (k + 2)) (f := f) (cs := cs) (v := v) (m := .int m) (t := t') (s := s')
    exact wx_seq ((ef _).trans e) ⟨_, _, e2, rfl, rfl⟩
  · exact wx_seqR (v := .val (plV f cs v)) ((ef _).trans e) ⟨rfl, rfl⟩

theorem minI_nn : ∀ (r : List Int) (x : Int), 0 ≤ minI x r ↔ 0 ≤ x ∧ ∀ y ∈ r, 0 ≤ y
  | [], x => by simp [minI]
  | y :: r, x => by
    unfold minI
    rw [minI_nn r]
    by_cases h : y < x
    · rw [if_pos h]
      constructor
      · rintro ⟨a, b⟩; exact ⟨by omega, fun z hz => by rcases List.mem_cons.mp hz with rfl | hz; exact a; exact b z hz⟩
      · rintro ⟨a, b⟩; exact ⟨b y (by simp), fun z hz => b z (by simp [hz])⟩
    · rw [if_neg h]
      constructor
      · rintro ⟨a, b⟩; exact ⟨a, fun z hz => by rcases List.mem_cons.mp hz with rfl | hz; omega; exact b z hz⟩
      · rintro ⟨a, b⟩; exact ⟨a, fun z hz => b z (by simp [hz])⟩
theorem all_at {X : List Int} : (∀ y ∈ X, 0 ≤ y) ↔ ∀ k : Int, 0 ≤ k → k < X.length → 0 ≤ at_ X k := by
  refine ⟨fun h k k0 k1 => h _ (at_mem k0 k1), fun h y hy => ?_⟩
  obtain ⟨i, hi⟩ := List.mem_iff_getElem?.mp hy
  have il := (List.getElem?_eq_some_iff.mp hi).1
  have := h i (by omega) (by omega)
  unfold at_ at this
  rw [Int.toNat_natCast, List.getD_eq_getElem?_getD, hi] at this
  exact this
theorem rep_d (d : D) : ∀ n : Nat, repD [d] n = List.replicate n d
  | 0 => rfl
  | n + 1 => by
    have := rep_d d n
    unfold repD at this ⊢
    rw [List.replicate_succ, List.flatten_cons, this, List.replicate_succ]
    rfl
theorem mul_repD (d : D) {p : Int} (p0 : 0 ≤ p) (p1 : p < 1000) : op2 .mul (.list [d]) (.int p) = some (.own (List.replicate p.toNat d)) := by
  rw [← rep_d]
  have h1 : okL (([d]).length * p.toNat) = true := by unfold okL; apply decide_eq_true; simp; omega
  unfold op2
  simp only
  rw [h1, decide_eq_true (show p < 1000000 by omega), decide_eq_true (show -1000000 < p by omega)]
  rfl
/-- a list told by its places -/
def FL (n : Nat) (g : Int → Option Nat) : List D := (upto n).map fun k => optN (g k)
theorem FL_len (n : Nat) (g : Int → Option Nat) : (FL n g).length = n := by simp [FL, upto_length]
theorem FL_ix {n : Nat} {g : Int → Option Nat} {k : Int} (k0 : 0 ≤ k) (k1 : k < n) : ixD (FL n g) k = some (optN (g k)) := by
  refine ixD_of k0 ?_
  unfold FL
  rw [List.getElem?_map, upto_get (by omega)]
  show some (optN (g (k.toNat : Nat))) = _
  rw [Int.toNat_of_nonneg k0]
theorem FL_set {n : Nat} {g : Int → Option Nat} {k : Int} (v : Option Nat) (k0 : 0 ≤ k) (k1 : k < n) : (FL n g).set k.toNat (optN v) = FL n (fun i => if i = k then v else g i) := by
  apply List.ext_getElem?
  intro i
  unfold FL
  by_cases h : k.toNat = i
  · subst h
    rw [List.getElem?_set_self (by simp [upto_length]; omega), List.getElem?_map, upto_get (by omega)]
    show _ = some (optN (if ((k.toNat : Nat) : Int) = k then v else g (k.toNat : Nat)))
    rw [if_pos (by omega)]
  · rw [List.getElem?_set_ne h, List.getElem?_map, List.getElem?_map]
    by_cases hi : i < n
    · rw [upto_get hi]
      show some (optN (g i)) = some (optN (if (i : Int) = k then v else g i))
      rw [if_neg (by omega)]
    · rw [List.getElem?_eq_none (by rw [upto_length]; omega)]; rfl
theorem FL_congr {n : Nat} {g g' : Int → Option Nat} (h : ∀ k : Int, 0 ≤ k → k < n → g k = g' k) : FL n g = FL n g' := by
  unfold FL
  apply List.map_congr_left
  intro k hk
  obtain ⟨k0, k1⟩ := mem_upto.mp hk
  rw [h k k0 k1]
def nextG (X : List Int) (g : Int → Option Nat) (t : Nat) (k : Int) : Option Nat := match g k with
  | some s => some s
  | none => if at_ X k < 0 then some t else none
def drR (f : Int) (cs w : List Int) (g : Int → Option Nat) (X : List Int) (t p k o : SV) : Rho := [.val (tabD f cs), .val (tupI w), .own (FL cs.length g), .val (tupI X), t, p, k, o]
theorem debt_inner (c : FT) {f : Int} {cs w X : List Int} {g : Int → Option Nat} {j : Nat} {p k0 o0 : SV} (lx : X.length = cs.length) (l6 : cs.length ≤ 6) (ck : cold k0) (co : cold o0) :
    ∃ k' o', cold k' ∧ cold o' ∧ ex c (.for_ (.many [6, 7]) (.enum (.var 3)) (.seq (.ite (.and (.cmp .lt (.var 7) (.int 0)) (.isn (.idx (.var 2) (.var 6)))) (.seq (.seti 2 (.var 6) (.op .add (.var 4) (.int 1))) .skip) .skip) .skip)) (drR f cs w g X (.val (.int j)) p k0 o0) =
      some (.nx, drR f cs w (nextG X g (j + 1)) X (.val (.int j)) p k' o') := by
  obtain ⟨ρ', e, k', o', rfl, ck', co'⟩ := wx_for (c := c) (t := .many [6, 7]) (it := .enum (.var 3)) (b := (.seq (.ite (.and (.cmp .lt (.var 7) (.int 0)) (.isn (.idx (.var 2) (.var 6)))) (.seq (.seti 2 (.var 6) (.op .add (.var 4) (.int 1))) .skip) .skip) .skip))
    (ρ := drR f cs w g X (.val (.int j)) p k0 o0) (ρ1 := drR f cs w g X (.val (.int j)) p k0 o0) (xs := enumD 0 (X.map .int)) (by simp [runB, start, ob, bd, bz, bt, ex, evo, evm, isVar, ev, evs, evi, rd, frz, truth, isiT, isNon, idx2, slotD, slotL, putL, put, puts, bindT, blt1, blt2, op2, rdr, prt, cnd, isNil, outV, endR, wipe, back, partD, slice3, ix0, ix1, ix2, ix3, ints_map, augO, isI, okL, items_tupI, seq_tupI, items_tabD, seq_tabD, items_list, seq_list, drR])
    (fun i ρ => ∃ k o, ρ = drR f cs w (fun z => if z < i then nextG X g (j + 1) z else g z) X (.val (.int j)) p k o ∧ cold k ∧ cold o)
    ⟨k0, o0, by unfold drR; rw [FL_congr (g' := g) fun z z0 z1 => if_neg (show ¬ z < ((0 : Nat) : Int) by omega)], ck, co⟩ (by
      rintro i x ρ hx ⟨k, o, rfl, ck, co⟩
      obtain ⟨one, rfl, ho⟩ := enum_int hx
      have il := (List.getElem?_eq_some_iff.mp ho).1
      have ao : at_ X (i : Int) = one := by
        unfold at_
        rw [Int.toNat_natCast, List.getD_eq_getElem?_getD, ho]; rfl
      have iln : (i : Int) < cs.length := by omega
      refine ⟨drR f cs w (fun z => if z < i then nextG X g (j + 1) z else g z) X (.val (.int j)) p (.val (.int i)) (.val (.int one)), by rcases ck with rfl | ⟨d, rfl⟩ <;> rcases co with rfl | ⟨d, rfl⟩ <;> rfl, ?_⟩
      have y := FL_ix (n := cs.length) (g := fun z => if z < (i : Int) then nextG X g (j + 1) z else g z) (k := (i : Int)) (by omega) iln
      rw [if_neg (by omega)] at y
      have st := FL_set (n := cs.length) (g := fun z => if z < (i : Int) then nextG X g (j + 1) z else g z) (k := (i : Int)) (some (j + 1)) (by omega) iln
      have fl := FL_len cs.length (fun z => if z < (i : Int) then nextG X g (j + 1) z else g z)
      have ix := ixN_at (n := cs.length) (k := (i : Int)) (by omega) iln
      refine ⟨.nx, drR f cs w (fun z => if z < ((i + 1 : Nat) : Int) then nextG X g (j + 1) z else g z) X (.val (.int j)) p (.val (.int i)) (.val (.int one)), ?_, rfl, _, _, rfl, cold_val, cold_val⟩
      by_cases h1 : one < 0
      · cases hg : g (i : Int) with
        | none =>
          rw [hg] at y
          have e2 : FL cs.length (fun z => if z < ((i + 1 : Nat) : Int) then nextG X g (j + 1) z else g z) = FL cs.length (fun z => if z = (i : Int) then some (j + 1) else if z < (i : Int) then nextG X g (j + 1) z else g z) := FL_congr fun z z0 z1 => by
            by_cases hz : z = (i : Int)
            · rw [if_pos hz, if_pos (by omega), hz]
              unfold nextG
              rw [hg, ao]
              simp [h1]
            · rw [if_neg hz]
              by_cases hz2 : z < (i : Int)
              · rw [if_pos hz2, if_pos (by omega)]
              · rw [if_neg hz2, if_neg (by omega)]
          unfold drR
          rw [e2, ← st]
          generalize FL cs.length (fun z => if z < (i : Int) then nextG X g (j + 1) z else g z) = Z at y fl
          have y' : ixD Z (i : Int) = some .none := y
          have on : optN (some (j + 1)) = .int ((j : Int) + 1) := by show PyData.int ((j + 1 : Nat) : Int) = _; simp
          rw [on]
          simp [runB, start, ob, bd, bz, bt, ex, evo, evm, isVar, ev, evs, evi, rd, frz, truth, isiT, isNon, idx2, slotD, slotL, putL, put, puts, bindT, blt1, blt2, op2, rdr, prt, cnd, isNil, outV, endR, wipe, back, partD, slice3, ix0, ix1, ix2, ix3, ints_map, augO, isI, okL, items_tupI, seq_tupI, items_tabD, seq_tabD, items_list, seq_list, cmp2, h1, y', fl, ix]
        | some s =>
          rw [hg] at y
          have e2 : FL cs.length (fun z => if z < ((i + 1 : Nat) : Int) then nextG X g (j + 1) z else g z) = FL cs.length (fun z => if z < (i : Int) then nextG X g (j + 1) z else g z) := FL_congr fun z z0 z1 => by
            by_cases hz : z = (i : Int)
            · rw [if_pos (by omega), if_neg (by omega), hz]
              unfold nextG
              rw [hg]
            · by_cases hz2 : z < (i : Int)
              · rw [if_pos hz2, if_pos (by omega)]
              · rw [if_neg hz2, if_neg (by omega)]
          unfold drR
          rw [e2]
          generalize FL cs.length (fun z => if z < (i : Int) then nextG X g (j + 1) z else g z) = Z at y fl
          have y' : ixD Z (i : Int) = some (.int (s : Nat)) := y
          simp [runB, start, ob, bd, bz, bt, ex, evo, evm, isVar, ev, evs, evi, rd, frz, truth, isiT, isNon, idx2, slotD, slotL, putL, put, puts, bindT, blt1, blt2, op2, rdr, prt, cnd, isNil, outV, endR, wipe, back, partD, slice3, ix0, ix1, ix2, ix3, ints_map, augO, isI, okL, items_tupI, seq_tupI, items_tabD, seq_tabD, items_list, seq_list, cmp2, h1, y']
      · have e2 : FL cs.length (fun z => if z < ((i + 1 : Nat) : Int) then nextG X g (j + 1) z else g z) = FL cs.length (fun z => if z < (i : Int) then nextG X g (j + 1) z else g z) := FL_congr fun z z0 z1 => by
          by_cases hz : z = (i : Int)
          · rw [if_pos (by omega), if_neg (by omega), hz]
            unfold nextG
            rw [ao, if_neg h1]
            cases g (i : Int) <;> rfl
          · by_cases hz2 : z < (i : Int)
            · rw [if_pos hz2, if_pos (by omega)]
            · rw [if_neg hz2, if_neg (by omega)]
        unfold drR
        rw [e2]
        generalize FL cs.length (fun z => if z < (i : Int) then nextG X g (j + 1) z else g z) = Z at y fl
        simp [runB, start, ob, bd, bz, bt, ex, evo, evm, isVar, ev, evs, evi, rd, frz, truth, isiT, isNon, idx2, slotD, slotL, putL, put, puts, bindT, blt1, blt2, op2, rdr, prt, cnd, isNil, outV, endR, wipe, back, partD, slice3, ix0, ix1, ix2, ix3, ints_map, augO, isI, okL, items_tupI, seq_tupI, items_tabD, seq_tabD, items_list, seq_list, cmp2, h1])
  refine ⟨k', o', ck', co', ?_⟩
  rw [enumD_length, List.length_map, lx] at e
  unfold drR at e ⊢
  rw [FL_congr (g' := nextG X g (j + 1)) fun z z0 z1 => if_pos z1] at e
  exact e
theorem evi_rng2 {c : FT} {e e' : E} {ρ ρ1 ρ2 : Rho} {n m : Int} (h : ev c e ρ = some (.val (.int n), ρ1)) (h' : ev c e' ρ1 = some (.val (.int m), ρ2)) (hr : rngOk n = true) (hr' : rngOk m = true) : evi c (.rng2 e e') ρ = some (rngD n m, ρ2) := by
  show bz (ev c e ρ) _ = _
  rw [h]
  show bz (ev c e' ρ1) _ = _
  rw [h']
  show (if (rngOk n && rngOk m) = true then _ else _) = _
  rw [if_pos (by rw [hr, hr']; rfl)]
theorem ev_lrng {c : FT} {it : E} {ρ ρ1 : Rho} {ds : List D} (h : evi c it ρ = some (ds, ρ1)) (l : ds.length < 16777216) : ev c (.lrng it) ρ = some (.own ds, ρ1) := by
  show bd (evi c it ρ) _ = _
  rw [h]
  show (if okL ds.length = true then _ else _) = _
  rw [if_pos (by simp [okL, l])]
theorem alike_none (k : Nat) : run TB.fn (k + 1) 17 none [.none, .none] = some (.val (.bool true), []) := by
  rw [run_succ look_17]
  have h : shp .none = true := by rfl
  simp [runB, start, ob, bd, bz, bt, ex, evo, evm, isVar, ev, evs, evi, rd, frz, truth, isiT, isNon, cmp2, idx2, itemsD, seqD, slotD, slotL, putL, put, puts, bindT, blt1, blt2, op2, rdr, prt, cnd, isNil, outV, endR, wipe, back, partD, slice3, ix0, ix1, ix2, ix3, ints_map, augO, isI, okL, tupI, tabD, fn_17, shp_bool, eqv_bool, h, PyData.eqv]
theorem alike_bool (k : Nat) (b : Bool) : run TB.fn (k + 1) 17 none [.bool b, .bool b] = some (.val (.bool true), []) := by
  rw [run_succ look_17]
  simp [runB, start, ob, bd, bz, bt, ex, evo, evm, isVar, ev, evs, evi, rd, frz, truth, isiT, isNon, cmp2, idx2, itemsD, seqD, slotD, slotL, putL, put, puts, bindT, blt1, blt2, op2, rdr, prt, cnd, isNil, outV, endR, wipe, back, partD, slice3, ix0, ix1, ix2, ix3, ints_map, augO, isI, okL, tupI, tabD, fn_17, shp_bool, eqv_bool]
theorem alD_ix {f : Int} {cs w : List Int} {n : Nat} {t : Int} (t0 : 0 ≤ t) (t1 : t < n) : ixD (alD f cs w n) t = some (tupI (A_ f cs w t.toNat)) := by
  refine ixD_of t0 ?_
  unfold alD
  rw [List.getElem?_map, List.getElem?_range (by omega)]
  rfl
theorem bt_T {β : Type} {r : Rho} {f : Bool → Rho → Option β} : bt (some (.val (.bool true), r)) f = f true r := rfl
theorem cat_tups (a b : List Int) (h : a.length + b.length < 1000000) : op2 .add (tupI a) (tupI b) = some (.val (tupI (a ++ b))) := by
  unfold op2 tupI
  simp only
  rw [if_pos (by unfold okL; apply decide_eq_true; simp; omega), List.map_append]
theorem k4_good (c : FT) {s0 : D} {r : List D} {f : Int} {cs w : List Int} {s6 k9 ow : SV} {Z Y : List D} {X P : Int → List Int} (hl : w.length < 1000) (zl : Z.length = w.length + 1) (y : ∀ t : Int, 0 ≤ t → t < w.length → ixD Z t = some (tupI (X t))) (q : ∀ t : Int, c 16 none [.int f, tupI (X t)] = some (.own ((P t).map .int), [])) :
    ev c (.cmp .eq (.comp (.var 12) (.rng1 (.blt1 .len (.var 5))) (.one 12) (.cmp .notin (.idx (.var 5) (.var 12)) (.call 16 (.cons (.var 3) (.cons (.idx (.var 7) (.var 12)) .nil)))) [12]) (.lst .nil)) [.val s0, .own r, .val (tabD f cs), .val (.int f), .val (tupI cs), .val (tupI w), s6, .own Z, .own Y, k9, ow, .un, .un] =
      some (.val (.bool (decide ((upto w.length).filter (fun t => !decide (at_ w t ∈ P t)) = []))), [.val s0, .own r, .val (tabD f cs), .val (.int f), .val (tupI cs), .val (tupI w), s6, .own Z, .own Y, k9, ow, .un, .un]) := by
  refine ev_cmp (x := .list (((upto w.length).filter (fun t => !decide (at_ w t ∈ P t))).map .int)) (y := .list []) (sva := .own (((upto w.length).filter (fun t => !decide (at_ w t ∈ P t))).map .int)) (svb := .own []) (ρ1 := [.val s0, .own r, .val (tabD f cs), .val (.int f), .val (tupI cs), .val (tupI w), s6, .own Z, .own Y, k9, ow, .un, .un]) ?_ rfl ev_lst0 rfl (eq_ints_nil _)
  refine ev_comp (ρ1 := [.val s0, .own r, .val (tabD f cs), .val (.int f), .val (tupI cs), .val (tupI w), s6, .own Z, .own Y, k9, ow, .un, .un]) (xs := (upto w.length).map .int) (evi_rng1 (n := (w.length : Int)) (by simp [runB, start, ob, bd, bz, bt, ex, evo, evm, isVar, ev, evs, evi, rd, frz, truth, isiT, isNon, idx2, slotD, slotL, putL, put, puts, bindT, blt1, blt2, op2, rdr, prt, cnd, isNil, outV, endR, wipe, back, partD, slice3, ix0, ix1, ix2, ix3, ints_map, augO, isI, okL, items_tupI, seq_tupI, items_tabD, seq_tabD, items_list, seq_list]) (rngOk_of (by omega) (by omega))) (compL_filt (fun t => !decide (at_ w t ∈ P t)) .int fun t ht => ?_) (by rw [List.length_map]; have := List.length_filter_le (fun t => !decide (at_ w t ∈ P t)) (upto w.length); rw [upto_length] at this; omega)
  obtain ⟨t0, t1⟩ := mem_upto.mp ht
  have y1 := y t t0 t1
  have y2 := ixD_at (cs := w) t0 t1
  have q1 := q t
  have ni := notin_list (at_ w t) (P t)
  generalize P t = P1 at q1 ni ⊢
  generalize X t = X1 at y1 q1
  by_cases hx : at_ w t ∈ P1
  · rw [decide_eq_true hx] at ni
    simp [runB, start, ob, bd, bz, bt, ex, evo, evm, isVar, ev, evs, evi, rd, frz, truth, isiT, isNon, idx2, slotD, slotL, putL, put, puts, bindT, blt1, blt2, op2, rdr, prt, cnd, isNil, outV, endR, wipe, back, partD, slice3, ix0, ix1, ix2, ix3, ints_map, augO, isI, okL, items_tupI, seq_tupI, items_tabD, seq_tabD, items_list, seq_list, y1, y2, q1, ni, hx]
  · rw [decide_eq_false hx] at ni
    simp [runB, start, ob, bd, bz, bt, ex, evo, evm, isVar, ev, evs, evi, rd, frz, truth, isiT, isNon, idx2, slotD, slotL, putL, put, puts, bindT, blt1, blt2, op2, rdr, prt, cnd, isNil, outV, endR, wipe, back, partD, slice3, ix0, ix1, ix2, ix3, ints_map, augO, isI, okL, items_tupI, seq_tupI, items_tabD, seq_tabD, items_list, seq_list, y1, y2, q1, ni, hx]

/-! words that are paid -/
def One (S : Int) (x : List Int) (q : Int) : Prop := (0 ≤ q ∧ q < x.length) ∧ ∀ k : Int, 0 ≤ k → k < x.length → at_ x k = if k = q then S else 0
theorem nodup_payL (f : Int) (x : List Int) : (payL f x).Nodup := by
  unfold payL upto
  exact (List.Pairwise.filter _ (List.Pairwise.map _ (fun a b (hab : a ≠ b) (e : Int.ofNat a = Int.ofNat b) => hab (Int.ofNat.inj e)) List.nodup_range))
theorem nodup_single {l : List Int} {q : Int} (nd : l.Nodup) (h : ∀ k, k ∈ l ↔ k = q) : l = [q] := by
  cases l with
  | nil => have := (h q).mpr rfl; simp at this
  | cons a r =>
    have ha : a = q := (h a).mp (by simp)
    cases r with
    | nil => rw [ha]
    | cons b r =>
      have hb : b = q := (h b).mp (by simp)
      rw [ha, hb] at nd
      simp at nd
theorem one_pay {f S q : Int} {x : List Int} (f2 : 2 ≤ f) (sp : 0 < S) (hs : x.sum = S) (h : One S x q) : payL f x = [q] := by
  obtain ⟨⟨q0, q1⟩, h⟩ := h
  refine nodup_single (nodup_payL f x) fun k => ?_
  rw [mem_payL, hs]
  constructor
  · rintro ⟨⟨k0, k1⟩, hk⟩
    rw [h k k0 k1] at hk
    by_cases e : k = q
    · exact e
    · rw [if_neg e] at hk
      have := Int.mul_pos (show 0 < f - 1 by omega) sp
      omega
  · rintro rfl
    refine ⟨⟨q0, q1⟩, ?_⟩
    rw [h k q0 q1, if_pos rfl, Int.sub_mul]
    omega
theorem one_owed {f S q : Int} {x : List Int} (hs : x.sum = S) (h : One S x q) : One S (owedL f x q) q := by
  obtain ⟨⟨q0, q1⟩, h⟩ := h
  refine ⟨⟨q0, by rw [owedL_length]; exact q1⟩, fun k k0 k1 => ?_⟩
  rw [owedL_length] at k1
  by_cases e : k = q
  · rw [e, owedL_at q0 q1, h q q0 q1, if_pos rfl, hs, Int.sub_mul]; omega
  · rw [owedL_ne q0 k0 k1 e, h k k0 k1, if_neg e, Int.mul_zero]
theorem two_one {S i j : Int} {x : List Int} (nn : ∀ c ∈ x, 0 ≤ c) (hs : x.sum = S) (h : payL 2 x = [i, j]) : One S (owedL 2 x i) j ∧ One S (owedL 2 x j) i := by
  have nd := nodup_payL 2 x
  rw [h] at nd
  have ij : i ≠ j := by simpa using nd
  obtain ⟨⟨i0, i1⟩, hi⟩ := mem_payL.mp (show i ∈ payL 2 x by rw [h]; simp)
  obtain ⟨⟨j0, j1⟩, hj⟩ := mem_payL.mp (show j ∈ payL 2 x by rw [h]; simp)
  obtain ⟨t1, t2⟩ := three_le nn i0 i1 j0 j1 ij
  rw [hs] at hi hj t1
  have o : ∀ k : Int, 0 ≤ k → k < x.length → k ≠ i → k ≠ j → at_ x k = 0 := fun k k0 k1 a b => by
    have := t2 k k0 k1 a b
    have := nn _ (at_mem k0 k1)
    rw [hs] at *
    omega
  refine ⟨⟨⟨j0, by rw [owedL_length]; exact j1⟩, fun k k0 k1 => ?_⟩, ⟨⟨i0, by rw [owedL_length]; exact i1⟩, fun k k0 k1 => ?_⟩⟩
  · rw [owedL_length] at k1
    by_cases e : k = i
    · rw [e, owedL_at i0 i1, if_neg ij, hs]; omega
    · rw [owedL_ne i0 k0 k1 e]
      by_cases e2 : k = j
      · rw [if_pos e2, e2]; omega
      · rw [if_neg e2, o k k0 k1 e e2]; rfl
  · rw [owedL_length] at k1
    by_cases e : k = j
    · rw [e, owedL_at j0 j1, if_neg (fun z => ij z.symm), hs]; omega
    · rw [owedL_ne j0 k0 k1 e]
      by_cases e2 : k = i
      · rw [if_pos e2, e2]; omega
      · rw [if_neg e2, o k k0 k1 e2 e]; rfl
def Gd (f : Int) (cs w : List Int) : Prop := ∀ (t : Nat) (p : Int), w[t]? = some p → p ∈ payL f (A_ f cs w t)
theorem gd_snoc {f : Int} {cs w : List Int} {p : Int} : Gd f cs (w ++ [p]) ↔ Gd f cs w ∧ p ∈ payL f (aft f cs w) := by
  constructor
  · intro g
    refine ⟨fun t z hz => ?_, ?_⟩
    · have tl := (List.getElem?_eq_some_iff.mp hz).1
      have := g t z (by rw [List.getElem?_append_left tl]; exact hz)
      rwa [A_app (by omega)] at this
    · have := g w.length p (by rw [List.getElem?_append_right (Nat.le_refl _)]; simp)
      rwa [A_app (Nat.le_refl _), A_all] at this
  · rintro ⟨g, hp⟩ t z hz
    by_cases ht : t < w.length
    · rw [List.getElem?_append_left ht] at hz
      rw [A_app (by omega)]
      exact g t z hz
    · rw [List.getElem?_append_right (by omega)] at hz
      have : t - w.length = 0 := by
        by_cases h0 : t - w.length = 0
        · exact h0
        · rw [List.getElem?_eq_none (by simp; omega)] at hz; cases hz
      rw [this] at hz
      have hz : p = z := by simpa using hz
      have et : t = w.length := by omega
      rw [et, A_app (Nat.le_refl _), A_all, ← hz]
      exact hp
def payW (f : Int) (cs : List Int) : Nat → List (List Int)
  | 0 => [[]]
  | m + 1 => (payW f cs m).flatMap fun w => (payL f (aft f cs w)).map fun p => w ++ [p]
theorem payW_mem {f : Int} {cs : List Int} : ∀ {m : Nat} {w : List Int}, w ∈ payW f cs m → InW cs.length w ∧ w.length = m ∧ Gd f cs w
  | 0, w, h => by
    have : w = [] := by simpa [payW] using h
    subst this
    exact ⟨fun p hp => absurd hp (by simp), rfl, fun t p hp => by simp at hp⟩
  | m + 1, w, h => by
    unfold payW at h
    obtain ⟨v, hv, hw⟩ := List.mem_flatMap.mp h
    obtain ⟨p, hp, rfl⟩ := List.mem_map.mp hw
    obtain ⟨h1, h2, h3⟩ := payW_mem hv
    have pr := (mem_payL.mp hp).1
    rw [aft_len] at pr
    refine ⟨fun z hz => ?_, by rw [List.length_append, h2]; rfl, gd_snoc.mpr ⟨h3, hp⟩⟩
    rcases List.mem_append.mp hz with hz | hz
    · exact h1 z hz
    · have : z = p := by simpa using hz
      rw [this]; exact pr
theorem gd_nn {f : Int} {cs w : List Int} (h : Table f cs) (hw : InW cs.length w) (g : Gd f cs w) : ∀ c ∈ aft f cs w, 0 ≤ c := by
  rw [all_at, aft_len]
  exact (owe_iff h hw).1.mp g
def Iv (f : Int) (cs : List Int) (W : List (List Int)) : Prop := W = [] ∨ (∃ w, W = [w]) ∨ ∃ w v q r, W = [w, v] ∧ One cs.sum (aft f cs w) q ∧ One cs.sum (aft f cs v) r
theorem payW_iv {f : Int} {cs : List Int} (h : Table f cs) : ∀ m, Iv f cs (payW f cs m)
  | 0 => .inr (.inl ⟨[], rfl⟩)
  | m + 1 => by
    have mem := fun w hw => payW_mem (f := f) (cs := cs) (m := m) (w := w) hw
    rcases payW_iv h m with e | ⟨w, e⟩ | ⟨w, v, q, r, e, o1, o2⟩
    · left; unfold payW; rw [e]; rfl
    · obtain ⟨hw, _, g⟩ := mem w (by rw [e]; simp)
      have nn := gd_nn h hw g
      have sm := aft_sum (f := f) hw
      have eq : payW f cs (m + 1) = (payL f (aft f cs w)).map fun p => w ++ [p] := by
        show (payW f cs m).flatMap _ = _
        rw [e]; simp
      rw [eq]
      have two := fun h2 => two_payG (f := f) (cs := aft f cs w) h.f2 h.f9 nn (by rw [sm]; exact h.sum_pos) h2
      have rng : ∀ p ∈ payL f (aft f cs w), 0 ≤ p ∧ p < cs.length := fun p hp => by have := (mem_payL.mp hp).1; rwa [aft_len] at this
      cases hP : payL f (aft f cs w) with
      | nil => left; rfl
      | cons i r =>
        cases r with
        | nil => right; left; exact ⟨_, rfl⟩
        | cons j r =>
          obtain ⟨rfl, l2, _⟩ := two (by rw [hP]; simp)
          rw [hP] at l2
          have : r = [] := by simpa using l2
          subst this
          obtain ⟨oi, oj⟩ := two_one nn sm hP
          obtain ⟨i0, i1⟩ := rng i (by rw [hP]; simp)
          obtain ⟨j0, j1⟩ := rng j (by rw [hP]; simp)
          right; right
          exact ⟨w ++ [i], w ++ [j], j, i, rfl, by rw [aft_snoc hw i0 i1]; exact oi, by rw [aft_snoc hw j0 j1]; exact oj⟩
    · obtain ⟨hw, _, g⟩ := mem w (by rw [e]; simp)
      obtain ⟨hv, _, g2⟩ := mem v (by rw [e]; simp)
      have p1 := one_pay h.f2 h.sum_pos (aft_sum (f := f) hw) o1
      have p2 := one_pay h.f2 h.sum_pos (aft_sum (f := f) hv) o2
      have eq : payW f cs (m + 1) = [w ++ [q], v ++ [r]] := by
        show (payW f cs m).flatMap _ = _
        rw [e]; simp [p1, p2]
      obtain ⟨⟨q0, q1⟩, _⟩ := id o1
      obtain ⟨⟨r0, r1⟩, _⟩ := id o2
      rw [aft_len] at q1 r1
      right; right
      exact ⟨w ++ [q], v ++ [r], q, r, eq, by rw [aft_snoc hw q0 q1]; exact one_owed (aft_sum (f := f) hw) o1, by rw [aft_snoc hv r0 r1]; exact one_owed (aft_sum (f := f) hv) o2⟩
theorem payW_le {f : Int} {cs : List Int} (h : Table f cs) (m : Nat) : (payW f cs m).length ≤ 2 := by
  rcases payW_iv h m with e | ⟨w, e⟩ | ⟨w, v, q, r, e, _, _⟩ <;> rw [e] <;> simp
/-! the first of them is the play -/
theorem payW_head {f : Int} {cs v : List Int} (pw : Pw f cs v) : ∀ j, j ≤ v.length → (payW f cs j).head? = some (v.take j)
  | 0, _ => by simp [payW]
  | j + 1, hj => by
    have ih := payW_head pw j (by omega)
    have hp := List.getElem?_eq_getElem (show j < v.length by omega)
    have h1 := pw j _ hp
    unfold payW
    cases e : payW f cs j with
    | nil => rw [e] at ih; cases ih
    | cons w r =>
      rw [e] at ih
      have ew : w = v.take j := by simpa using ih
      rw [List.flatMap_cons]
      have h2 : (payL f (aft f cs w)).head? = some v[j] := by rw [ew]; exact h1
      cases e2 : payL f (aft f cs w) with
      | nil => rw [e2] at h2; cases h2
      | cons p s =>
        rw [e2] at h2
        have ep : p = v[j] := by simpa using h2
        rw [List.take_add_one, hp, ew, ep]
        rfl
theorem payW_none {f : Int} {cs v : List Int} (h : Table f cs) (hv : InW cs.length v) (pw : Pw f cs v) (z : payL f (A_ f cs v v.length) = []) : ∀ d, payW f cs (v.length + 1 + d) = []
  | 0 => by
    have hd := payW_head pw v.length (Nat.le_refl _)
    rw [List.take_length] at hd
    rw [A_all] at z
    show (payW f cs v.length).flatMap _ = []
    rcases payW_iv h v.length with e | ⟨w, e⟩ | ⟨w, u, q, r, e, o1, o2⟩
    · rw [e] at hd; cases hd
    · rw [e] at hd
      have : w = v := by simpa using hd
      rw [e, this]; simp [z]
    · rw [e] at hd
      have : w = v := by simpa using hd
      have := one_pay h.f2 h.sum_pos (aft_sum (f := f) hv) (this ▸ o1)
      rw [z] at this; cases this
  | d + 1 => by
    show (payW f cs (v.length + 1 + d)).flatMap _ = []
    rw [payW_none h hv pw z d]; rfl
/-! all words -/
def gB (f : Int) (cs w : List Int) : Bool := decide ((upto w.length).filter (fun t => !decide (at_ w t ∈ payL f (A_ f cs w t.toNat))) = [])
theorem gB_iff {f : Int} {cs w : List Int} : gB f cs w = true ↔ Gd f cs w := by
  unfold gB Gd
  rw [decide_eq_true_eq, List.filter_eq_nil_iff]
  constructor
  · intro g t p hp
    have tl := (List.getElem?_eq_some_iff.mp hp).1
    have := g (t : Int) (mem_upto.mpr ⟨by omega, by omega⟩)
    have a : at_ w (t : Int) = p := by
      unfold at_
      rw [Int.toNat_natCast, List.getD_eq_getElem?_getD, hp]; rfl
    rw [a, Int.toNat_natCast] at this
    simpa using this
  · intro g t ht
    obtain ⟨t0, t1⟩ := mem_upto.mp ht
    have := g t.toNat _ (at_some t0 t1)
    simpa using this
def allW (n : Nat) : Nat → List (List Int)
  | 0 => [[]]
  | m + 1 => (allW n m).flatMap fun w => (upto n).map fun p => w ++ [p]
theorem payW_all {f : Int} {cs : List Int} : ∀ m, (allW cs.length m).filter (gB f cs) = payW f cs m
  | 0 => by
    have : gB f cs [] = true := gB_iff.mpr fun t p hp => by simp at hp
    simp [allW, payW, this]
  | m + 1 => by
    show ((allW cs.length m).flatMap _).filter _ = (payW f cs m).flatMap _
    rw [← payW_all m]
    generalize allW cs.length m = W
    induction W with
    | nil => rfl
    | cons w W ih =>
      rw [List.flatMap_cons, List.filter_append, ih]
      have key : ((upto cs.length).map fun p => w ++ [p]).filter (gB f cs) = if gB f cs w = true then (payL f (aft f cs w)).map fun p => w ++ [p] else [] := by
        rw [List.filter_map]
        by_cases g : gB f cs w = true
        · rw [if_pos g]
          have pl : payL f (aft f cs w) = (upto cs.length).filter (gB f cs ∘ fun p => w ++ [p]) := by
            unfold payL
            rw [aft_len]
            apply List.filter_congr
            intro p hp
            have : p ∈ payL f (aft f cs w) ↔ isP f (aft f cs w) p = true := by
              unfold payL
              rw [List.mem_filter, aft_len]
              exact ⟨fun h => h.2, fun h => ⟨hp, h⟩⟩
            by_cases c : isP f (aft f cs w) p = true
            · rw [c]
              exact (gB_iff.mpr (gd_snoc.mpr ⟨gB_iff.mp g, this.mpr c⟩)).symm
            · have c2 : isP f (aft f cs w) p = false := by simpa using c
              rw [c2]
              cases e : gB f cs (w ++ [p]) with
              | false => exact e.symm
              | true => exact absurd (this.mp (gd_snoc.mp (gB_iff.mp e)).2) c
          rw [pl]
        · rw [if_neg g]
          have : (upto cs.length).filter (gB f cs ∘ fun p => w ++ [p]) = [] := by
            rw [List.filter_eq_nil_iff]
            intro p _ c
            exact g (gB_iff.mpr (gd_snoc.mp (gB_iff.mp c)).1)
          rw [this]; rfl
      rw [key]
      by_cases g : gB f cs w = true
      · rw [if_pos g, List.filter_cons_of_pos g, List.flatMap_cons]
      · rw [if_neg g, List.filter_cons_of_neg g]; rfl

/-- a row: a word, its coins -/
def rowW (f : Int) (cs w : List Int) : D := .tuple [tupI w, tupI (aft f cs w)]
def rowsD (f : Int) (cs : List Int) (W : List (List Int)) : List D := W.map (rowW f cs)
theorem rowsD_len (f : Int) (cs : List Int) (W : List (List Int)) : (rowsD f cs W).length = W.length := by simp [rowsD]
def piR (f : Int) (cs : List Int) (m : D) (rows t more w c p : SV) : Rho := [.val (tabD f cs), .val m, rows, t, more, w, c, p]
theorem pi_inner (c : FT) {f : Int} {cs w : List Int} {m : D} {rows t : SV} {M : List D} {p0 : SV} (cp : cold p0) (P : List Int) (hM : M.length < 1000) (hP : P.length < 1000) (hw : w.length < 1000)
    (q1 : c 7 none [.int f, tupI (aft f cs w)] = some (.own (P.map .int), [])) (q2 : ∀ p ∈ P, c 6 none [.int f, tupI (aft f cs w), .int p] = some (.val (tupI (aft f cs (w ++ [p]))), [])) :
    ∃ p', cold p' ∧ ex c (.for_ (.one 7) (.seq (.call 7 (.cons (.idx (.var 0) (.int 0)) (.cons (.var 6) .nil)))) (.seq (.app 4 (.tup (.cons (.op .add (.var 5) (.tup (.cons (.var 7) .nil))) (.cons (.call 6 (.cons (.idx (.var 0) (.int 0)) (.cons (.var 6) (.cons (.var 7) .nil)))) .nil)))) .skip)) (piR f cs m rows t (.own M) (.val (tupI w)) (.val (tupI (aft f cs w))) p0) =
      some (.nx, piR f cs m rows t (.own (M ++ rowsD f cs (P.map fun p => w ++ [p]))) (.val (tupI w)) (.val (tupI (aft f cs w))) p') := by
  have he : evi c (.seq (.call 7 (.cons (.idx (.var 0) (.int 0)) (.cons (.var 6) .nil)))) (piR f cs m rows t (.own M) (.val (tupI w)) (.val (tupI (aft f cs w))) p0) = some (P.map .int, piR f cs m rows t (.own M) (.val (tupI w)) (.val (tupI (aft f cs w))) p0) := by
    show bz (ev c (.call 7 (.cons (.idx (.var 0) (.int 0)) (.cons (.var 6) .nil))) _) _ = _
    rw [ev_call (ds := [.int f, tupI (aft f cs w)]) (ρ1 := piR f cs m rows t (.own M) (.val (tupI w)) (.val (tupI (aft f cs w))) p0) (by simp [runB, start, ob, bd, bz, bt, ex, evo, evm, isVar, ev, evs, evi, rd, frz, truth, isiT, isNon, idx2, slotD, slotL, putL, put, puts, bindT, blt1, blt2, op2, rdr, prt, cnd, isNil, outV, endR, wipe, back, partD, slice3, ix0, ix1, ix2, ix3, ints_map, augO, isI, okL, items_tupI, seq_tupI, items_tabD, seq_tabD, items_list, seq_list, piR]) q1]
    rfl
  obtain ⟨ρ', e, p', rfl, cp'⟩ := wx_for (c := c) (t := .one 7) (b := (.seq (.app 4 (.tup (.cons (.op .add (.var 5) (.tup (.cons (.var 7) .nil))) (.cons (.call 6 (.cons (.idx (.var 0) (.int 0)) (.cons (.var 6) (.cons (.var 7) .nil)))) .nil)))) .skip)) he
    (fun j ρ => ∃ p', ρ = piR f cs m rows t (.own (M ++ rowsD f cs ((P.take j).map fun p => w ++ [p]))) (.val (tupI w)) (.val (tupI (aft f cs w))) p' ∧ cold p')
    ⟨p0, by simp [rowsD], cp⟩ (by
      rintro j x ρ hx ⟨p', rfl, cp'⟩
      rw [List.getElem?_map] at hx
      cases hj : P[j]? with
      | none => rw [hj] at hx; cases hx
      | some p =>
        rw [hj] at hx
        cases hx
        have jl := (List.getElem?_eq_some_iff.mp hj).1
        have q := q2 p (List.mem_of_getElem? hj)
        refine ⟨piR f cs m rows t (.own (M ++ rowsD f cs ((P.take j).map fun p => w ++ [p]))) (.val (tupI w)) (.val (tupI (aft f cs w))) (.val (.int p)), by rcases cp' with rfl | ⟨d, rfl⟩ <;> rfl, ?_⟩
        refine ⟨.nx, piR f cs m rows t (.own (M ++ rowsD f cs ((P.take (j + 1)).map fun p => w ++ [p]))) (.val (tupI w)) (.val (tupI (aft f cs w))) (.val (.int p)), ?_, rfl, _, rfl, cold_val⟩
        have e2 : M ++ rowsD f cs ((P.take (j + 1)).map fun p => w ++ [p]) = (M ++ rowsD f cs ((P.take j).map fun p => w ++ [p])) ++ [rowW f cs (w ++ [p])] := by
          rw [List.take_add_one, hj]
          simp [rowsD]
        rw [e2]
        have zl : (M ++ rowsD f cs ((P.take j).map fun p => w ++ [p])).length < 16777216 := by
          rw [List.length_append, rowsD_len, List.length_map, List.length_take]; omega
        generalize M ++ rowsD f cs ((P.take j).map fun p => w ++ [p]) = Z at zl
        have ct := cat_tups w [p] (by simp; omega)
        refine (ex_seq (ex_app (ds0 := Z) rfl (sv := .val (rowW f cs (w ++ [p]))) (ρ1 := piR f cs m rows t (.own Z) (.val (tupI w)) (.val (tupI (aft f cs w))) (.val (.int p))) ?_ rfl (ds := Z) rfl zl rfl)).trans ex_skip
        unfold rowW piR
        generalize aft f cs w = A at q
        generalize aft f cs (w ++ [p]) = B at q
        have ct' : op2 .add (tupI w) (.tuple [.int p]) = some (.val (tupI (w ++ [p]))) := ct
        generalize tupI (w ++ [p]) = WP at ct'
        simp [ev, evs, bz, bd, ob, rd, frz, okL, isVar, slotD, idx2, items_tabD, ix0, ct', q])
  rw [List.length_map, List.take_length] at e
  exact ⟨p', cp', e⟩
theorem pi_rows (c : FT) {f : Int} {cs : List Int} {m : D} {t : SV} {W : List (List Int)} (lW : W.length ≤ 2) (L2 : (W.flatMap fun w => (payL f (aft f cs w)).map fun p => w ++ [p]).length ≤ 2) (hw : ∀ w ∈ W, w.length < 1000)
    (q1 : ∀ w ∈ W, c 7 none [.int f, tupI (aft f cs w)] = some (.own ((payL f (aft f cs w)).map .int), [])) (q2 : ∀ w ∈ W, ∀ p ∈ payL f (aft f cs w), c 6 none [.int f, tupI (aft f cs w), .int p] = some (.val (tupI (aft f cs (w ++ [p]))), []))
    {rows more sw sc sp : SV} (hr : rows = .own (rowsD f cs W) ∨ rows = .val (.list (rowsD f cs W))) (cm : cold more) (c1 : cold sw) (c2 : cold sc) (c3 : cold sp) :
    ∃ sw' sc' sp' more', cold sw' ∧ cold sc' ∧ cold sp' ∧ cold more' ∧ ex c (.seq (.set 4 (.lst .nil))
    (.seq (.for_ (.many [5, 6]) (.seq (.var 2)) (.seq (.for_ (.one 7) (.seq (.call 7 (.cons (.idx (.var 0) (.int 0)) (.cons (.var 6) .nil)))) (.seq (.app 4 (.tup (.cons (.op .add (.var 5) (.tup (.cons (.var 7) .nil))) (.cons (.call 6 (.cons (.idx (.var 0) (.int 0)) (.cons (.var 6) (.cons (.var 7) .nil)))) .nil))))
    .skip))
    .skip))
    (.seq (.set 2 (.var 4))
    .skip))) (piR f cs m rows t more sw sc sp) = some (.nx, piR f cs m (.val (.list (rowsD f cs (W.flatMap fun w => (payL f (aft f cs w)).map fun p => w ++ [p])))) t more' sw' sc' sp') := by
  have s1 : ex c (.set 4 (.lst .nil)) (piR f cs m rows t more sw sc sp) = some (.nx, piR f cs m rows t (.own []) sw sc sp) := by
    refine ex_set (v := .own []) (ρ1 := piR f cs m rows t more sw sc sp) ev_lst0 (by rcases cm with rfl | ⟨d, rfl⟩ <;> rfl)
  have he : evi c (.seq (.var 2)) (piR f cs m rows t (.own []) sw sc sp) = some (rowsD f cs W, piR f cs m (.val (.list (rowsD f cs W))) t (.own []) sw sc sp) := by
    generalize rowsD f cs W = Z at hr
    rcases hr with rfl | rfl <;> simp [runB, start, ob, bd, bz, bt, ex, evo, evm, isVar, ev, evs, evi, rd, frz, truth, isiT, isNon, idx2, slotD, slotL, putL, put, puts, bindT, blt1, blt2, op2, rdr, prt, cnd, isNil, outV, endR, wipe, back, partD, slice3, ix0, ix1, ix2, ix3, ints_map, augO, isI, okL, items_tupI, seq_tupI, items_tabD, seq_tabD, items_list, seq_list, piR]
  have fl : ∀ j, ((W.take j).flatMap fun w => (payL f (aft f cs w)).map fun p => w ++ [p]).length ≤ 2 := fun j => by
    have : (W.flatMap fun w => (payL f (aft f cs w)).map fun p => w ++ [p]) = ((W.take j).flatMap fun w => (payL f (aft f cs w)).map fun p => w ++ [p]) ++ ((W.drop j).flatMap fun w => (payL f (aft f cs w)).map fun p => w ++ [p]) := by rw [← List.flatMap_append, List.take_append_drop]
    rw [this, List.length_append] at L2
    omega
  obtain ⟨ρ', e, sw', sc', sp', rfl, c1', c2', c3'⟩ := wx_for (c := c) (t := .many [5, 6]) (b := (.seq (.for_ (.one 7) (.seq (.call 7 (.cons (.idx (.var 0) (.int 0)) (.cons (.var 6) .nil)))) (.seq (.app 4 (.tup (.cons (.op .add (.var 5) (.tup (.cons (.var 7) .nil))) (.cons (.call 6 (.cons (.idx (.var 0) (.int 0)) (.cons (.var 6) (.cons (.var 7) .nil)))) .nil))))
    .skip))
    .skip)) he
    (fun j ρ => ∃ sw sc sp, ρ = piR f cs m (.val (.list (rowsD f cs W))) t (.own (rowsD f cs ((W.take j).flatMap fun w => (payL f (aft f cs w)).map fun p => w ++ [p]))) sw sc sp ∧ cold sw ∧ cold sc ∧ cold sp)
    ⟨sw, sc, sp, by simp [rowsD], c1, c2, c3⟩ (by
      rintro j x ρ hx ⟨sw, sc, sp, rfl, c1, c2, c3⟩
      unfold rowsD at hx
      rw [List.getElem?_map] at hx
      cases hj : W[j]? with
      | none => rw [hj] at hx; cases hx
      | some w =>
        rw [hj] at hx
        cases hx
        have wm := List.mem_of_getElem? hj
        have pl := payL_le f (aft f cs w)
        obtain ⟨p', cp', e⟩ := pi_inner c (f := f) (cs := cs) (w := w) (m := m) (rows := .val (.list (rowsD f cs W))) (t := t) (M := rowsD f cs ((W.take j).flatMap fun w => (payL f (aft f cs w)).map fun p => w ++ [p])) (p0 := sp) c3 (payL f (aft f cs w)) (by rw [rowsD_len]; have := fl j; omega) (by
          have := fl (j + 1)
          rw [List.take_add_one, hj, List.flatMap_append, List.length_append] at this
          simp at this
          omega) (hw w wm) (q1 w wm) (q2 w wm)
        refine ⟨piR f cs m (.val (.list (rowsD f cs W))) t (.own (rowsD f cs ((W.take j).flatMap fun w => (payL f (aft f cs w)).map fun p => w ++ [p]))) (.val (tupI w)) (.val (tupI (aft f cs w))) sp, by rcases c1 with rfl | ⟨d, rfl⟩ <;> rcases c2 with rfl | ⟨d, rfl⟩ <;> rfl, ?_⟩
        refine wx_seq e (wx_skip ⟨rfl, .val (tupI w), .val (tupI (aft f cs w)), p', ?_, cold_val, cold_val, cp'⟩)
        rw [List.take_add_one, hj, List.flatMap_append]
        simp [rowsD])
  rw [rowsD_len, List.take_length] at e
  refine ⟨sw', sc', sp', .val (.list (rowsD f cs (W.flatMap fun w => (payL f (aft f cs w)).map fun p => w ++ [p]))), c1', c2', c3', cold_val, (ex_seq s1).trans ((ex_seq e).trans ((ex_seq ?_).trans ex_skip))⟩
  generalize rowsD f cs (W.flatMap fun w => (payL f (aft f cs w)).map fun p => w ++ [p]) = Y
  generalize rowsD f cs W = Z
  simp [runB, start, ob, bd, bz, bt, ex, evo, evm, isVar, ev, evs, evi, rd, frz, truth, isiT, isNon, idx2, slotD, slotL, putL, put, puts, bindT, blt1, blt2, op2, rdr, prt, cnd, isNil, outV, endR, wipe, back, partD, slice3, ix0, ix1, ix2, ix3, ints_map, augO, isI, okL, items_tupI, seq_tupI, items_tabD, seq_tabD, items_list, seq_list, piR]
def rowFst : D → D
  | .tuple [d, _] => d
  | _ => .none
def wordsD (W : List (List Int)) : List D := W.map tupI
theorem payable_body (c : FT) {f : Int} {cs : List Int} {m : Nat} (h : Table f cs) (hm : m ≤ 40) (q : ∀ w : List Int, InW cs.length w → w.length ≤ 40 → c 7 none [.int f, tupI (aft f cs w)] = some (.own ((payL f (aft f cs w)).map .int), []) ∧ ∀ p ∈ payL f (aft f cs w), c 6 none [.int f, tupI (aft f cs w), .int p] = some (.val (tupI (aft f cs (w ++ [p]))), [])) :
    Wx (ex c fn_37.body [.val (tabD f cs), .val (.int m), .un, .un, .un, .un, .un, .un]) fun o ρ' => outV o = some (.own (wordsD (payW f cs m))) ∧ endR fn_37.io ρ' = some [] := by
  have a0 : rowsD f cs [[]] = [.tuple [.tuple [], tupI cs]] := by unfold rowsD rowW; rw [List.map_singleton, aft_nil]; rfl
  refine wx_seq (ρ1 := piR f cs (.int m) (.own (rowsD f cs (payW f cs 0))) .un .un .un .un .un) (by
    show _ = some (Out.nx, piR f cs (.int m) (.own (rowsD f cs [[]])) .un .un .un .un .un)
    rw [a0]; simp [runB, start, ob, bd, bz, bt, ex, evo, evm, isVar, ev, evs, evi, rd, frz, truth, isiT, isNon, idx2, slotD, slotL, putL, put, puts, bindT, blt1, blt2, op2, rdr, prt, cnd, isNil, outV, endR, wipe, back, partD, slice3, ix0, ix1, ix2, ix3, ints_map, augO, isI, okL, items_tupI, seq_tupI, items_tabD, seq_tabD, items_list, seq_list, piR]) ?_
  have he : evi c (.rng1 (.var 1)) (piR f cs (.int m) (.own (rowsD f cs (payW f cs 0))) .un .un .un .un .un) = some ((upto m).map .int, piR f cs (.int m) (.own (rowsD f cs (payW f cs 0))) .un .un .un .un .un) := evi_rng1 (n := (m : Int)) rfl (rngOk_of (by omega) (by omega))
  obtain ⟨ρ', e, rows, t, more, sw, sc, sp, rfl, hr, ct, cm, c1, c2, c3⟩ := wx_for (c := c) (t := .one 3) (b := (.seq (.set 4 (.lst .nil))
    (.seq (.for_ (.many [5, 6]) (.seq (.var 2)) (.seq (.for_ (.one 7) (.seq (.call 7 (.cons (.idx (.var 0) (.int 0)) (.cons (.var 6) .nil)))) (.seq (.app 4 (.tup (.cons (.op .add (.var 5) (.tup (.cons (.var 7) .nil))) (.cons (.call 6 (.cons (.idx (.var 0) (.int 0)) (.cons (.var 6) (.cons (.var 7) .nil)))) .nil))))
    .skip))
    .skip))
    (.seq (.set 2 (.var 4))
    .skip)))) he
    (fun j ρ => ∃ rows t more sw sc sp, ρ = piR f cs (.int m) rows t more sw sc sp ∧ (rows = .own (rowsD f cs (payW f cs j)) ∨ rows = .val (.list (rowsD f cs (payW f cs j)))) ∧ cold t ∧ cold more ∧ cold sw ∧ cold sc ∧ cold sp)
    ⟨_, .un, .un, .un, .un, .un, rfl, .inl rfl, cold_un, cold_un, cold_un, cold_un, cold_un⟩ (by
      rintro j x ρ hx ⟨rows, t, more, sw, sc, sp, rfl, hr, ct, cm, c1, c2, c3⟩
      have hj : j < m := by
        have := (List.getElem?_eq_some_iff.mp hx).1
        simpa [upto_length] using this
      have mem := fun w hw => payW_mem (f := f) (cs := cs) (m := j) (w := w) hw
      obtain ⟨sw', sc', sp', more', d1, d2, d3, d4, e⟩ := pi_rows c (f := f) (cs := cs) (m := .int m) (t := .val x) (W := payW f cs j) (payW_le h j) (payW_le h (j + 1)) (fun w hw => by have := (mem w hw).2.1; omega) (fun w hw => (q w (mem w hw).1 (by have := (mem w hw).2.1; omega)).1) (fun w hw => (q w (mem w hw).1 (by have := (mem w hw).2.1; omega)).2) hr cm c1 c2 c3
      refine ⟨piR f cs (.int m) rows (.val x) more sw sc sp, by rcases ct with rfl | ⟨d, rfl⟩ <;> rfl, ?_⟩
      exact ⟨.nx, _, e, rfl, _, _, _, _, _, _, rfl, .inr rfl, cold_val, d4, d1, d2, d3⟩)
  rw [List.length_map, upto_length] at hr
  refine wx_seq e ?_
  have lp := payW_le h m
  refine wx_seqR (v := .own (wordsD (payW f cs m))) (ρ1 := piR f cs (.int m) (.val (.list (rowsD f cs (payW f cs m)))) t more sw sc sp) (ex_retE rfl ?_) ⟨rfl, rfl⟩
  have he2 : evi c (.seq (.var 2)) (piR f cs (.int m) rows t more sw sc sp) = some (rowsD f cs (payW f cs m), piR f cs (.int m) (.val (.list (rowsD f cs (payW f cs m)))) t more sw sc sp) := by
    generalize rowsD f cs (payW f cs m) = Z at hr
    rcases hr with rfl | rfl <;> simp [runB, start, ob, bd, bz, bt, ex, evo, evm, isVar, ev, evs, evi, rd, frz, truth, isiT, isNon, idx2, slotD, slotL, putL, put, puts, bindT, blt1, blt2, op2, rdr, prt, cnd, isNil, outV, endR, wipe, back, partD, slice3, ix0, ix1, ix2, ix3, ints_map, augO, isI, okL, items_tupI, seq_tupI, items_tabD, seq_tabD, items_list, seq_list, piR]
  have gm : (rowsD f cs (payW f cs m)).map rowFst = wordsD (payW f cs m) := by
    unfold rowsD wordsD
    rw [List.map_map]
    rfl
  rw [← gm]
  have := ev_comp (c := c) (el := .var 5) (cond := .nil) (t := .many [5, 6]) (vs := [5, 6]) (ys := (rowsD f cs (payW f cs m)).map rowFst) (ρ2 := wipe (piR f cs (.int m) (.val (.list (rowsD f cs (payW f cs m)))) t more sw sc sp) [5, 6]) he2 (compL_map rowFst fun x hx => by
    obtain ⟨w, _, rfl⟩ := List.mem_map.mp hx
    unfold rowW piR
    generalize rowsD f cs (payW f cs m) = Z
    generalize tupI (aft f cs w) = A
    generalize tupI w = B
    simp [runB, start, ob, bd, bz, bt, ex, evo, evm, isVar, ev, evs, evi, rd, frz, truth, isiT, isNon, idx2, slotD, slotL, putL, put, puts, bindT, blt1, blt2, op2, rdr, prt, cnd, isNil, outV, endR, wipe, back, partD, slice3, ix0, ix1, ix2, ix3, ints_map, augO, isI, okL, items_tupI, seq_tupI, items_tabD, seq_tabD, items_list, seq_list, rowFst]) (by rw [List.length_map, rowsD_len]; omega)
  rw [this]
  rfl

theorem payable_ok (k : Nat) {f : Int} {cs : List Int} {m : Nat} (h : Table f cs) (hm : m ≤ 40) : run TB.fn (k + 2) 37 none [tabD f cs, .int m] = some (.own (wordsD (payW f cs m)), []) :=
  run_eq [.val (tabD f cs), .val (.int m), .un, .un, .un, .un, .un, .un] look_37 rfl (payable_body _ h hm fun w hw hl => by
    have B := (aft_md h hw hl).bd
    refine ⟨payers_in_ok k (Table.bf h) B, fun p hp => ?_⟩
    obtain ⟨p0, p1⟩ := (mem_payL.mp hp).1
    rw [aft_len] at p1
    rw [aft_snoc hw p0 p1]
    exact owed_in_ok k (Table.bf h) B p0 (by rw [aft_len]; exact p1))
theorem lay_words : ∀ W : List (List Int), PyData.canLayAll0 (wordsD W) = true
  | [] => rfl
  | w :: r => by
    have := lay_words r
    have h := lay_ints w
    unfold wordsD at this ⊢
    rw [List.map_cons]
    simp [tupI, PyData.canLayAll0, PyData.canLay0, this, h]
theorem dep_words : ∀ W : List (List Int), PyData.depthAll (wordsD W) ≤ 3
  | [] => by simp [wordsD, PyData.depthAll]
  | w :: r => by
    have := dep_words r
    have h := dep_ints w
    unfold wordsD at this ⊢
    rw [List.map_cons]
    simp [tupI, PyData.depthAll, PyData.depth]
    omega
theorem shp_words (W : List (List Int)) : shp (.list (wordsD W)) = true := by
  have h1 := lay_words W
  have h2 := dep_words W
  simp [shp, SeqAt.shaped, PyData.canLay0, PyData.depth, h1]
  omega
theorem ne_words (W : List (List Int)) : cmp2 .ne (.list (wordsD W)) (.list []) = some (!decide (W = [])) := by
  have h := shp_words W
  have h2 : shp (.list []) = true := by rfl
  cases W with
  | nil => rfl
  | cons w r =>
    unfold wordsD at h ⊢
    rw [List.map_cons] at h ⊢
    simp [cmp2, h, h2, PyData.eqv, PyData.eqvAll]
theorem alike_lst (k : Nat) {ds : List D} (hl : ds.length < 1000000) (h : ∀ d ∈ ds, run TB.fn k 17 none [d, d] = some (.val (.bool true), [])) : run TB.fn (k + 1) 17 none [.list ds, .list ds] = some (.val (.bool true), []) := by
  refine run_eq [.val (.list ds), .val (.list ds), .un] look_17 rfl ?_
  refine wx_seqR (v := .val (.bool true)) (ρ1 := [.val (.list ds), .val (.list ds), .un]) ((ex_iteT (ρ1 := [.val (.list ds), .val (.list ds), .un]) (by simp [runB, start, ob, bd, bz, bt, ex, evo, evm, isVar, ev, evs, evi, rd, frz, truth, isiT, isNon, cmp2, idx2, itemsD, seqD, slotD, slotL, putL, put, puts, bindT, blt1, blt2, op2, rdr, prt, cnd, isNil, outV, endR, wipe, back, partD, slice3, ix0, ix1, ix2, ix3, ints_map, augO, isI, okL, tupI, tabD])).trans ?_) ⟨rfl, rfl⟩
  refine (ex_seq (ρ1 := [.val (.list ds), .val (.list ds), .un]) (by simp [runB, start, ob, bd, bz, bt, ex, evo, evm, isVar, ev, evs, evi, rd, frz, truth, isiT, isNon, cmp2, idx2, itemsD, seqD, slotD, slotL, putL, put, puts, bindT, blt1, blt2, op2, rdr, prt, cnd, isNil, outV, endR, wipe, back, partD, slice3, ix0, ix1, ix2, ix3, ints_map, augO, isI, okL, tupI, tabD, shp_bool, eqv_bool])).trans ?_
  refine (ex_seq (ρ1 := [.val (.list ds), .val (.list ds), .un]) (by simp [runB, start, ob, bd, bz, bt, ex, evo, evm, isVar, ev, evs, evi, rd, frz, truth, isiT, isNon, cmp2, idx2, itemsD, seqD, slotD, slotL, putL, put, puts, bindT, blt1, blt2, op2, rdr, prt, cnd, isNil, outV, endR, wipe, back, partD, slice3, ix0, ix1, ix2, ix3, ints_map, augO, isI, okL, tupI, tabD])).trans ?_
  refine ex_seqR (ex_retE rfl (ev_cmp (sva := .own []) (svb := .own []) (ρ1 := [.val (.list ds), .val (.list ds), .un]) ?_ rfl ev_lst0 rfl eq_nil))
  have := ev_comp (c := run TB.fn k) (el := .var 2) (cond := .not (.call 17 (.cons (.idx (.var 0) (.var 2)) (.cons (.idx (.var 1) (.var 2)) .nil)))) (t := .one 2) (vs := [2]) (ρ := [.val (.list ds), .val (.list ds), .un]) (ρ1 := [.val (.list ds), .val (.list ds), .un])
    (evi_rng1 (e := .blt1 .len (.var 1)) (n := (ds.length : Int)) (by simp [runB, start, ob, bd, bz, bt, ex, evo, evm, isVar, ev, evs, evi, rd, frz, truth, isiT, isNon, cmp2, idx2, itemsD, seqD, slotD, slotL, putL, put, puts, bindT, blt1, blt2, op2, rdr, prt, cnd, isNil, outV, endR, wipe, back, partD, slice3, ix0, ix1, ix2, ix3, ints_map, augO, isI, okL, tupI, tabD]) (rngOk_of (by omega) (by omega))) (compL_filt (fun _ => false) .int fun x hx => by
      obtain ⟨x0, x1⟩ := mem_upto.mp hx
      have x1 : x < ds.length := by simpa using x1
      obtain ⟨d, e1, m⟩ := ixD_in x0 x1
      simp [runB, start, ob, bd, bz, bt, ex, evo, evm, isVar, ev, evs, evi, rd, frz, truth, isiT, isNon, cmp2, idx2, itemsD, seqD, slotD, slotL, putL, put, puts, bindT, blt1, blt2, op2, rdr, prt, cnd, isNil, outV, endR, wipe, back, partD, slice3, ix0, ix1, ix2, ix3, ints_map, augO, isI, okL, tupI, tabD, e1, h d m]) (by rw [filter_no]; simp)
  rw [filter_no] at this
  exact this
theorem alike_words (k : Nat) {W : List (List Int)} (hW : W.length < 1000) (hw : ∀ w ∈ W, w.length < 1000) : run TB.fn (k + 3) 17 none [.list (wordsD W), .list (wordsD W)] = some (.val (.bool true), []) :=
  alike_lst (k + 2) (by unfold wordsD; rw [List.length_map]; omega) fun d hd => by
    unfold wordsD at hd
    obtain ⟨w, m, rfl⟩ := List.mem_map.mp hd
    exact alike_tupI k (by have := hw w m; omega)
theorem wordsD_app (a b : List (List Int)) : wordsD (a ++ b) = wordsD a ++ wordsD b := by simp [wordsD]
theorem wordsD_len (a : List (List Int)) : (wordsD a).length = a.length := by simp [wordsD]
theorem catD (a b : List D) (h : a.length + b.length < 1000000) : op2 .add (.list a) (.list b) = some (.own (a ++ b)) := by
  unfold op2
  simp only
  rw [if_pos (by unfold okL; apply decide_eq_true; omega)]
theorem all_mem {n : Nat} : ∀ {m : Nat} {w : List Int}, w ∈ allW n m → InW n w ∧ w.length = m
  | 0, w, h => by
    have : w = [] := by simpa [allW] using h
    subst this
    exact ⟨fun p hp => absurd hp (by simp), rfl⟩
  | m + 1, w, h => by
    unfold allW at h
    obtain ⟨v, hv, hw⟩ := List.mem_flatMap.mp h
    obtain ⟨p, hp, rfl⟩ := List.mem_map.mp hw
    obtain ⟨h1, h2⟩ := all_mem hv
    have pr := mem_upto.mp hp
    refine ⟨fun z hz => ?_, by rw [List.length_append, h2]; rfl⟩
    rcases List.mem_append.mp hz with hz | hz
    · exact h1 z hz
    · have : z = p := by simpa using hz
      rw [this]; exact pr
theorem all_len (n : Nat) : ∀ m : Nat, (allW n m).length = n ^ m
  | 0 => rfl
  | m + 1 => by
    unfold allW
    have key : ∀ W : List (List Int), (W.flatMap fun w => (upto n).map fun p => w ++ [p]).length = W.length * n := by
      intro W
      induction W with
      | nil => simp
      | cons w W ih => rw [List.flatMap_cons, List.length_append, ih, List.length_map, upto_length, List.length_cons, Nat.succ_mul]; omega
    rw [key, all_len n m, Nat.pow_succ]
def k6R (s0 : D) (r : List D) (f : Int) (cs : List Int) (many : D) (words turn more word due al good : SV) : Rho := [.val s0, .own r, .val (tabD f cs), .val (.int f), .val (tupI cs), .val many, words, turn, more, word, due, al, good, .un, .un, .un, .un, .un]
theorem ev_op {c : FT} {o : Op2} {a b : E} {ρ ρ1 ρ2 : Rho} {sva svb v : SV} {x y : D} (ha : ev c a ρ = some (sva, ρ1)) (za : frz sva = some x) (hb : ev c b ρ1 = some (svb, ρ2)) (zb : frz svb = some y) (e : op2 o x y = some v) : ev c (.op o a b) ρ = some (v, ρ2) := by
  show bz (ev c a ρ) _ = _
  rw [ha]
  unfold bz
  simp only [za, hb, zb, e, ob]
theorem k6_ext (c : FT) {s0 : D} {r : List D} {f : Int} {cs : List Int} {many : D} {W : List (List Int)} {n : Nat} {words turn more word due al good : SV} (hn : cs.length = n) (n6 : n ≤ 6) (hW : (W.flatMap fun w => (upto n).map fun p => w ++ [p]).length < 100000) (hw : ∀ w ∈ W, w.length < 1000)
    (hr : words = .own (wordsD W) ∨ words = .val (.list (wordsD W))) (cm : cold more) (cw : cold word) :
    ∃ more' word', cold more' ∧ cold word' ∧ ex c (.seq (.set 8 (.lst .nil))
    (.seq (.for_ (.one 9) (.seq (.var 6)) (.seq (.set 8 (.op .add (.var 8) (.comp (.op .add (.var 9) (.tup (.cons (.var 16) .nil))) (.rng1 (.blt1 .len (.var 4))) (.one 16) .nil [16])))
    .skip))
    (.seq (.set 6 (.var 8))
    .skip))) (k6R s0 r f cs many words turn more word due al good) = some (.nx, k6R s0 r f cs many (.val (.list (wordsD (W.flatMap fun w => (upto n).map fun p => w ++ [p])))) turn more' word' due al good) := by
  have s1 : ex c (.set 8 (.lst .nil)) (k6R s0 r f cs many words turn more word due al good) = some (.nx, k6R s0 r f cs many words turn (.own []) word due al good) :=
    ex_set (v := .own []) (ρ1 := k6R s0 r f cs many words turn more word due al good) ev_lst0 (by rcases cm with rfl | ⟨d, rfl⟩ <;> rfl)
  have he : evi c (.seq (.var 6)) (k6R s0 r f cs many words turn (.own []) word due al good) = some (wordsD W, k6R s0 r f cs many (.val (.list (wordsD W))) turn (.own []) word due al good) := by
    generalize wordsD W = Z at hr
    rcases hr with rfl | rfl <;> simp [runB, start, ob, bd, bz, bt, ex, evo, evm, isVar, ev, evs, evi, rd, frz, truth, isiT, isNon, idx2, slotD, slotL, putL, put, puts, bindT, blt1, blt2, op2, rdr, prt, cnd, isNil, outV, endR, wipe, back, partD, slice3, ix0, ix1, ix2, ix3, ints_map, augO, isI, okL, items_tupI, seq_tupI, items_tabD, seq_tabD, items_list, seq_list, k6R]
  have fl : ∀ j, ((W.take j).flatMap fun w => (upto n).map fun p => w ++ [p]).length < 100000 := fun j => by
    have : (W.flatMap fun w => (upto n).map fun p => w ++ [p]) = ((W.take j).flatMap fun w => (upto n).map fun p => w ++ [p]) ++ ((W.drop j).flatMap fun w => (upto n).map fun p => w ++ [p]) := by rw [← List.flatMap_append, List.take_append_drop]
    rw [this, List.length_append] at hW
    omega
  obtain ⟨ρ', e, word', rfl, cw'⟩ := wx_for (c := c) (t := .one 9) (b := (.seq (.set 8 (.op .add (.var 8) (.comp (.op .add (.var 9) (.tup (.cons (.var 16) .nil))) (.rng1 (.blt1 .len (.var 4))) (.one 16) .nil [16])))
    .skip)) he
    (fun j ρ => ∃ word, ρ = k6R s0 r f cs many (.val (.list (wordsD W))) turn (.own (wordsD ((W.take j).flatMap fun w => (upto n).map fun p => w ++ [p]))) word due al good ∧ cold word)
    ⟨word, by simp [wordsD], cw⟩ (by
      rintro j x ρ hx ⟨word, rfl, cw⟩
      unfold wordsD at hx
      rw [List.getElem?_map] at hx
      cases hj : W[j]? with
      | none => rw [hj] at hx; cases hx
      | some w =>
        rw [hj] at hx
        cases hx
        have wl := hw w (List.mem_of_getElem? hj)
        have f1 := fl j
        have f2 := fl (j + 1)
        have e2 : ((W.take (j + 1)).flatMap fun w => (upto n).map fun p => w ++ [p]) = ((W.take j).flatMap fun w => (upto n).map fun p => w ++ [p]) ++ (upto n).map fun p => w ++ [p] := by
          rw [List.take_add_one, hj, List.flatMap_append]; simp
        rw [e2] at f2 ⊢
        generalize (W.take j).flatMap (fun w => (upto n).map fun p => w ++ [p]) = M at f1 f2 ⊢
        rw [wordsD_app]
        generalize wordsD W = WD
        have cd := catD (wordsD M) (wordsD ((upto n).map fun p => w ++ [p])) (by rw [wordsD_len, wordsD_len]; rw [List.length_append] at f2; omega)
        refine ⟨k6R s0 r f cs many (.val (.list WD)) turn (.own (wordsD M)) (.val (tupI w)) due al good, by rcases cw with rfl | ⟨d, rfl⟩ <;> rfl, ?_⟩
        refine wx_seq (ρ1 := k6R s0 r f cs many (.val (.list WD)) turn (.own (wordsD M ++ wordsD ((upto n).map fun p => w ++ [p]))) (.val (tupI w)) due al good) (ex_set (v := .own (wordsD M ++ wordsD ((upto n).map fun p => w ++ [p]))) (ρ1 := k6R s0 r f cs many (.val (.list WD)) turn (.val (.list (wordsD M))) (.val (tupI w)) due al good) ?_ rfl) (wx_skip ⟨rfl, _, rfl, cold_val⟩)
        have cp : ev c (.comp (.op .add (.var 9) (.tup (.cons (.var 16) .nil))) (.rng1 (.blt1 .len (.var 4))) (.one 16) .nil [16]) (k6R s0 r f cs many (.val (.list WD)) turn (.val (.list (wordsD M))) (.val (tupI w)) due al good) = some (.own (wordsD ((upto n).map fun p => w ++ [p])), k6R s0 r f cs many (.val (.list WD)) turn (.val (.list (wordsD M))) (.val (tupI w)) due al good) := by
          have := ev_comp (c := c) (el := .op .add (.var 9) (.tup (.cons (.var 16) .nil))) (cond := .nil) (t := .one 16) (vs := [16]) (ρ := k6R s0 r f cs many (.val (.list WD)) turn (.val (.list (wordsD M))) (.val (tupI w)) due al good) (ρ1 := k6R s0 r f cs many (.val (.list WD)) turn (.val (.list (wordsD M))) (.val (tupI w)) due al good)
            (evi_rng1 (e := .blt1 .len (.var 4)) (n := (n : Int)) (by simp [runB, start, ob, bd, bz, bt, ex, evo, evm, isVar, ev, evs, evi, rd, frz, truth, isiT, isNon, idx2, slotD, slotL, putL, put, puts, bindT, blt1, blt2, op2, rdr, prt, cnd, isNil, outV, endR, wipe, back, partD, slice3, ix0, ix1, ix2, ix3, ints_map, augO, isI, okL, items_tupI, seq_tupI, items_tabD, seq_tabD, items_list, seq_list, k6R, hn]) (rngOk_of (by omega) (by omega))) (compL_ints (fun p => tupI (w ++ [p])) fun p hp => by
              have ct := cat_tups w [p] (by simp; omega)
              have ct' : op2 .add (tupI w) (.tuple [.int p]) = some (.val (tupI (w ++ [p]))) := ct
              generalize tupI (w ++ [p]) = WP at ct'
              generalize wordsD M = MD
              simp [ob, bd, bz, bindT, put, cnd, isNil, ev, evs, rd, frz, okL, wipe, k6R, ct']) (by rw [List.length_map, upto_length]; omega)
          rw [Int.toNat_natCast] at this
          have we : wordsD ((upto n).map fun p => w ++ [p]) = (upto n).map fun p => tupI (w ++ [p]) := by unfold wordsD; rw [List.map_map]; rfl
          rw [we]
          exact this
        have v8 : ev c (.var 8) (k6R s0 r f cs many (.val (.list WD)) turn (.own (wordsD M)) (.val (tupI w)) due al good) = some (.val (.list (wordsD M)), k6R s0 r f cs many (.val (.list WD)) turn (.val (.list (wordsD M))) (.val (tupI w)) due al good) := by
          generalize wordsD M = MD
          simp [ev, rd, k6R]
        exact ev_op v8 rfl cp rfl cd)
  rw [wordsD_len, List.take_length] at e
  refine ⟨.val (.list (wordsD (W.flatMap fun w => (upto n).map fun p => w ++ [p]))), word', cold_val, cw', (ex_seq s1).trans ((ex_seq e).trans ((ex_seq ?_).trans ex_skip))⟩
  generalize wordsD (W.flatMap fun w => (upto n).map fun p => w ++ [p]) = Y
  generalize wordsD W = Z
  simp [runB, start, ob, bd, bz, bt, ex, evo, evm, isVar, ev, evs, evi, rd, frz, truth, isiT, isNon, idx2, slotD, slotL, putL, put, puts, bindT, blt1, blt2, op2, rdr, prt, cnd, isNil, outV, endR, wipe, back, partD, slice3, ix0, ix1, ix2, ix3, ints_map, augO, isI, okL, items_tupI, seq_tupI, items_tabD, seq_tabD, items_list, seq_list, k6R]

/-! coins moved -/
theorem compL_idx {f : D → Rho → Option (List D × Rho)} {ρ : Rho} (g : Nat → D) : ∀ {xs : List D} {n : Nat}, (∀ (j : Nat) (x : D), xs[j]? = some x → f x ρ = some ([g (n + j)], ρ)) → compL f xs ρ = some ((List.range' n xs.length).map g, ρ)
  | [], _, _ => rfl
  | x :: xs, n, h => by
    unfold compL
    rw [h 0 x rfl]
    dsimp only
    rw [compL_idx g (xs := xs) (n := n + 1) fun j y hy => by rw [h (j + 1) y (by simpa using hy), show n + (j + 1) = n + 1 + j by omega]]
    rw [List.length_cons, List.range'_succ]
    rfl
def mov (f : Int) (cs w : List Int) (t : Nat) : Int := (f - 1) * (cs.sum - at_ (A_ f cs w t) (at_ w t))
def movL (f : Int) (cs w : List Int) : List Int := (List.range w.length).map (mov f cs w)
def hd (f : Int) (cs w : List Int) : Nat → Int → Int
  | 0, _ => 0
  | j + 1, k => hd f cs w j k + if k = at_ w j then mov f cs w j else 0
def tk (f : Int) (cs w : List Int) : Nat → Int → Int
  | 0, _ => 0
  | j + 1, k => tk f cs w j k + if k = at_ w j then 0 else (f - 1) * at_ (A_ f cs w j) k
def IL (n : Nat) (g : Int → Int) : List Int := (upto n).map g
theorem IL_len (n : Nat) (g : Int → Int) : (IL n g).length = n := by simp [IL, upto_length]
theorem IL_at {n : Nat} {g : Int → Int} {k : Int} (k0 : 0 ≤ k) (k1 : k < n) : at_ (IL n g) k = g k := by
  unfold IL
  rw [at_map g k0 (by rw [upto_length]; exact k1)]
  congr 1
  unfold at_
  rw [List.getD_eq_getElem?_getD, upto_get (by omega)]
  show ((k.toNat : Nat) : Int) = k
  omega
theorem IL_set {n : Nat} {g : Int → Int} {k : Int} (v : Int) (k0 : 0 ≤ k) (k1 : k < n) : (IL n g).set k.toNat v = IL n (fun i => if i = k then v else g i) := by
  refine ext_at (by rw [List.length_set, IL_len, IL_len]) fun i i0 i1 => ?_
  rw [List.length_set, IL_len] at i1
  rw [at_set k0 (by rw [IL_len]; exact k1) i0 (by rw [IL_len]; exact i1), IL_at i0 i1, IL_at i0 i1]
theorem IL_congr {n : Nat} {g g' : Int → Int} (h : ∀ k : Int, 0 ≤ k → k < n → g k = g' k) : IL n g = IL n g' := by
  unfold IL
  apply List.map_congr_left
  intro k hk
  obtain ⟨k0, k1⟩ := mem_upto.mp hk
  exact h k k0 k1
theorem IL_zero (n : Nat) : IL n (fun _ => 0) = zeros n := by
  unfold IL zeros
  rw [List.map_const', upto_length]
theorem gain_eq {f : Int} {cs w : List Int} (hw : InW cs.length w) {k : Int} (k0 : 0 ≤ k) (k1 : k < cs.length) : ∀ j, j ≤ w.length → at_ (A_ f cs w j) k - at_ cs k = tk f cs w j k - hd f cs w j k
  | 0, _ => by rw [A_zero]; simp [tk, hd]
  | j + 1, hj => by
    have ih := gain_eq (f := f) hw k0 k1 j (by omega)
    have hp := at_some (cs := w) (k := (j : Int)) (by omega) (by omega)
    rw [Int.toNat_natCast] at hp
    obtain ⟨p0, p1⟩ := hw _ (List.mem_of_getElem? hp)
    have al := A_len f cs w j
    rw [A_succ hw hp]
    unfold tk hd
    by_cases c : k = at_ w j
    · rw [if_pos c, if_pos c]
      rw [c] at ih ⊢
      rw [owedL_at p0 (by rw [al]; exact p1), A_sum hw]
      unfold mov
      rw [Int.mul_sub, Int.sub_mul f 1 (at_ (A_ f cs w j) (at_ w j))]
      omega
    · rw [if_neg c, if_neg c, owedL_ne p0 k0 (by rw [al]; exact k1) c, Int.sub_mul]
      omega
theorem zw_IL (n : Nat) (g h : Int → Int) : zw (fun c m => 1 * c - 1 * m) (IL n g) (IL n h) = IL n (fun k => g k - h k) := by
  refine ext_at (by rw [zw_len _ (by rw [IL_len, IL_len]), IL_len, IL_len]) fun k k0 k1 => ?_
  rw [zw_len _ (by rw [IL_len, IL_len]), IL_len] at k1
  rw [zw_at _ (by rw [IL_len, IL_len]) k0 (by rw [IL_len]; exact k1), IL_at k0 k1, IL_at k0 k1, IL_at k0 k1]
  omega
theorem sum_eq {f : Int} {cs w : List Int} (hw : InW cs.length w) : (IL cs.length (hd f cs w w.length)).sum = (IL cs.length (tk f cs w w.length)).sum := by
  have z := zw_sum 1 1 (IL cs.length (tk f cs w w.length)) (IL cs.length (hd f cs w w.length)) (by rw [IL_len, IL_len])
  rw [zw_IL] at z
  have e : IL cs.length (fun k => tk f cs w w.length k - hd f cs w w.length k) = zw (fun c m => 1 * c - 1 * m) (aft f cs w) cs := by
    refine ext_at (by rw [IL_len, zw_len _ (by rw [aft_len]), aft_len]) fun k k0 k1 => ?_
    rw [IL_len] at k1
    rw [IL_at k0 k1, zw_at _ (by rw [aft_len]) k0 (by rw [aft_len]; exact k1), ← gain_eq hw k0 k1 w.length (Nat.le_refl _), A_all]
    omega
  rw [e, zw_sum 1 1 _ _ (aft_len f cs w), aft_sum hw] at z
  omega
theorem need_both_ok (k : Nat) {f : Int} {cs w : List Int} (h : Table f cs) (hw : InW cs.length w) (hl : w.length ≤ 40) : run TB.fn (k + 4) 119 none [tabD f cs, tupI w] = some (.val .none, []) := by
  have body : ∀ c : FT, c 3 none [tabD f cs] = some (.val .none, []) → c 21 none [.int cs.length, tupI w] = some (.val .none, []) → Wx (ex c fn_119.body [.val (tabD f cs), .val (tupI w)]) fun o ρ' => outV o = some (.val .none) ∧ endR fn_119.io ρ' = some [] := by
    intro c q1 q2
    refine wx_seq (ρ1 := [.val (tabD f cs), .val (tupI w)]) (by simp [runB, start, ob, bd, bz, bt, ex, evo, evm, isVar, ev, evs, evi, rd, frz, truth, isiT, isNon, idx2, slotD, slotL, putL, put, puts, bindT, blt1, blt2, op2, rdr, prt, cnd, isNil, outV, endR, wipe, back, partD, slice3, ix0, ix1, ix2, ix3, ints_map, augO, isI, okL, items_tupI, seq_tupI, items_tabD, seq_tabD, items_list, seq_list, q1]) (wx_seq (ρ1 := [.val (tabD f cs), .val (tupI w)]) (by simp [runB, start, ob, bd, bz, bt, ex, evo, evm, isVar, ev, evs, evi, rd, frz, truth, isiT, isNon, idx2, slotD, slotL, putL, put, puts, bindT, blt1, blt2, op2, rdr, prt, cnd, isNil, outV, endR, wipe, back, partD, slice3, ix0, ix1, ix2, ix3, ints_map, augO, isI, okL, items_tupI, seq_tupI, items_tabD, seq_tabD, items_list, seq_list, q2]) (wx_skip ⟨rfl, rfl⟩))
  exact run_eq [.val (tabD f cs), .val (tupI w)] look_119 rfl (body _ (need_table_ok k h) (need_word_ok (k + 1) hw hl))
theorem line_of_body (c : FT) {f : Int} {cs w : List Int} (hl : w.length < 1000) (q : ∀ (i : Nat) (p : Int), w[i]? = some p → c 6 none [.int f, tupI (A_ f cs w i), .int p] = some (.val (tupI (A_ f cs w (i + 1))), [])) :
    Wx (ex c fn_120.body [.val (tabD f cs), .val (tupI w), .un, .un, .un]) fun o ρ' => outV o = some (.own (alD f cs w w.length)) ∧ endR fn_120.io ρ' = some [] := by
  have a0 : alD f cs w 0 = [] := rfl
  refine wx_seq (ρ1 := [.val (tabD f cs), .val (tupI w), .own (alD f cs w 0), .val (tupI (A_ f cs w 0)), .un]) (by rw [a0, A_zero]; simp [runB, start, ob, bd, bz, bt, ex, evo, evm, isVar, ev, evs, evi, rd, frz, truth, isiT, isNon, idx2, slotD, slotL, putL, put, puts, bindT, blt1, blt2, op2, rdr, prt, cnd, isNil, outV, endR, wipe, back, partD, slice3, ix0, ix1, ix2, ix3, ints_map, augO, isI, okL, items_tupI, seq_tupI, items_tabD, seq_tabD, items_list, seq_list]) ?_
  obtain ⟨ρ', e, t, rfl, ct⟩ := wx_for (c := c) (t := .one 4) (it := .seq (.var 1)) (b := (.seq (.app 2 (.var 3)) (.seq (.set 3 (.call 6 (.cons (.idx (.var 0) (.int 0)) (.cons (.var 3) (.cons (.var 4) .nil))))) .skip)))
    (ρ := [.val (tabD f cs), .val (tupI w), .own (alD f cs w 0), .val (tupI (A_ f cs w 0)), .un]) (ρ1 := [.val (tabD f cs), .val (tupI w), .own (alD f cs w 0), .val (tupI (A_ f cs w 0)), .un]) (xs := w.map .int) (by simp [runB, start, ob, bd, bz, bt, ex, evo, evm, isVar, ev, evs, evi, rd, frz, truth, isiT, isNon, idx2, slotD, slotL, putL, put, puts, bindT, blt1, blt2, op2, rdr, prt, cnd, isNil, outV, endR, wipe, back, partD, slice3, ix0, ix1, ix2, ix3, ints_map, augO, isI, okL, items_tupI, seq_tupI, items_tabD, seq_tabD, items_list, seq_list])
    (fun j ρ => ∃ t, ρ = [.val (tabD f cs), .val (tupI w), .own (alD f cs w j), .val (tupI (A_ f cs w j)), t] ∧ cold t) ⟨.un, rfl, cold_un⟩ (by
      rintro j x ρ hx ⟨t, rfl, ct⟩
      rw [List.getElem?_map] at hx
      cases hj : w[j]? with
      | none => rw [hj] at hx; cases hx
      | some p =>
        rw [hj] at hx
        cases hx
        have jl := (List.getElem?_eq_some_iff.mp hj).1
        have q0 := q j p hj
        have ll := alD_len f cs w j
        refine ⟨[.val (tabD f cs), .val (tupI w), .own (alD f cs w j), .val (tupI (A_ f cs w j)), .val (.int p)], by rcases ct with rfl | ⟨d, rfl⟩ <;> rfl, ?_⟩
        rw [alD_succ]
        generalize alD f cs w j = Z at ll
        generalize A_ f cs w j = X at q0
        generalize A_ f cs w (j + 1) = Y at q0
        refine wx_seq (ρ1 := [.val (tabD f cs), .val (tupI w), .own (Z ++ [tupI X]), .val (tupI X), .val (.int p)]) (ex_app (ds0 := Z) rfl (sv := .val (tupI X)) (ρ1 := [.val (tabD f cs), .val (tupI w), .own Z, .val (tupI X), .val (.int p)]) (by simp [runB, start, ob, bd, bz, bt, ex, evo, evm, isVar, ev, evs, evi, rd, frz, truth, isiT, isNon, idx2, slotD, slotL, putL, put, puts, bindT, blt1, blt2, op2, rdr, prt, cnd, isNil, outV, endR, wipe, back, partD, slice3, ix0, ix1, ix2, ix3, ints_map, augO, isI, okL, items_tupI, seq_tupI, items_tabD, seq_tabD, items_list, seq_list]) rfl (ds := Z) rfl (by omega) rfl) ?_
        generalize Z ++ [tupI X] = Z2
        exact wx_seq (ρ1 := [.val (tabD f cs), .val (tupI w), .own Z2, .val (tupI Y), .val (.int p)]) (ex_set (ev_call (ds := [.int f, tupI X, .int p]) (ρ1 := [.val (tabD f cs), .val (tupI w), .own Z2, .val (tupI X), .val (.int p)]) (by simp [runB, start, ob, bd, bz, bt, ex, evo, evm, isVar, ev, evs, evi, rd, frz, truth, isiT, isNon, idx2, slotD, slotL, putL, put, puts, bindT, blt1, blt2, op2, rdr, prt, cnd, isNil, outV, endR, wipe, back, partD, slice3, ix0, ix1, ix2, ix3, ints_map, augO, isI, okL, items_tupI, seq_tupI, items_tabD, seq_tabD, items_list, seq_list]) q0) rfl) (wx_skip ⟨rfl, _, rfl, cold_val⟩))
  rw [List.length_map] at e
  exact wx_seq e (wx_seqR (v := .own (alD f cs w w.length)) (ex_ret rfl) ⟨rfl, rfl⟩)
theorem line_of_ok (k : Nat) {f : Int} {cs w : List Int} (h : Table f cs) (hw : InW cs.length w) (hl : w.length ≤ 40) : run TB.fn (k + 2) 120 none [tabD f cs, tupI w] = some (.own (alD f cs w w.length), []) :=
  run_eq [.val (tabD f cs), .val (tupI w), .un, .un, .un] look_120 rfl (line_of_body _ (by omega) fun i p hp => by
    obtain ⟨p0, p1⟩ := hw p (List.mem_of_getElem? hp)
    rw [A_succ hw hp]
    exact owed_in_ok k (Table.bf h) (A_bd h hw hl i) p0 (by rw [A_len]; exact p1))
theorem line_zip {f : Int} {cs w : List Int} {j : Nat} {x : D} (h : (zipD (alD f cs w w.length) (w.map .int))[j]? = some x) : j < w.length ∧ x = .tuple [tupI (A_ f cs w j), .int (at_ w j)] := by
  obtain ⟨d, e, h1, h2, rfl⟩ := zipD_at h
  rw [List.getElem?_map] at h2
  cases hj : w[j]? with
  | none => rw [hj] at h2; cases h2
  | some p =>
    rw [hj] at h2
    cases h2
    have jl := (List.getElem?_eq_some_iff.mp hj).1
    unfold alD at h1
    rw [List.getElem?_map, List.getElem?_range jl] at h1
    cases h1
    have : at_ w (j : Int) = p := by
      unfold at_
      rw [Int.toNat_natCast, List.getD_eq_getElem?_getD, hj]; rfl
    exact ⟨jl, by rw [this]⟩
theorem moved_along_body (c : FT) {f S : Int} {cs w : List Int} (hl : w.length < 1000) (hS : cs.sum = S) (bf : big (f - 1) = true) (bx : ∀ t : Nat, big (S - at_ (A_ f cs w t) (at_ w t)) = true) (hw : InW cs.length w) (q : c 120 none [tabD f cs, tupI w] = some (.own (alD f cs w w.length), [])) :
    Wx (ex c fn_121.body [.val (tabD f cs), .val (tupI w), .un, .un, .un]) fun o ρ' => outV o = some (.own ((movL f cs w).map .int)) ∧ endR fn_121.io ρ' = some [] := by
  refine wx_seq (ρ1 := [.val (tabD f cs), .val (tupI w), .val (.int S), .un, .un]) (by simp [runB, start, ob, bd, bz, bt, ex, evo, evm, isVar, ev, evs, evi, rd, frz, truth, isiT, isNon, idx2, slotD, slotL, putL, put, puts, bindT, blt1, blt2, op2, rdr, prt, cnd, isNil, outV, endR, wipe, back, partD, slice3, ix0, ix1, ix2, ix3, ints_map, augO, isI, okL, items_tupI, seq_tupI, items_tabD, seq_tabD, items_list, seq_list, hS]) ?_
  have me : (movL f cs w).map PyData.int = (List.range' 0 (zipD (alD f cs w w.length) (w.map .int)).length).map fun t => .int (mov f cs w t) := by
    unfold movL
    rw [zipD_length, alD_len, List.length_map, Nat.min_self, List.map_map, List.range_eq_range']
    rfl
  have zl : (zipD (alD f cs w w.length) (w.map .int)).length = w.length := by rw [zipD_length, alD_len, List.length_map, Nat.min_self]
  refine wx_seqR (v := .own ((movL f cs w).map .int)) (ρ1 := [.val (tabD f cs), .val (tupI w), .val (.int S), .un, .un]) (ex_retE rfl ?_) ⟨rfl, rfl⟩
  rw [me]
  refine ev_comp (ρ1 := [.val (tabD f cs), .val (tupI w), .val (.int S), .un, .un]) (xs := zipD (alD f cs w w.length) (w.map .int)) ?_ (compL_idx (fun t => .int (mov f cs w t)) fun j x hx => ?_) (by rw [List.length_map, List.length_range', zl]; omega)
  · generalize alD f cs w w.length = Z at q
    simp [runB, start, ob, bd, bz, bt, ex, evo, evm, isVar, ev, evs, evi, rd, frz, truth, isiT, isNon, idx2, slotD, slotL, putL, put, puts, bindT, blt1, blt2, op2, rdr, prt, cnd, isNil, outV, endR, wipe, back, partD, slice3, ix0, ix1, ix2, ix3, ints_map, augO, isI, okL, items_tupI, seq_tupI, items_tabD, seq_tabD, items_list, seq_list, q]
  · obtain ⟨jl, rfl⟩ := line_zip hx
    have hp := at_some (cs := w) (k := (j : Int)) (by omega) (by omega)
    obtain ⟨p0, p1⟩ := hw _ (List.mem_of_getElem? hp)
    have y := ixD_at (cs := A_ f cs w j) (k := at_ w j) p0 (by rw [A_len]; exact p1)
    have b := bx j
    rw [Nat.zero_add]
    unfold mov
    rw [hS]
    generalize at_ w (j : Int) = p at y b ⊢
    generalize A_ f cs w j = X at y b ⊢
    simp [runB, start, ob, bd, bz, bt, ex, evo, evm, isVar, ev, evs, evi, rd, frz, truth, isiT, isNon, idx2, slotD, slotL, putL, put, puts, bindT, blt1, blt2, op2, rdr, prt, cnd, isNil, outV, endR, wipe, back, partD, slice3, ix0, ix1, ix2, ix3, ints_map, augO, isI, okL, items_tupI, seq_tupI, items_tabD, seq_tabD, items_list, seq_list, y, bf, b]
theorem moved_along_ok (k : Nat) {f : Int} {cs w : List Int} (h : Table f cs) (hw : InW cs.length w) (hl : w.length ≤ 40) : run TB.fn (k + 3) 121 none [tabD f cs, tupI w] = some (.own ((movL f cs w).map .int), []) :=
  run_eq [.val (tabD f cs), .val (tupI w), .un, .un, .un] look_121 rfl (moved_along_body _ (by omega) rfl (big_of (by have := h.f2; have := h.f9; omega)) (fun t => by
    have b1 := h.bd.sum
    have B := A_bd h hw hl t
    have b2 : (at_ (A_ f cs w t) (at_ w t)).natAbs < 2 ^ 8000 := by
      generalize A_ f cs w t = X at B
      generalize at_ w t = p
      unfold at_
      rw [List.getD_eq_getElem?_getD]
      cases e : X[p.toNat]? with
      | none => exact Nat.pow_pos (by decide)
      | some z => exact B.b z (List.mem_of_getElem? e)
    refine big_lt (n := 8011) ?_ (by decide)
    have t1 := Int.natAbs_sub_le cs.sum (at_ (A_ f cs w t) (at_ w t))
    have t2 : 2 ^ 8000 ≤ 2 ^ 8010 := Nat.pow_le_pow_right (by decide) (by decide)
    have t3 : (2 : Nat) ^ 8011 = 2 ^ 8010 * 2 := Nat.pow_succ 2 8010
    omega) hw (line_of_ok k h hw hl))

theorem moved_word_ok (k : Nat) {f : Int} {cs w : List Int} (h : Table f cs) (hw : InW cs.length w) (hl : w.length ≤ 40) : run TB.fn (k + 5) 124 none [tabD f cs, tupI w] = some (.val (tupI (movL f cs w)), []) := by
  have body : ∀ (c : FT) (M : List Int), c 119 none [tabD f cs, tupI w] = some (.val .none, []) → c 121 none [tabD f cs, tupI w] = some (.own (M.map .int), []) → Wx (ex c fn_124.body [.val (tabD f cs), .val (tupI w)]) fun o ρ' => outV o = some (.val (tupI M)) ∧ endR fn_124.io ρ' = some [] := by
    intro c M q1 q2
    refine wx_seq (ρ1 := [.val (tabD f cs), .val (tupI w)]) (by simp [runB, start, ob, bd, bz, bt, ex, evo, evm, isVar, ev, evs, evi, rd, frz, truth, isiT, isNon, idx2, slotD, slotL, putL, put, puts, bindT, blt1, blt2, op2, rdr, prt, cnd, isNil, outV, endR, wipe, back, partD, slice3, ix0, ix1, ix2, ix3, ints_map, augO, isI, okL, items_tupI, seq_tupI, items_tabD, seq_tabD, items_list, seq_list, q1]) ?_
    exact wx_seqR (v := .val (tupI M)) (ρ1 := [.val (tabD f cs), .val (tupI w)]) (ex_retE rfl (ev_blt1 rfl (ev_call (ds := [tabD f cs, tupI w]) (by simp [runB, start, ob, bd, bz, bt, ex, evo, evm, isVar, ev, evs, evi, rd, frz, truth, isiT, isNon, idx2, slotD, slotL, putL, put, puts, bindT, blt1, blt2, op2, rdr, prt, cnd, isNil, outV, endR, wipe, back, partD, slice3, ix0, ix1, ix2, ix3, ints_map, augO, isI, okL, items_tupI, seq_tupI, items_tabD, seq_tabD, items_list, seq_list]) q2) rfl rfl)) ⟨rfl, rfl⟩
  exact run_eq [.val (tabD f cs), .val (tupI w)] look_124 rfl (body _ _ (need_both_ok k h hw hl) (moved_along_ok (k + 1) h hw hl))
theorem word_in2_ok (k : Nat) {f : Int} {cs : List Int} {m : Nat} (h : Table f cs) (hm : m ≤ 40) : run TB.fn (k + 3) 122 none [tabD f cs, .int m] = some (.val (optT (payW f cs m).head?), []) := by
  have body : ∀ (c : FT) (W : List (List Int)), c 37 none [tabD f cs, .int m] = some (.own (wordsD W), []) →
      Wx (ex c fn_122.body [.val (tabD f cs), .val (.int m), .un]) fun o ρ' => outV o = some (.val (optT W.head?)) ∧ endR fn_122.io ρ' = some [] := by
    intro c W q3
    refine wx_seq (ρ1 := [.val (tabD f cs), .val (.int m), .own (wordsD W)]) (ex_set (ev_call (ds := [tabD f cs, .int m]) (ρ1 := [.val (tabD f cs), .val (.int m), .un]) (by simp [runB, start, ob, bd, bz, bt, ex, evo, evm, isVar, ev, evs, evi, rd, frz, truth, isiT, isNon, idx2, slotD, slotL, putL, put, puts, bindT, blt1, blt2, op2, rdr, prt, cnd, isNil, outV, endR, wipe, back, partD, slice3, ix0, ix1, ix2, ix3, ints_map, augO, isI, okL, items_tupI, seq_tupI, items_tabD, seq_tabD, items_list, seq_list]) q3) rfl) ?_
    have nw := ne_words W
    refine wx_seqR (v := .val (optT W.head?)) (ρ1 := [.val (tabD f cs), .val (.int m), .val (.list (wordsD W))]) (ex_retE rfl ?_) ⟨rfl, rfl⟩
    cases W with
    | nil =>
      simp [runB, start, ob, bd, bz, bt, ex, evo, evm, isVar, ev, evs, evi, rd, frz, truth, isiT, isNon, idx2, slotD, slotL, putL, put, puts, bindT, blt1, blt2, op2, rdr, prt, cnd, isNil, outV, endR, wipe, back, partD, slice3, ix0, ix1, ix2, ix3, ints_map, augO, isI, okL, items_tupI, seq_tupI, items_tabD, seq_tabD, items_list, seq_list, wordsD, optT, eq_nil]
      have : cmp2 .ne (.list []) (.list []) = some false := by rfl
      simp [this]
    | cons w r =>
      rw [decide_eq_false (by simp)] at nw
      have hx : ixD (wordsD (w :: r)) 0 = some (tupI w) := by unfold wordsD; rw [List.map_cons]; exact ix0 _ _
      generalize wordsD (w :: r) = Z at nw hx
      simp [runB, start, ob, bd, bz, bt, ex, evo, evm, isVar, ev, evs, evi, rd, frz, truth, isiT, isNon, idx2, slotD, slotL, putL, put, puts, bindT, blt1, blt2, op2, rdr, prt, cnd, isNil, outV, endR, wipe, back, partD, slice3, ix0, ix1, ix2, ix3, ints_map, augO, isI, okL, items_tupI, seq_tupI, items_tabD, seq_tabD, items_list, seq_list, nw, hx, optT]
  exact run_eq [.val (tabD f cs), .val (.int m), .un] look_122 rfl (body _ _ (payable_ok k h hm))
def optI : Option Int → D
  | some i => .int i
  | none => .none
theorem moved_in_ok (k : Nat) {f : Int} {cs : List Int} {m : Nat} (h : Table f cs) (hm : m ≤ 40) : run TB.fn (k + 5) 123 none [tabD f cs, .int m] = some (.val (optI ((payW f cs m).head?.map fun v => (movL f cs v).sum)), []) := by
  have body : ∀ (c : FT) (O : Option (List Int)) (M : List Int → List Int), c 3 none [tabD f cs] = some (.val .none, []) → c 22 none [.int m] = some (.val .none, []) → c 122 none [tabD f cs, .int m] = some (.val (optT O), []) → (∀ v, O = some v → c 121 none [tabD f cs, tupI v] = some (.own ((M v).map .int), [])) →
      Wx (ex c fn_123.body [.val (tabD f cs), .val (.int m), .un]) fun o ρ' => outV o = some (.val (optI (O.map fun v => (M v).sum))) ∧ endR fn_123.io ρ' = some [] := by
    intro c O M q1 q2 q3 q4
    refine wx_seq (ρ1 := [.val (tabD f cs), .val (.int m), .un]) (by simp [runB, start, ob, bd, bz, bt, ex, evo, evm, isVar, ev, evs, evi, rd, frz, truth, isiT, isNon, idx2, slotD, slotL, putL, put, puts, bindT, blt1, blt2, op2, rdr, prt, cnd, isNil, outV, endR, wipe, back, partD, slice3, ix0, ix1, ix2, ix3, ints_map, augO, isI, okL, items_tupI, seq_tupI, items_tabD, seq_tabD, items_list, seq_list, q1]) ?_
    refine wx_seq (ρ1 := [.val (tabD f cs), .val (.int m), .un]) (by simp [runB, start, ob, bd, bz, bt, ex, evo, evm, isVar, ev, evs, evi, rd, frz, truth, isiT, isNon, idx2, slotD, slotL, putL, put, puts, bindT, blt1, blt2, op2, rdr, prt, cnd, isNil, outV, endR, wipe, back, partD, slice3, ix0, ix1, ix2, ix3, ints_map, augO, isI, okL, items_tupI, seq_tupI, items_tabD, seq_tabD, items_list, seq_list, q2]) ?_
    refine wx_seq (ρ1 := [.val (tabD f cs), .val (.int m), .val (optT O)]) (by
      generalize optT O = A at q3
      simp [runB, start, ob, bd, bz, bt, ex, evo, evm, isVar, ev, evs, evi, rd, frz, truth, isiT, isNon, idx2, slotD, slotL, putL, put, puts, bindT, blt1, blt2, op2, rdr, prt, cnd, isNil, outV, endR, wipe, back, partD, slice3, ix0, ix1, ix2, ix3, ints_map, augO, isI, okL, items_tupI, seq_tupI, items_tabD, seq_tabD, items_list, seq_list, q3]) ?_
    refine wx_seqR (v := .val (optI (O.map fun v => (M v).sum))) (ρ1 := [.val (tabD f cs), .val (.int m), .val (optT O)]) (ex_retE rfl ?_) ⟨rfl, rfl⟩
    cases O with
    | none => simp [ev, bz, bt, rd, frz, truth, isNon, optT, optI]
    | some v =>
      have nn : isNon (tupI v) = false := rfl
      have q := q4 v rfl
      have im := ints_map (M v)
      have e1 : ev c (.blt1 .sum (.call 121 (.cons (.var 0) (.cons (.var 2) .nil)))) [.val (tabD f cs), .val (.int m), .val (tupI v)] = some (.val (.int (M v).sum), [.val (tabD f cs), .val (.int m), .val (tupI v)]) :=
        ev_blt1 rfl (ev_call (ds := [tabD f cs, tupI v]) (by simp [runB, start, ob, bd, bz, bt, ex, evo, evm, isVar, ev, evs, evi, rd, frz, truth, isiT, isNon, idx2, slotD, slotL, putL, put, puts, bindT, blt1, blt2, op2, rdr, prt, cnd, isNil, outV, endR, wipe, back, partD, slice3, ix0, ix1, ix2, ix3, ints_map, augO, isI, okL, items_tupI, seq_tupI, items_tabD, seq_tabD, items_list, seq_list]) q) rfl (by simp [blt1, seq_list, ob, im])
      show bt (ev c (.isn (.var 2)) [.val (tabD f cs), .val (.int m), .val (tupI v)]) _ = _
      rw [show ev c (.isn (.var 2)) [.val (tabD f cs), .val (.int m), .val (tupI v)] = some (.val (.bool false), [.val (tabD f cs), .val (.int m), .val (tupI v)]) by simp [ev, bz, rd, frz, nn]]
      exact e1
  exact run_eq [.val (tabD f cs), .val (.int m), .un] look_123 rfl (body _ _ (movL f cs) (need_table_ok (k + 1) h) (need_rounds_ok (k + 2) (n := m) (by omega) (by omega)) (word_in2_ok (k + 1) h hm) (fun v hv => by
    have vm : v ∈ payW f cs m := List.mem_of_mem_head? hv
    obtain ⟨i1, i2, _⟩ := payW_mem vm
    exact moved_along_ok (k + 1) h i1 (by omega)))
theorem gains_ok (k : Nat) {f : Int} {cs w : List Int} (h : Table f cs) (hw : InW cs.length w) (hl : w.length ≤ 40) : run TB.fn (k + 5) 125 none [tabD f cs, tupI w] = some (.val (tupI (zw (fun a b => a - b) (aft f cs w) cs)), []) := by
  have body : ∀ (c : FT) (X : List Int), X.length ≤ 6 → c 119 none [tabD f cs, tupI w] = some (.val .none, []) → c 30 none [.int f, tupI cs, tupI w] = some (.val (tupI X), []) → Wx (ex c fn_125.body [.val (tabD f cs), .val (tupI w), .un, .un]) fun o ρ' => outV o = some (.val (tupI (zw (fun a b => a - b) X cs))) ∧ endR fn_125.io ρ' = some [] := by
    intro c X lX q1 q2
    refine wx_seq (ρ1 := [.val (tabD f cs), .val (tupI w), .un, .un]) (by simp [runB, start, ob, bd, bz, bt, ex, evo, evm, isVar, ev, evs, evi, rd, frz, truth, isiT, isNon, idx2, slotD, slotL, putL, put, puts, bindT, blt1, blt2, op2, rdr, prt, cnd, isNil, outV, endR, wipe, back, partD, slice3, ix0, ix1, ix2, ix3, ints_map, augO, isI, okL, items_tupI, seq_tupI, items_tabD, seq_tabD, items_list, seq_list, q1]) ?_
    refine wx_seqR (v := .val (tupI (zw (fun a b => a - b) X cs))) (ρ1 := [.val (tabD f cs), .val (tupI w), .un, .un]) (ex_retE rfl (ev_blt1 rfl (ev_comp (ρ1 := [.val (tabD f cs), .val (tupI w), .un, .un]) (xs := zipD (X.map .int) (cs.map .int)) ?_ (zip_comp (fun a b => a - b) fun p q hp hq => by simp [runB, start, ob, bd, bz, bt, ex, evo, evm, isVar, ev, evs, evi, rd, frz, truth, isiT, isNon, idx2, slotD, slotL, putL, put, puts, bindT, blt1, blt2, op2, rdr, prt, cnd, isNil, outV, endR, wipe, back, partD, slice3, ix0, ix1, ix2, ix3, ints_map, augO, isI, okL, items_tupI, seq_tupI, items_tabD, seq_tabD, items_list, seq_list]) (by rw [List.length_map]; have := zw_len_le (fun a b => a - b) X cs; omega)) rfl rfl)) ⟨rfl, rfl⟩
    simp [runB, start, ob, bd, bz, bt, ex, evo, evm, isVar, ev, evs, evi, rd, frz, truth, isiT, isNon, idx2, slotD, slotL, putL, put, puts, bindT, blt1, blt2, op2, rdr, prt, cnd, isNil, outV, endR, wipe, back, partD, slice3, ix0, ix1, ix2, ix3, ints_map, augO, isI, okL, items_tupI, seq_tupI, items_tabD, seq_tabD, items_list, seq_list, q2]
  exact run_eq [.val (tabD f cs), .val (tupI w), .un, .un] look_125 rfl (body _ _ (by rw [aft_len]; exact h.l6) (need_both_ok k h hw hl) (after_in_ok (k + 2) h.f2 h.f9 h.md hw hl))
theorem losers_ok (k : Nat) {f : Int} {cs w : List Int} (h : Table f cs) (hw : InW cs.length w) (hl : w.length ≤ 40) : run TB.fn (k + 5) 126 none [tabD f cs, tupI w] = some (.val (tupI ((upto cs.length).filter fun z => decide (at_ (aft f cs w) z < at_ cs z))), []) := by
  have body : ∀ (c : FT) (X : List Int), X.length = cs.length → c 119 none [tabD f cs, tupI w] = some (.val .none, []) → c 30 none [.int f, tupI cs, tupI w] = some (.val (tupI X), []) → Wx (ex c fn_126.body [.val (tabD f cs), .val (tupI w), .un, .un]) fun o ρ' => outV o = some (.val (tupI ((upto cs.length).filter fun z => decide (at_ X z < at_ cs z)))) ∧ endR fn_126.io ρ' = some [] := by
    intro c X lX q1 q2
    have l6 := h.l6
    refine wx_seq (ρ1 := [.val (tabD f cs), .val (tupI w), .un, .un]) (by simp [runB, start, ob, bd, bz, bt, ex, evo, evm, isVar, ev, evs, evi, rd, frz, truth, isiT, isNon, idx2, slotD, slotL, putL, put, puts, bindT, blt1, blt2, op2, rdr, prt, cnd, isNil, outV, endR, wipe, back, partD, slice3, ix0, ix1, ix2, ix3, ints_map, augO, isI, okL, items_tupI, seq_tupI, items_tabD, seq_tabD, items_list, seq_list, q1]) ?_
    refine wx_seq (ρ1 := [.val (tabD f cs), .val (tupI w), .val (tupI X), .un]) (by simp [runB, start, ob, bd, bz, bt, ex, evo, evm, isVar, ev, evs, evi, rd, frz, truth, isiT, isNon, idx2, slotD, slotL, putL, put, puts, bindT, blt1, blt2, op2, rdr, prt, cnd, isNil, outV, endR, wipe, back, partD, slice3, ix0, ix1, ix2, ix3, ints_map, augO, isI, okL, items_tupI, seq_tupI, items_tabD, seq_tabD, items_list, seq_list, q2]) ?_
    refine wx_seqR (v := .val (tupI ((upto cs.length).filter fun z => decide (at_ X z < at_ cs z)))) (ρ1 := [.val (tabD f cs), .val (tupI w), .val (tupI X), .un]) (ex_retE rfl (ev_blt1 rfl (ev_comp (ρ1 := [.val (tabD f cs), .val (tupI w), .val (tupI X), .un]) (xs := (upto cs.length).map .int) (evi_rng1 (n := (cs.length : Int)) (by simp [runB, start, ob, bd, bz, bt, ex, evo, evm, isVar, ev, evs, evi, rd, frz, truth, isiT, isNon, idx2, slotD, slotL, putL, put, puts, bindT, blt1, blt2, op2, rdr, prt, cnd, isNil, outV, endR, wipe, back, partD, slice3, ix0, ix1, ix2, ix3, ints_map, augO, isI, okL, items_tupI, seq_tupI, items_tabD, seq_tabD, items_list, seq_list, lX]) h.bd.rng) (compL_filt (fun z => decide (at_ X z < at_ cs z)) .int fun z hz => ?_) (by rw [List.length_map]; have := List.length_filter_le (fun z => decide (at_ X z < at_ cs z)) (upto cs.length); rw [upto_length] at this; omega)) rfl rfl)) ⟨rfl, rfl⟩
    obtain ⟨z0, z1⟩ := mem_upto.mp hz
    have y1 := ixD_at (cs := X) z0 (by omega)
    have y2 := ixD_at (cs := cs) z0 (by omega)
    by_cases hc : at_ X z < at_ cs z
    · simp [runB, start, ob, bd, bz, bt, ex, evo, evm, isVar, ev, evs, evi, rd, frz, truth, isiT, isNon, idx2, slotD, slotL, putL, put, puts, bindT, blt1, blt2, op2, rdr, prt, cnd, isNil, outV, endR, wipe, back, partD, slice3, ix0, ix1, ix2, ix3, ints_map, augO, isI, okL, items_tupI, seq_tupI, items_tabD, seq_tabD, items_list, seq_list, cmp2, y1, y2, hc]
    · simp [runB, start, ob, bd, bz, bt, ex, evo, evm, isVar, ev, evs, evi, rd, frz, truth, isiT, isNon, idx2, slotD, slotL, putL, put, puts, bindT, blt1, blt2, op2, rdr, prt, cnd, isNil, outV, endR, wipe, back, partD, slice3, ix0, ix1, ix2, ix3, ints_map, augO, isI, okL, items_tupI, seq_tupI, items_tabD, seq_tabD, items_list, seq_list, cmp2, y1, y2, hc]
  exact run_eq [.val (tabD f cs), .val (tupI w), .un, .un] look_126 rfl (body _ _ (aft_len f cs w) (need_both_ok k h hw hl) (after_in_ok (k + 2) h.f2 h.f9 h.md hw hl))
theorem mov_zip {f : Int} {cs w : List Int} {j : Nat} {x : D} (h : (zipD (w.map .int) ((movL f cs w).map .int))[j]? = some x) : j < w.length ∧ x = .tuple [.int (at_ w j), .int (mov f cs w j)] := by
  obtain ⟨d, e, h1, h2, rfl⟩ := zipD_at h
  rw [List.getElem?_map] at h1
  cases hj : w[j]? with
  | none => rw [hj] at h1; cases h1
  | some p =>
    rw [hj] at h1
    cases h1
    have jl := (List.getElem?_eq_some_iff.mp hj).1
    unfold movL at h2
    rw [List.getElem?_map, List.getElem?_map, List.getElem?_range jl] at h2
    cases h2
    have : at_ w (j : Int) = p := by
      unfold at_
      rw [Int.toNat_natCast, List.getD_eq_getElem?_getD, hj]; rfl
    exact ⟨jl, by rw [this]⟩
theorem handed_body (c : FT) {f : Int} {cs w : List Int} (n6 : cs.length ≤ 6) (hw : InW cs.length w) (q1 : c 119 none [tabD f cs, tupI w] = some (.val .none, [])) (q2 : c 121 none [tabD f cs, tupI w] = some (.own ((movL f cs w).map .int), [])) :
    Wx (ex c fn_127.body [.val (tabD f cs), .val (tupI w), .un, .un, .un]) fun o ρ' => outV o = some (.val (tupI (IL cs.length (hd f cs w w.length)))) ∧ endR fn_127.io ρ' = some [] := by
  have hm := mul_rep 0 (p := (cs.length : Int)) (by omega) (by omega)
  have z0 : (List.replicate cs.length (0 : Int)) = IL cs.length (hd f cs w 0) := (IL_zero cs.length).symm
  rw [Int.toNat_natCast, z0] at hm
  refine wx_seq (ρ1 := [.val (tabD f cs), .val (tupI w), .un, .un, .un]) (by simp [runB, start, ob, bd, bz, bt, ex, evo, evm, isVar, ev, evs, evi, rd, frz, truth, isiT, isNon, idx2, slotD, slotL, putL, put, puts, bindT, blt1, blt2, op2, rdr, prt, cnd, isNil, outV, endR, wipe, back, partD, slice3, ix0, ix1, ix2, ix3, ints_map, augO, isI, okL, items_tupI, seq_tupI, items_tabD, seq_tabD, items_list, seq_list, q1]) ?_
  refine wx_seq (ρ1 := [.val (tabD f cs), .val (tupI w), .own ((IL cs.length (hd f cs w 0)).map .int), .un, .un]) (ex_set (ρ1 := [.val (tabD f cs), .val (tupI w), .un, .un, .un]) (ev_op (sva := .own [.int 0]) (svb := .val (.int cs.length)) (ρ1 := [.val (tabD f cs), .val (tupI w), .un, .un, .un]) (by simp [runB, start, ob, bd, bz, bt, ex, evo, evm, isVar, ev, evs, evi, rd, frz, truth, isiT, isNon, idx2, slotD, slotL, putL, put, puts, bindT, blt1, blt2, op2, rdr, prt, cnd, isNil, outV, endR, wipe, back, partD, slice3, ix0, ix1, ix2, ix3, ints_map, augO, isI, okL, items_tupI, seq_tupI, items_tabD, seq_tabD, items_list, seq_list]) rfl (by simp [runB, start, ob, bd, bz, bt, ex, evo, evm, isVar, ev, evs, evi, rd, frz, truth, isiT, isNon, idx2, slotD, slotL, putL, put, puts, bindT, blt1, blt2, op2, rdr, prt, cnd, isNil, outV, endR, wipe, back, partD, slice3, ix0, ix1, ix2, ix3, ints_map, augO, isI, okL, items_tupI, seq_tupI, items_tabD, seq_tabD, items_list, seq_list]) rfl hm) rfl) ?_
  have he : evi c (.zip (.var 1) (.call 121 (.cons (.var 0) (.cons (.var 1) .nil)))) [.val (tabD f cs), .val (tupI w), .own ((IL cs.length (hd f cs w 0)).map .int), .un, .un] = some (zipD (w.map .int) ((movL f cs w).map .int), [.val (tabD f cs), .val (tupI w), .own ((IL cs.length (hd f cs w 0)).map .int), .un, .un]) := by
    generalize (movL f cs w).map PyData.int = M at q2
    generalize (IL cs.length (hd f cs w 0)).map PyData.int = Z
    simp [runB, start, ob, bd, bz, bt, ex, evo, evm, isVar, ev, evs, evi, rd, frz, truth, isiT, isNon, idx2, slotD, slotL, putL, put, puts, bindT, blt1, blt2, op2, rdr, prt, cnd, isNil, outV, endR, wipe, back, partD, slice3, ix0, ix1, ix2, ix3, ints_map, augO, isI, okL, items_tupI, seq_tupI, items_tabD, seq_tabD, items_list, seq_list, q2]
  obtain ⟨ρ', e, a, b, rfl, ca, cb⟩ := wx_for (c := c) (t := .many [3, 4]) (b := (.seq (.augi 2 (.var 3) .add (.var 4)) .skip)) he
    (fun j ρ => ∃ a b, ρ = [.val (tabD f cs), .val (tupI w), .own ((IL cs.length (hd f cs w j)).map .int), a, b] ∧ cold a ∧ cold b) ⟨.un, .un, rfl, cold_un, cold_un⟩ (by
      rintro j x ρ hx ⟨a, b, rfl, ca, cb⟩
      obtain ⟨jl, rfl⟩ := mov_zip hx
      have hp := at_some (cs := w) (k := (j : Int)) (by omega) (by omega)
      obtain ⟨p0, p1⟩ := hw _ (List.mem_of_getElem? hp)
      have y := ixD_at (cs := IL cs.length (hd f cs w j)) (k := at_ w j) p0 (by rw [IL_len]; exact p1)
      have ix := ixN_at (n := cs.length) (k := at_ w j) p0 p1
      have il := IL_len cs.length (hd f cs w j)
      have st := IL_set (n := cs.length) (g := hd f cs w j) (k := at_ w j) (hd f cs w j (at_ w j) + mov f cs w j) p0 p1
      rw [IL_at p0 p1] at y
      have e2 : IL cs.length (hd f cs w (j + 1)) = (IL cs.length (hd f cs w j)).set (at_ w j).toNat (hd f cs w j (at_ w j) + mov f cs w j) := by
        rw [st]
        exact IL_congr fun k k0 k1 => by
          show hd f cs w j k + (if k = at_ w j then mov f cs w j else 0) = _
          by_cases c : k = at_ w j
          · rw [if_pos c, if_pos c, c]
          · rw [if_neg c, if_neg c]; omega
      refine ⟨[.val (tabD f cs), .val (tupI w), .own ((IL cs.length (hd f cs w j)).map .int), .val (.int (at_ w j)), .val (.int (mov f cs w j))], by rcases ca with rfl | ⟨d, rfl⟩ <;> rcases cb with rfl | ⟨d, rfl⟩ <;> rfl, ?_⟩
      refine wx_seq (ρ1 := [.val (tabD f cs), .val (tupI w), .own ((IL cs.length (hd f cs w (j + 1))).map .int), .val (.int (at_ w j)), .val (.int (mov f cs w j))]) ?_ (wx_skip ⟨rfl, _, _, rfl, cold_val, cold_val⟩)
      rw [e2, List.map_set]
      generalize hd f cs w j (at_ w j) = h0 at y ⊢
      generalize mov f cs w j = mv
      generalize at_ w (j : Int) = p at y ix ⊢
      generalize IL cs.length (hd f cs w j) = Z at y il ⊢
      simp [runB, start, ob, bd, bz, bt, ex, evo, evm, isVar, ev, evs, evi, rd, frz, truth, isiT, isNon, idx2, slotD, slotL, putL, put, puts, bindT, blt1, blt2, op2, rdr, prt, cnd, isNil, outV, endR, wipe, back, partD, slice3, ix0, ix1, ix2, ix3, ints_map, augO, isI, okL, items_tupI, seq_tupI, items_tabD, seq_tabD, items_list, seq_list, y, ix, il])
  have zl : (zipD (w.map PyData.int) ((movL f cs w).map PyData.int)).length = w.length := by rw [zipD_length]; simp [movL]
  rw [zl] at e
  refine wx_seq e (wx_seqR (v := .val (tupI (IL cs.length (hd f cs w w.length)))) (ρ1 := [.val (tabD f cs), .val (tupI w), .own ((IL cs.length (hd f cs w w.length)).map .int), a, b]) (ex_retE rfl ?_) ⟨rfl, rfl⟩)
  unfold tupI
  generalize (IL cs.length (hd f cs w w.length)).map PyData.int = Z
  simp [runB, start, ob, bd, bz, bt, ex, evo, evm, isVar, ev, evs, evi, rd, frz, truth, isiT, isNon, idx2, slotD, slotL, putL, put, puts, bindT, blt1, blt2, op2, rdr, prt, cnd, isNil, outV, endR, wipe, back, partD, slice3, ix0, ix1, ix2, ix3, ints_map, augO, isI, okL, items_tupI, seq_tupI, items_tabD, seq_tabD, items_list, seq_list]
theorem handed_ok (k : Nat) {f : Int} {cs w : List Int} (h : Table f cs) (hw : InW cs.length w) (hl : w.length ≤ 40) : run TB.fn (k + 5) 127 none [tabD f cs, tupI w] = some (.val (tupI (IL cs.length (hd f cs w w.length))), []) :=
  run_eq [.val (tabD f cs), .val (tupI w), .un, .un, .un] look_127 rfl (handed_body _ h.l6 hw (need_both_ok k h hw hl) (moved_along_ok (k + 1) h hw hl))

theorem line_zip2 {f : Int} {cs w : List Int} {j : Nat} {x : D} (h : (zipD (w.map .int) (alD f cs w w.length))[j]? = some x) : j < w.length ∧ x = .tuple [.int (at_ w j), tupI (A_ f cs w j)] := by
  obtain ⟨d, e, h1, h2, rfl⟩ := zipD_at h
  rw [List.getElem?_map] at h1
  cases hj : w[j]? with
  | none => rw [hj] at h1; cases h1
  | some p =>
    rw [hj] at h1
    cases h1
    have jl := (List.getElem?_eq_some_iff.mp hj).1
    unfold alD at h2
    rw [List.getElem?_map, List.getElem?_range jl] at h2
    cases h2
    have : at_ w (j : Int) = p := by
      unfold at_
      rw [Int.toNat_natCast, List.getD_eq_getElem?_getD, hj]; rfl
    exact ⟨jl, by rw [this]⟩
def tkR (f : Int) (cs w : List Int) (g : Int → Int) (a b d e : SV) : Rho := [.val (tabD f cs), .val (tupI w), .own ((IL cs.length g).map .int), a, b, d, e]
theorem taken_inner (c : FT) {f p : Int} {cs w X : List Int} {g : Int → Int} {d e : SV} (lx : X.length = cs.length) (l6 : cs.length ≤ 6) (bf : big (f - 1) = true) (bx : ∀ z : Int, big (at_ X z) = true) (cd : cold d) (ce : cold e) :
    ∃ d' e', cold d' ∧ cold e' ∧ ex c (.for_ (.many [5, 6]) (.enum (.var 4)) (.seq (.ite (.cmp .ne (.var 5) (.var 3)) (.seq (.augi 2 (.var 5) .add (.op .mul (.op .sub (.idx (.var 0) (.int 0)) (.int 1)) (.var 6)))
    .skip) .skip)
    .skip)) (tkR f cs w g (.val (.int p)) (.val (tupI X)) d e) = some (.nx, tkR f cs w (fun k => g k + if k = p then 0 else (f - 1) * at_ X k) (.val (.int p)) (.val (tupI X)) d' e') := by
  have he : evi c (.enum (.var 4)) (tkR f cs w g (.val (.int p)) (.val (tupI X)) d e) = some (enumD 0 (X.map .int), tkR f cs w g (.val (.int p)) (.val (tupI X)) d e) := by simp [runB, start, ob, bd, bz, bt, ex, evo, evm, isVar, ev, evs, evi, rd, frz, truth, isiT, isNon, idx2, slotD, slotL, putL, put, puts, bindT, blt1, blt2, op2, rdr, prt, cnd, isNil, outV, endR, wipe, back, partD, slice3, ix0, ix1, ix2, ix3, ints_map, augO, isI, okL, items_tupI, seq_tupI, items_tabD, seq_tabD, items_list, seq_list, tkR]
  obtain ⟨ρ', h, d', e', rfl, cd', ce'⟩ := wx_for (c := c) (t := .many [5, 6]) (b := (.seq (.ite (.cmp .ne (.var 5) (.var 3)) (.seq (.augi 2 (.var 5) .add (.op .mul (.op .sub (.idx (.var 0) (.int 0)) (.int 1)) (.var 6)))
    .skip) .skip)
    .skip)) he
    (fun i ρ => ∃ d e, ρ = tkR f cs w (fun k => if k < i then g k + (if k = p then 0 else (f - 1) * at_ X k) else g k) (.val (.int p)) (.val (tupI X)) d e ∧ cold d ∧ cold e)
    ⟨d, e, by unfold tkR; rw [IL_congr (g' := g) fun k k0 k1 => if_neg (show ¬ k < ((0 : Nat) : Int) by omega)], cd, ce⟩ (by
      rintro i x ρ hx ⟨d, e, rfl, cd, ce⟩
      obtain ⟨one, rfl, ho⟩ := enum_int hx
      have il := (List.getElem?_eq_some_iff.mp ho).1
      have ao : at_ X (i : Int) = one := by
        unfold at_
        rw [Int.toNat_natCast, List.getD_eq_getElem?_getD, ho]; rfl
      have iln : (i : Int) < cs.length := by omega
      have bo := bx (i : Int)
      rw [ao] at bo
      refine ⟨tkR f cs w (fun k => if k < i then g k + (if k = p then 0 else (f - 1) * at_ X k) else g k) (.val (.int p)) (.val (tupI X)) (.val (.int i)) (.val (.int one)), by rcases cd with rfl | ⟨d, rfl⟩ <;> rcases ce with rfl | ⟨d, rfl⟩ <;> rfl, ?_⟩
      refine ⟨.nx, tkR f cs w (fun k => if k < ((i + 1 : Nat) : Int) then g k + (if k = p then 0 else (f - 1) * at_ X k) else g k) (.val (.int p)) (.val (tupI X)) (.val (.int i)) (.val (.int one)), ?_, rfl, _, _, rfl, cold_val, cold_val⟩
      have y := ixD_at (cs := IL cs.length (fun k => if k < (i : Int) then g k + (if k = p then 0 else (f - 1) * at_ X k) else g k)) (k := (i : Int)) (by omega) (by rw [IL_len]; exact iln)
      rw [IL_at (by omega) iln, if_neg (by omega)] at y
      have ix := ixN_at (n := cs.length) (k := (i : Int)) (by omega) iln
      have ll := IL_len cs.length (fun k => if k < (i : Int) then g k + (if k = p then 0 else (f - 1) * at_ X k) else g k)
      by_cases hp : (i : Int) = p
      · have e2 : IL cs.length (fun k => if k < ((i + 1 : Nat) : Int) then g k + (if k = p then 0 else (f - 1) * at_ X k) else g k) = IL cs.length (fun k => if k < (i : Int) then g k + (if k = p then 0 else (f - 1) * at_ X k) else g k) := IL_congr fun k k0 k1 => by
          by_cases hk : k = (i : Int)
          · rw [if_pos (show k < ((i + 1 : Nat) : Int) by omega), if_neg (show ¬ k < (i : Int) by omega), if_pos (show k = p by omega)]; omega
          · by_cases h2 : k < (i : Int)
            · rw [if_pos (show k < ((i + 1 : Nat) : Int) by omega), if_pos h2]
            · rw [if_neg (show ¬ k < ((i + 1 : Nat) : Int) by omega), if_neg h2]
        unfold tkR
        rw [e2]
        generalize IL cs.length (fun k => if k < (i : Int) then g k + (if k = p then 0 else (f - 1) * at_ X k) else g k) = Z
        simp [runB, start, ob, bd, bz, bt, ex, evo, evm, isVar, ev, evs, evi, rd, frz, truth, isiT, isNon, idx2, slotD, slotL, putL, put, puts, bindT, blt1, blt2, op2, rdr, prt, cnd, isNil, outV, endR, wipe, back, partD, slice3, ix0, ix1, ix2, ix3, ints_map, augO, isI, okL, items_tupI, seq_tupI, items_tabD, seq_tabD, items_list, seq_list, cmp2, hp]
      · have e2 : IL cs.length (fun k => if k < ((i + 1 : Nat) : Int) then g k + (if k = p then 0 else (f - 1) * at_ X k) else g k) = (IL cs.length (fun k => if k < (i : Int) then g k + (if k = p then 0 else (f - 1) * at_ X k) else g k)).set (i : Int).toNat (g i + (f - 1) * one) := by
          rw [IL_set _ (by omega) iln]
          exact IL_congr fun k k0 k1 => by
            by_cases hk : k = (i : Int)
            · rw [if_pos (show k < ((i + 1 : Nat) : Int) by omega), if_pos hk, if_neg (show ¬ k = p by omega), hk, ao]
            · rw [if_neg hk]
              by_cases h2 : k < (i : Int)
              · rw [if_pos (show k < ((i + 1 : Nat) : Int) by omega), if_pos h2]
              · rw [if_neg (show ¬ k < ((i + 1 : Nat) : Int) by omega), if_neg h2]
        unfold tkR
        rw [e2, List.map_set]
        generalize IL cs.length (fun k => if k < (i : Int) then g k + (if k = p then 0 else (f - 1) * at_ X k) else g k) = Z at y ll ⊢
        rw [Int.toNat_natCast] at ix ⊢
        simp [runB, start, ob, bd, bz, bt, ex, evo, evm, isVar, ev, evs, evi, rd, frz, truth, isiT, isNon, idx2, slotD, slotL, putL, put, puts, bindT, blt1, blt2, op2, rdr, prt, cnd, isNil, outV, endR, wipe, back, partD, slice3, ix0, ix1, ix2, ix3, ints_map, augO, isI, okL, items_tupI, seq_tupI, items_tabD, seq_tabD, items_list, seq_list, cmp2, hp, y, ix, ll, bf, bo])
  rw [enumD_length, List.length_map, lx] at h
  refine ⟨d', e', cd', ce', ?_⟩
  unfold tkR at h ⊢
  rw [IL_congr (g' := fun k => g k + if k = p then 0 else (f - 1) * at_ X k) fun k k0 k1 => if_pos k1] at h
  exact h
theorem taken_body (c : FT) {f : Int} {cs w : List Int} (n6 : cs.length ≤ 6) (hw : InW cs.length w) (hl : w.length < 1000) (bf : big (f - 1) = true) (bx : ∀ (t : Nat) (z : Int), big (at_ (A_ f cs w t) z) = true) (q1 : c 119 none [tabD f cs, tupI w] = some (.val .none, [])) (q2 : c 120 none [tabD f cs, tupI w] = some (.own (alD f cs w w.length), [])) :
    Wx (ex c fn_128.body [.val (tabD f cs), .val (tupI w), .un, .un, .un, .un, .un]) fun o ρ' => outV o = some (.val (tupI (IL cs.length (tk f cs w w.length)))) ∧ endR fn_128.io ρ' = some [] := by
  have hm := mul_rep 0 (p := (cs.length : Int)) (by omega) (by omega)
  have z0 : (List.replicate cs.length (0 : Int)) = IL cs.length (tk f cs w 0) := (IL_zero cs.length).symm
  rw [Int.toNat_natCast, z0] at hm
  refine wx_seq (ρ1 := [.val (tabD f cs), .val (tupI w), .un, .un, .un, .un, .un]) (by simp [runB, start, ob, bd, bz, bt, ex, evo, evm, isVar, ev, evs, evi, rd, frz, truth, isiT, isNon, idx2, slotD, slotL, putL, put, puts, bindT, blt1, blt2, op2, rdr, prt, cnd, isNil, outV, endR, wipe, back, partD, slice3, ix0, ix1, ix2, ix3, ints_map, augO, isI, okL, items_tupI, seq_tupI, items_tabD, seq_tabD, items_list, seq_list, q1]) ?_
  refine wx_seq (ρ1 := tkR f cs w (tk f cs w 0) .un .un .un .un) (ex_set (ρ1 := [.val (tabD f cs), .val (tupI w), .un, .un, .un, .un, .un]) (ev_op (sva := .own [.int 0]) (svb := .val (.int cs.length)) (ρ1 := [.val (tabD f cs), .val (tupI w), .un, .un, .un, .un, .un]) (by simp [runB, start, ob, bd, bz, bt, ex, evo, evm, isVar, ev, evs, evi, rd, frz, truth, isiT, isNon, idx2, slotD, slotL, putL, put, puts, bindT, blt1, blt2, op2, rdr, prt, cnd, isNil, outV, endR, wipe, back, partD, slice3, ix0, ix1, ix2, ix3, ints_map, augO, isI, okL, items_tupI, seq_tupI, items_tabD, seq_tabD, items_list, seq_list]) rfl (by simp [runB, start, ob, bd, bz, bt, ex, evo, evm, isVar, ev, evs, evi, rd, frz, truth, isiT, isNon, idx2, slotD, slotL, putL, put, puts, bindT, blt1, blt2, op2, rdr, prt, cnd, isNil, outV, endR, wipe, back, partD, slice3, ix0, ix1, ix2, ix3, ints_map, augO, isI, okL, items_tupI, seq_tupI, items_tabD, seq_tabD, items_list, seq_list]) rfl hm) rfl) ?_
  have he : evi c (.zip (.var 1) (.call 120 (.cons (.var 0) (.cons (.var 1) .nil)))) (tkR f cs w (tk f cs w 0) .un .un .un .un) = some (zipD (w.map .int) (alD f cs w w.length), tkR f cs w (tk f cs w 0) .un .un .un .un) := by
    unfold tkR
    generalize alD f cs w w.length = M at q2
    generalize (IL cs.length (tk f cs w 0)).map PyData.int = Z
    simp [runB, start, ob, bd, bz, bt, ex, evo, evm, isVar, ev, evs, evi, rd, frz, truth, isiT, isNon, idx2, slotD, slotL, putL, put, puts, bindT, blt1, blt2, op2, rdr, prt, cnd, isNil, outV, endR, wipe, back, partD, slice3, ix0, ix1, ix2, ix3, ints_map, augO, isI, okL, items_tupI, seq_tupI, items_tabD, seq_tabD, items_list, seq_list, q2]
  obtain ⟨ρ', e, a, b, d, g, rfl, ca, cb, cd, cg⟩ := wx_for (c := c) (t := .many [3, 4]) (b := (.seq (.for_ (.many [5, 6]) (.enum (.var 4)) (.seq (.ite (.cmp .ne (.var 5) (.var 3)) (.seq (.augi 2 (.var 5) .add (.op .mul (.op .sub (.idx (.var 0) (.int 0)) (.int 1)) (.var 6)))
    .skip) .skip)
    .skip))
    .skip)) he
    (fun j ρ => ∃ a b d e, ρ = tkR f cs w (tk f cs w j) a b d e ∧ cold a ∧ cold b ∧ cold d ∧ cold e) ⟨.un, .un, .un, .un, rfl, cold_un, cold_un, cold_un, cold_un⟩ (by
      rintro j x ρ hx ⟨a, b, d, g, rfl, ca, cb, cd, cg⟩
      obtain ⟨jl, rfl⟩ := line_zip2 hx
      obtain ⟨d', e', cd', ce', h⟩ := taken_inner c (f := f) (p := at_ w j) (cs := cs) (w := w) (X := A_ f cs w j) (g := tk f cs w j) (d := d) (e := g) (A_len _ _ _ _) n6 bf (bx j) cd cg
      refine ⟨tkR f cs w (tk f cs w j) (.val (.int (at_ w j))) (.val (tupI (A_ f cs w j))) d g, by rcases ca with rfl | ⟨d, rfl⟩ <;> rcases cb with rfl | ⟨d, rfl⟩ <;> rfl, ?_⟩
      exact wx_seq h (wx_skip ⟨rfl, .val (.int (at_ w j)), .val (tupI (A_ f cs w j)), d', e', rfl, cold_val, cold_val, cd', ce'⟩))
  have zl : (zipD (w.map PyData.int) (alD f cs w w.length)).length = w.length := by rw [zipD_length, alD_len, List.length_map, Nat.min_self]
  rw [zl] at e
  refine wx_seq e (wx_seqR (v := .val (tupI (IL cs.length (tk f cs w w.length)))) (ρ1 := tkR f cs w (tk f cs w w.length) a b d g) (ex_retE rfl ?_) ⟨rfl, rfl⟩)
  unfold tkR tupI
  generalize (IL cs.length (tk f cs w w.length)).map PyData.int = Z
  simp [runB, start, ob, bd, bz, bt, ex, evo, evm, isVar, ev, evs, evi, rd, frz, truth, isiT, isNon, idx2, slotD, slotL, putL, put, puts, bindT, blt1, blt2, op2, rdr, prt, cnd, isNil, outV, endR, wipe, back, partD, slice3, ix0, ix1, ix2, ix3, ints_map, augO, isI, okL, items_tupI, seq_tupI, items_tabD, seq_tabD, items_list, seq_list]
theorem taken2_ok (k : Nat) {f : Int} {cs w : List Int} (h : Table f cs) (hw : InW cs.length w) (hl : w.length ≤ 40) : run TB.fn (k + 5) 128 none [tabD f cs, tupI w] = some (.val (tupI (IL cs.length (tk f cs w w.length))), []) :=
  run_eq [.val (tabD f cs), .val (tupI w), .un, .un, .un, .un, .un] look_128 rfl (taken_body _ h.l6 hw (by omega) (big_of (by have := h.f2; have := h.f9; omega)) (fun t z => (A_bd h hw hl t).bigA z) (need_both_ok k h hw hl) (line_of_ok (k + 2) h hw hl))

def k39R (s0 : D) (r : List D) (f : Int) (cs w : List Int) (a7 a8 a9 a10 a11 a12 a13 a14 a15 a16 a17 : SV) : Rho := [.val s0, .own r, .val (tabD f cs), .val (.int f), .val (tupI cs), .val (.int cs.length), .val (tupI w), a7, a8, a9, a10, a11, a12, a13, a14, a15, a16, a17]
theorem mov_eq {f : Int} {cs w : List Int} (hw : InW cs.length w) {t : Nat} (ht : t < w.length) : at_ (A_ f cs w t) (at_ w t) - at_ (A_ f cs w (t + 1)) (at_ w t) = mov f cs w t := by
  have hp := at_some (cs := w) (k := (t : Int)) (by omega) (by omega)
  rw [Int.toNat_natCast] at hp
  obtain ⟨p0, p1⟩ := hw _ (List.mem_of_getElem? hp)
  rw [A_succ hw hp, owedL_at p0 (by rw [A_len]; exact p1), A_sum hw]
  unfold mov
  rw [Int.mul_sub, Int.sub_mul f 1 (at_ (A_ f cs w t) (at_ w t))]
  omega
theorem movL_ints (f : Int) (cs w : List Int) : (movL f cs w).map PyData.int = (upto w.length).map fun t => .int (mov f cs w t.toNat) := by
  unfold movL upto
  rw [List.map_map, List.map_map]
  rfl
theorem k39_mov (c : FT) {s0 : D} {r : List D} {f : Int} {cs w : List Int} {a8 a9 a10 a11 a12 a13 a14 a15 a16 a17 : SV} (hw : InW cs.length w) (hl : w.length ≤ 40) :
    ev c (.comp (.op .sub (.idx (.idx (.var 7) (.var 11)) (.idx (.var 6) (.var 11))) (.idx (.idx (.var 7) (.op .add (.var 11) (.int 1))) (.idx (.var 6) (.var 11)))) (.rng1 (.blt1 .len (.var 6))) (.one 11) .nil [11]) (k39R s0 r f cs w (.own (alD f cs w (w.length + 1))) a8 a9 a10 a11 a12 a13 a14 a15 a16 a17) = some (.own ((movL f cs w).map .int), k39R s0 r f cs w (.own (alD f cs w (w.length + 1))) a8 a9 a10 a11 a12 a13 a14 a15 a16 a17) := by
  rw [movL_ints]
  refine ev_comp (ρ1 := k39R s0 r f cs w (.own (alD f cs w (w.length + 1))) a8 a9 a10 a11 a12 a13 a14 a15 a16 a17) (xs := (upto w.length).map .int) (evi_rng1 (n := (w.length : Int)) (by
    unfold k39R
    generalize alD f cs w (w.length + 1) = Z
    simp [runB, start, ob, bd, bz, bt, ex, evo, evm, isVar, ev, evs, evi, rd, frz, truth, isiT, isNon, idx2, slotD, slotL, putL, put, puts, bindT, blt1, blt2, op2, rdr, prt, cnd, isNil, outV, endR, wipe, back, partD, slice3, ix0, ix1, ix2, ix3, ints_map, augO, isI, okL, items_tupI, seq_tupI, items_tabD, seq_tabD, items_list, seq_list]) (rngOk_of (by omega) (by omega))) (compL_ints (fun t => .int (mov f cs w t.toNat)) fun t ht => ?_) (by rw [List.length_map, upto_length]; omega)
  obtain ⟨t0, t1⟩ := mem_upto.mp ht
  have hp := at_some (cs := w) t0 t1
  obtain ⟨p0, p1⟩ := hw _ (List.mem_of_getElem? hp)
  have y0 := ixD_at (cs := w) t0 t1
  have y1 := alD_ix (f := f) (cs := cs) (w := w) (n := w.length + 1) (t := t) t0 (by omega)
  have y2 := alD_ix (f := f) (cs := cs) (w := w) (n := w.length + 1) (t := t + 1) (by omega) (by omega)
  have me := mov_eq (f := f) hw (t := t.toNat) (by omega)
  rw [Int.toNat_of_nonneg t0] at me
  rw [show (t + 1).toNat = t.toNat + 1 by omega] at y2
  have z1 := ixD_at (cs := A_ f cs w t.toNat) p0 (by rw [A_len]; exact p1)
  have z2 := ixD_at (cs := A_ f cs w (t.toNat + 1)) p0 (by rw [A_len]; exact p1)
  rw [← me]
  unfold k39R
  generalize alD f cs w (w.length + 1) = Z at y1 y2
  generalize A_ f cs w t.toNat = X at y1 z1 ⊢
  generalize A_ f cs w (t.toNat + 1) = Y at y2 z2 ⊢
  generalize at_ w t = p at y0 z1 z2 ⊢
  simp [runB, start, ob, bd, bz, bt, ex, evo, evm, isVar, ev, evs, evi, rd, frz, truth, isiT, isNon, idx2, slotD, slotL, putL, put, puts, bindT, blt1, blt2, op2, rdr, prt, cnd, isNil, outV, endR, wipe, back, partD, slice3, ix0, ix1, ix2, ix3, ints_map, augO, isI, okL, items_tupI, seq_tupI, items_tabD, seq_tabD, items_list, seq_list, y0, y1, y2, z1, z2]
theorem k39_mov2 (c : FT) {s0 : D} {r : List D} {f : Int} {cs w v : List Int} {a7 a8 a9 a10 a11 a12 a13 a14 a17 : SV} (hw : InW cs.length v) (hl : v.length ≤ 41) :
    ev c (.comp (.op .sub (.idx (.idx (.var 15) (.var 11)) (.idx (.var 16) (.var 11))) (.idx (.idx (.var 15) (.op .add (.var 11) (.int 1))) (.idx (.var 16) (.var 11)))) (.rng1 (.blt1 .len (.var 16))) (.one 11) .nil [11]) (k39R s0 r f cs w a7 a8 a9 a10 a11 a12 a13 a14 (.val (.list (alD f cs v (v.length + 1)))) (.val (tupI v)) a17) = some (.own ((movL f cs v).map .int), k39R s0 r f cs w a7 a8 a9 a10 a11 a12 a13 a14 (.val (.list (alD f cs v (v.length + 1)))) (.val (tupI v)) a17) := by
  rw [movL_ints]
  refine ev_comp (ρ1 := k39R s0 r f cs w a7 a8 a9 a10 a11 a12 a13 a14 (.val (.list (alD f cs v (v.length + 1)))) (.val (tupI v)) a17) (xs := (upto v.length).map .int) (evi_rng1 (n := (v.length : Int)) (by
    unfold k39R
    generalize alD f cs v (v.length + 1) = Z
    simp [runB, start, ob, bd, bz, bt, ex, evo, evm, isVar, ev, evs, evi, rd, frz, truth, isiT, isNon, idx2, slotD, slotL, putL, put, puts, bindT, blt1, blt2, op2, rdr, prt, cnd, isNil, outV, endR, wipe, back, partD, slice3, ix0, ix1, ix2, ix3, ints_map, augO, isI, okL, items_tupI, seq_tupI, items_tabD, seq_tabD, items_list, seq_list]) (rngOk_of (by omega) (by omega))) (compL_ints (fun t => .int (mov f cs v t.toNat)) fun t ht => ?_) (by rw [List.length_map, upto_length]; omega)
  obtain ⟨t0, t1⟩ := mem_upto.mp ht
  have hp := at_some (cs := v) t0 t1
  obtain ⟨p0, p1⟩ := hw _ (List.mem_of_getElem? hp)
  have y0 := ixD_at (cs := v) t0 t1
  have y1 := alD_ix (f := f) (cs := cs) (w := v) (n := v.length + 1) (t := t) t0 (by omega)
  have y2 := alD_ix (f := f) (cs := cs) (w := v) (n := v.length + 1) (t := t + 1) (by omega) (by omega)
  have me := mov_eq (f := f) hw (t := t.toNat) (by omega)
  rw [Int.toNat_of_nonneg t0] at me
  rw [show (t + 1).toNat = t.toNat + 1 by omega] at y2
  have z1 := ixD_at (cs := A_ f cs v t.toNat) p0 (by rw [A_len]; exact p1)
  have z2 := ixD_at (cs := A_ f cs v (t.toNat + 1)) p0 (by rw [A_len]; exact p1)
  rw [← me]
  unfold k39R
  generalize alD f cs v (v.length + 1) = Z at y1 y2
  generalize A_ f cs v t.toNat = X at y1 z1 ⊢
  generalize A_ f cs v (t.toNat + 1) = Y at y2 z2 ⊢
  generalize at_ v t = p at y0 z1 z2 ⊢
  simp [runB, start, ob, bd, bz, bt, ex, evo, evm, isVar, ev, evs, evi, rd, frz, truth, isiT, isNon, idx2, slotD, slotL, putL, put, puts, bindT, blt1, blt2, op2, rdr, prt, cnd, isNil, outV, endR, wipe, back, partD, slice3, ix0, ix1, ix2, ix3, ints_map, augO, isI, okL, items_tupI, seq_tupI, items_tabD, seq_tabD, items_list, seq_list, y0, y1, y2, z1, z2]
theorem k39_in (c : FT) {s0 : D} {r : List D} {f p mv : Int} {cs w X Y : List Int} {Z : List D} {M : List D} {g h : Int → Int} {t : Nat} {a12 a13 a14 a15 a16 a17 : SV} (l6 : cs.length ≤ 6) (lx : X.length = cs.length) (ly : Y.length = cs.length)
    (y0 : ixD (w.map .int) t = some (.int p)) (ym : ixD M t = some (.int mv)) (y1 : ixD Z t = some (tupI X)) (y2 : ixD Z ((t : Int) + 1) = some (tupI Y)) (ck : cold a12) :
    ∃ k', cold k' ∧ ex c (.for_ (.one 12) (.rng1 (.var 5)) (.seq (.ite (.cmp .eq (.var 12) (.idx (.var 6) (.var 11))) (.seq (.seti 9 (.var 12) (.op .add (.idx (.var 9) (.var 12)) (.idx (.var 8) (.var 11))))
    .skip) (.seq (.seti 10 (.var 12) (.op .sub (.op .add (.idx (.var 10) (.var 12)) (.idx (.idx (.var 7) (.op .add (.var 11) (.int 1))) (.var 12))) (.idx (.idx (.var 7) (.var 11)) (.var 12))))
    .skip))
    .skip)) (k39R s0 r f cs w (.own Z) (.own M) (.own ((IL cs.length g).map .int)) (.own ((IL cs.length h).map .int)) (.val (.int t)) a12 a13 a14 a15 a16 a17) =
      some (.nx, k39R s0 r f cs w (.own Z) (.own M) (.own ((IL cs.length fun k => g k + if k = p then mv else 0).map .int)) (.own ((IL cs.length fun k => h k + if k = p then 0 else at_ Y k - at_ X k).map .int)) (.val (.int t)) k' a13 a14 a15 a16 a17) := by
  have he : evi c (.rng1 (.var 5)) (k39R s0 r f cs w (.own Z) (.own M) (.own ((IL cs.length g).map .int)) (.own ((IL cs.length h).map .int)) (.val (.int t)) a12 a13 a14 a15 a16 a17) = some ((upto cs.length).map .int, k39R s0 r f cs w (.own Z) (.own M) (.own ((IL cs.length g).map .int)) (.own ((IL cs.length h).map .int)) (.val (.int t)) a12 a13 a14 a15 a16 a17) := evi_rng1 (n := (cs.length : Int)) rfl (rngOk_of (by omega) (by omega))
  obtain ⟨ρ', e, k', rfl, ck'⟩ := wx_for (c := c) (t := .one 12) (b := (.seq (.ite (.cmp .eq (.var 12) (.idx (.var 6) (.var 11))) (.seq (.seti 9 (.var 12) (.op .add (.idx (.var 9) (.var 12)) (.idx (.var 8) (.var 11))))
    .skip) (.seq (.seti 10 (.var 12) (.op .sub (.op .add (.idx (.var 10) (.var 12)) (.idx (.idx (.var 7) (.op .add (.var 11) (.int 1))) (.var 12))) (.idx (.idx (.var 7) (.var 11)) (.var 12))))
    .skip))
    .skip)) he
    (fun i ρ => ∃ k', ρ = k39R s0 r f cs w (.own Z) (.own M) (.own ((IL cs.length fun k => if k < i then g k + (if k = p then mv else 0) else g k).map .int)) (.own ((IL cs.length fun k => if k < i then h k + (if k = p then 0 else at_ Y k - at_ X k) else h k).map .int)) (.val (.int t)) k' a13 a14 a15 a16 a17 ∧ cold k')
    ⟨a12, by rw [IL_congr (g' := g) fun k k0 k1 => if_neg (show ¬ k < ((0 : Nat) : Int) by omega), IL_congr (g' := h) fun k k0 k1 => if_neg (show ¬ k < ((0 : Nat) : Int) by omega)], ck⟩ (by
      rintro i x ρ hx ⟨k', rfl, ck'⟩
      have hi : i < cs.length := by
        have := (List.getElem?_eq_some_iff.mp hx).1
        simpa [upto_length] using this
      have ey : x = .int (i : Int) := by
        rw [List.getElem?_map, upto_get hi] at hx
        exact (Option.some.inj hx).symm
      subst ey
      have iln : (i : Int) < cs.length := by omega
      refine ⟨k39R s0 r f cs w (.own Z) (.own M) (.own ((IL cs.length fun k => if k < i then g k + (if k = p then mv else 0) else g k).map .int)) (.own ((IL cs.length fun k => if k < i then h k + (if k = p then 0 else at_ Y k - at_ X k) else h k).map .int)) (.val (.int t)) (.val (.int i)) a13 a14 a15 a16 a17, by rcases ck' with rfl | ⟨d, rfl⟩ <;> rfl, ?_⟩
      refine ⟨.nx, k39R s0 r f cs w (.own Z) (.own M) (.own ((IL cs.length fun k => if k < ((i + 1 : Nat) : Int) then g k + (if k = p then mv else 0) else g k).map .int)) (.own ((IL cs.length fun k => if k < ((i + 1 : Nat) : Int) then h k + (if k = p then 0 else at_ Y k - at_ X k) else h k).map .int)) (.val (.int t)) (.val (.int i)) a13 a14 a15 a16 a17, ?_, rfl, _, rfl, cold_val⟩
      have gl := IL_len cs.length (fun k => if k < (i : Int) then g k + (if k = p then mv else 0) else g k)
      have hl := IL_len cs.length (fun k => if k < (i : Int) then h k + (if k = p then 0 else at_ Y k - at_ X k) else h k)
      have yg := ixD_at (cs := IL cs.length (fun k => if k < (i : Int) then g k + (if k = p then mv else 0) else g k)) (k := (i : Int)) (by omega) (by rw [IL_len]; exact iln)
      have yh := ixD_at (cs := IL cs.length (fun k => if k < (i : Int) then h k + (if k = p then 0 else at_ Y k - at_ X k) else h k)) (k := (i : Int)) (by omega) (by rw [IL_len]; exact iln)
      rw [IL_at (by omega) iln, if_neg (show ¬ (i : Int) < (i : Int) by omega)] at yg yh
      have yx := ixD_at (cs := X) (k := (i : Int)) (by omega) (by omega)
      have yy := ixD_at (cs := Y) (k := (i : Int)) (by omega) (by omega)
      have ix := ixN_at (n := cs.length) (k := (i : Int)) (by omega) iln
      rw [Int.toNat_natCast] at ix
      have keep : ∀ (q q' : Int → Int), q' i = q i → IL cs.length (fun k => if k < ((i + 1 : Nat) : Int) then q' k else q k) = IL cs.length (fun k => if k < (i : Int) then q' k else q k) := fun q q' hq => IL_congr fun k k0 k1 => by
        by_cases hk : k = (i : Int)
        · rw [if_pos (show k < ((i + 1 : Nat) : Int) by omega), if_neg (show ¬ k < (i : Int) by omega), hk, hq]
        · by_cases h2 : k < (i : Int)
          · rw [if_pos (show k < ((i + 1 : Nat) : Int) by omega), if_pos h2]
          · rw [if_neg (show ¬ k < ((i + 1 : Nat) : Int) by omega), if_neg h2]
      have chg : ∀ (q q' : Int → Int), IL cs.length (fun k => if k < ((i + 1 : Nat) : Int) then q' k else q k) = (IL cs.length (fun k => if k < (i : Int) then q' k else q k)).set i (q' i) := fun q q' => by
        have st := IL_set (n := cs.length) (g := fun k => if k < (i : Int) then q' k else q k) (k := (i : Int)) (q' i) (by omega) iln
        rw [Int.toNat_natCast] at st
        rw [st]
        exact IL_congr fun k k0 k1 => by
          by_cases hk : k = (i : Int)
          · rw [if_pos (show k < ((i + 1 : Nat) : Int) by omega), if_pos hk, hk]
          · rw [if_neg hk]
            by_cases h2 : k < (i : Int)
            · rw [if_pos (show k < ((i + 1 : Nat) : Int) by omega), if_pos h2]
            · rw [if_neg (show ¬ k < ((i + 1 : Nat) : Int) by omega), if_neg h2]
      by_cases hp : (i : Int) = p
      · rw [keep h (fun k => h k + (if k = p then 0 else at_ Y k - at_ X k)) (by rw [if_pos hp]; omega), chg g (fun k => g k + (if k = p then mv else 0)), List.map_set]
        generalize IL cs.length (fun k => if k < (i : Int) then g k + (if k = p then mv else 0) else g k) = G at gl yg ⊢
        generalize IL cs.length (fun k => if k < (i : Int) then h k + (if k = p then 0 else at_ Y k - at_ X k) else h k) = H
        subst hp
        simp [runB, start, ob, bd, bz, bt, ex, evo, evm, isVar, ev, evs, evi, rd, frz, truth, isiT, isNon, idx2, slotD, slotL, putL, put, puts, bindT, blt1, blt2, op2, rdr, prt, cnd, isNil, outV, endR, wipe, back, partD, slice3, ix0, ix1, ix2, ix3, ints_map, augO, isI, okL, items_tupI, seq_tupI, items_tabD, seq_tabD, items_list, seq_list, cmp2, k39R, y0, ym, yg, gl, ix]
      · rw [keep g (fun k => g k + (if k = p then mv else 0)) (by rw [if_neg hp]; omega), chg h (fun k => h k + (if k = p then 0 else at_ Y k - at_ X k)), List.map_set, if_neg hp]
        generalize IL cs.length (fun k => if k < (i : Int) then g k + (if k = p then mv else 0) else g k) = G
        generalize IL cs.length (fun k => if k < (i : Int) then h k + (if k = p then 0 else at_ Y k - at_ X k) else h k) = H at hl yh ⊢
        have as : h (i : Int) + at_ Y (i : Int) - at_ X (i : Int) = h (i : Int) + (at_ Y (i : Int) - at_ X (i : Int)) := by omega
        rw [← as]
        simp [runB, start, ob, bd, bz, bt, ex, evo, evm, isVar, ev, evs, evi, rd, frz, truth, isiT, isNon, idx2, slotD, slotL, putL, put, puts, bindT, blt1, blt2, op2, rdr, prt, cnd, isNil, outV, endR, wipe, back, partD, slice3, ix0, ix1, ix2, ix3, ints_map, augO, isI, okL, items_tupI, seq_tupI, items_tabD, seq_tabD, items_list, seq_list, cmp2, k39R, y0, y1, y2, yx, yy, yh, hl, ix, hp])
  rw [List.length_map, upto_length] at e
  refine ⟨k', ck', ?_⟩
  rw [IL_congr (g' := fun k => g k + if k = p then mv else 0) fun k k0 k1 => if_pos k1, IL_congr (g' := fun k => h k + if k = p then 0 else at_ Y k - at_ X k) fun k k0 k1 => if_pos k1] at e
  exact e

theorem k39_out (c : FT) {s0 : D} {r : List D} {f : Int} {cs w : List Int} (l6 : cs.length ≤ 6) (hw : InW cs.length w) (hl : w.length ≤ 40) :
    ∃ t k, ex c (.for_ (.one 11) (.rng1 (.blt1 .len (.var 6))) (.seq (.for_ (.one 12) (.rng1 (.var 5)) (.seq (.ite (.cmp .eq (.var 12) (.idx (.var 6) (.var 11))) (.seq (.seti 9 (.var 12) (.op .add (.idx (.var 9) (.var 12)) (.idx (.var 8) (.var 11))))
    .skip) (.seq (.seti 10 (.var 12) (.op .sub (.op .add (.idx (.var 10) (.var 12)) (.idx (.idx (.var 7) (.op .add (.var 11) (.int 1))) (.var 12))) (.idx (.idx (.var 7) (.var 11)) (.var 12))))
    .skip))
    .skip))
    .skip)) (k39R s0 r f cs w (.own (alD f cs w (w.length + 1))) (.own ((movL f cs w).map .int)) (.own ((IL cs.length (hd f cs w 0)).map .int)) (.own ((IL cs.length (tk f cs w 0)).map .int)) .un .un .un .un .un .un .un) =
      some (.nx, k39R s0 r f cs w (.own (alD f cs w (w.length + 1))) (.own ((movL f cs w).map .int)) (.own ((IL cs.length (hd f cs w w.length)).map .int)) (.own ((IL cs.length (tk f cs w w.length)).map .int)) t k .un .un .un .un .un) := by
  have he : evi c (.rng1 (.blt1 .len (.var 6))) (k39R s0 r f cs w (.own (alD f cs w (w.length + 1))) (.own ((movL f cs w).map .int)) (.own ((IL cs.length (hd f cs w 0)).map .int)) (.own ((IL cs.length (tk f cs w 0)).map .int)) .un .un .un .un .un .un .un) = some ((upto w.length).map .int, k39R s0 r f cs w (.own (alD f cs w (w.length + 1))) (.own ((movL f cs w).map .int)) (.own ((IL cs.length (hd f cs w 0)).map .int)) (.own ((IL cs.length (tk f cs w 0)).map .int)) .un .un .un .un .un .un .un) := evi_rng1 (n := (w.length : Int)) (by
    unfold k39R
    generalize alD f cs w (w.length + 1) = Z
    generalize (movL f cs w).map PyData.int = M
    generalize (IL cs.length (hd f cs w 0)).map PyData.int = G
    generalize (IL cs.length (tk f cs w 0)).map PyData.int = H
    simp [runB, start, ob, bd, bz, bt, ex, evo, evm, isVar, ev, evs, evi, rd, frz, truth, isiT, isNon, idx2, slotD, slotL, putL, put, puts, bindT, blt1, blt2, op2, rdr, prt, cnd, isNil, outV, endR, wipe, back, partD, slice3, ix0, ix1, ix2, ix3, ints_map, augO, isI, okL, items_tupI, seq_tupI, items_tabD, seq_tabD, items_list, seq_list]) (rngOk_of (by omega) (by omega))
  obtain ⟨ρ', e, t, k, rfl, ct, ck⟩ := wx_for (c := c) (t := .one 11) (b := (.seq (.for_ (.one 12) (.rng1 (.var 5)) (.seq (.ite (.cmp .eq (.var 12) (.idx (.var 6) (.var 11))) (.seq (.seti 9 (.var 12) (.op .add (.idx (.var 9) (.var 12)) (.idx (.var 8) (.var 11))))
    .skip) (.seq (.seti 10 (.var 12) (.op .sub (.op .add (.idx (.var 10) (.var 12)) (.idx (.idx (.var 7) (.op .add (.var 11) (.int 1))) (.var 12))) (.idx (.idx (.var 7) (.var 11)) (.var 12))))
    .skip))
    .skip))
    .skip)) he
    (fun j ρ => ∃ t k, ρ = k39R s0 r f cs w (.own (alD f cs w (w.length + 1))) (.own ((movL f cs w).map .int)) (.own ((IL cs.length (hd f cs w j)).map .int)) (.own ((IL cs.length (tk f cs w j)).map .int)) t k .un .un .un .un .un ∧ cold t ∧ cold k) ⟨.un, .un, rfl, cold_un, cold_un⟩ (by
      rintro j x ρ hx ⟨t, k, rfl, ct, ck⟩
      have hj : j < w.length := by
        have := (List.getElem?_eq_some_iff.mp hx).1
        simpa [upto_length] using this
      have ey : x = .int (j : Int) := by
        rw [List.getElem?_map, upto_get hj] at hx
        exact (Option.some.inj hx).symm
      subst ey
      have hp := at_some (cs := w) (k := (j : Int)) (by omega) (by omega)
      rw [Int.toNat_natCast] at hp
      obtain ⟨p0, p1⟩ := hw _ (List.mem_of_getElem? hp)
      have y0 := ixD_at (cs := w) (k := (j : Int)) (by omega) (by omega)
      have y1 := alD_ix (f := f) (cs := cs) (w := w) (n := w.length + 1) (t := (j : Int)) (by omega) (by omega)
      have y2 := alD_ix (f := f) (cs := cs) (w := w) (n := w.length + 1) (t := (j : Int) + 1) (by omega) (by omega)
      rw [Int.toNat_natCast] at y1
      rw [show ((j : Int) + 1).toNat = j + 1 by omega] at y2
      have ym : ixD ((movL f cs w).map .int) (j : Int) = some (.int (mov f cs w j)) := ixD_nat (by unfold movL; rw [List.getElem?_map, List.getElem?_map, List.getElem?_range hj]; rfl)
      obtain ⟨k', ck', e⟩ := k39_in c (s0 := s0) (r := r) (f := f) (p := at_ w j) (mv := mov f cs w j) (cs := cs) (w := w) (X := A_ f cs w j) (Y := A_ f cs w (j + 1)) (Z := alD f cs w (w.length + 1)) (M := (movL f cs w).map .int) (g := hd f cs w j) (h := tk f cs w j) (t := j) (a12 := k) (a13 := .un) (a14 := .un) (a15 := .un) (a16 := .un) (a17 := .un) l6 (A_len _ _ _ _) (A_len _ _ _ _) y0 ym y1 y2 ck
      have eh : IL cs.length (fun k => tk f cs w j k + if k = at_ w j then 0 else at_ (A_ f cs w (j + 1)) k - at_ (A_ f cs w j) k) = IL cs.length (tk f cs w (j + 1)) := IL_congr fun z z0 z1 => by
        show _ = tk f cs w j z + (if z = at_ w j then 0 else (f - 1) * at_ (A_ f cs w j) z)
        by_cases c : z = at_ w j
        · rw [if_pos c, if_pos c]
        · rw [if_neg c, if_neg c, A_succ hw hp, owedL_ne p0 z0 (by rw [A_len]; exact z1) c, Int.sub_mul]; omega
      have eg : IL cs.length (fun k => hd f cs w j k + if k = at_ w j then mov f cs w j else 0) = IL cs.length (hd f cs w (j + 1)) := rfl
      rw [eh, eg] at e
      refine ⟨k39R s0 r f cs w (.own (alD f cs w (w.length + 1))) (.own ((movL f cs w).map .int)) (.own ((IL cs.length (hd f cs w j)).map .int)) (.own ((IL cs.length (tk f cs w j)).map .int)) (.val (.int j)) k .un .un .un .un .un, by rcases ct with rfl | ⟨d, rfl⟩ <;> rfl, ?_⟩
      exact wx_seq e (wx_skip ⟨rfl, _, _, rfl, cold_val, ck'⟩))
  rw [List.length_map, upto_length] at e
  exact ⟨t, k, e⟩
theorem evs_nil {c : FT} {ρ : Rho} : evs c .nil ρ = some ([], ρ) := by unfold evs; rfl
theorem evs_cons {c : FT} {e es : E} {ρ ρ1 ρ2 : Rho} {sv : SV} {d : D} {ds : List D} (h : ev c e ρ = some (sv, ρ1)) (z : frz sv = some d) (h2 : evs c es ρ1 = some (ds, ρ2)) : evs c (.cons e es) ρ = some (d :: ds, ρ2) := by
  show bz (ev c e ρ) _ = _
  rw [h]
  unfold bz
  simp only [z, h2, bd]
theorem ev_notT {c : FT} {e : E} {ρ ρ1 : Rho} (h : ev c e ρ = some (.val (.bool true), ρ1)) : ev c (.not e) ρ = some (.val (.bool false), ρ1) := by
  show bt (ev c e ρ) _ = _
  rw [h]; rfl
theorem k39_end (c : FT) {s0 : D} {r r2 : List D} {f : Int} {cs w v X gI tI dI : List Int} {AL AV : List D} {a8 t11 k12 : SV} {far : Nat} {sv : Int} {O : D} (l6 : cs.length ≤ 6) (lg : gI.length = cs.length) (lt : tI.length = cs.length) (ld : dI.length = cs.length) (lx : X.length = cs.length)
    (il : ixD AL (-1) = some (tupI X)) (hd1 : ∀ k : Int, 0 ≤ k → k < cs.length → at_ X k - at_ cs k = at_ dI k) (hd2 : ∀ k : Int, 0 ≤ k → k < cs.length → at_ tI k - at_ gI k = at_ dI k) (hs : gI.sum = tI.sum)
    (q127 : c 127 none [tabD f cs, tupI w] = some (.val (tupI gI), [])) (q128 : c 128 none [tabD f cs, tupI w] = some (.val (tupI tI), [])) (q125 : c 125 none [tabD f cs, tupI w] = some (.val (tupI dI), []))
    (q126 : c 126 none [tabD f cs, tupI w] = some (.val (tupI ((upto cs.length).filter fun z => decide (at_ dI z < 0))), [])) (qa : ∀ l : List Int, l.length ≤ 6 → c 17 none [tupI l, tupI l] = some (.val (.bool true), []))
    (e12 : c 12 (some r) [.int 41] = some (.val (.int far), r2)) (q47 : c 47 none [.int f, tupI cs, .int far] = some (.val (.tuple [.list AV, tupI v]), []))
    (hm : ∀ a7 a8 a9 a10 a11 a12 a13 a14 a17 : SV, ev c (.comp (.op .sub (.idx (.idx (.var 15) (.var 11)) (.idx (.var 16) (.var 11))) (.idx (.idx (.var 15) (.op .add (.var 11) (.int 1))) (.idx (.var 16) (.var 11)))) (.rng1 (.blt1 .len (.var 16))) (.one 11) .nil [11]) (k39R s0 r2 f cs w a7 a8 a9 a10 a11 a12 a13 a14 (.val (.list AV)) (.val (tupI v)) a17) = some (.own ((movL f cs v).map .int), k39R s0 r2 f cs w a7 a8 a9 a10 a11 a12 a13 a14 (.val (.list AV)) (.val (tupI v)) a17))
    (hsv : (movL f cs v).sum = sv) (q123 : c 123 none [tabD f cs, .int far] = some (.val O, [])) (hO : O = if (v.length : Int) = far then .int sv else .none) (qO : c 17 none [O, O] = some (.val (.bool true), [])) :
    Wx (ex c (.seq (.set 13 (.comp (.op .sub (.idx (.idx (.var 7) (.neg (.int 1))) (.var 12)) (.idx (.var 4) (.var 12))) (.rng1 (.var 5)) (.one 12) .nil [12]))
    (.seq (.ite (.or (.not (.call 17 (.cons (.call 127 (.cons (.var 2) (.cons (.var 6) .nil))) (.cons (.blt1 .tuple (.var 9)) .nil)))) (.not (.call 17 (.cons (.call 128 (.cons (.var 2) (.cons (.var 6) .nil))) (.cons (.blt1 .tuple (.var 10)) .nil))))) (.seq (.ret (.bl false))
    .skip) .skip)
    (.seq (.ite (.not (.call 17 (.cons (.call 125 (.cons (.var 2) (.cons (.var 6) .nil))) (.cons (.blt1 .tuple (.var 13)) .nil)))) (.seq (.ret (.bl false))
    .skip) .skip)
    (.seq (.ite (.or (.cmp .ne (.var 13) (.comp (.op .sub (.idx (.var 10) (.var 12)) (.idx (.var 9) (.var 12))) (.rng1 (.var 5)) (.one 12) .nil [12])) (.cmp .ne (.blt1 .sum (.var 9)) (.blt1 .sum (.var 10)))) (.seq (.ret (.bl false))
    .skip) .skip)
    (.seq (.ite (.not (.call 17 (.cons (.call 126 (.cons (.var 2) (.cons (.var 6) .nil))) (.cons (.blt1 .tuple (.comp (.var 12) (.rng1 (.var 5)) (.one 12) (.cmp .lt (.idx (.var 13) (.var 12)) (.int 0)) [12])) .nil)))) (.seq (.ret (.bl false))
    .skip) .skip)
    (.seq (.set 14 (.callr 12 1 (.cons (.int 41) .nil)))
    (.seq (.unp [15, 16] (.call 47 (.cons (.var 3) (.cons (.var 4) (.cons (.var 14) .nil)))))
    (.seq (.set 17 (.blt1 .sum (.comp (.op .sub (.idx (.idx (.var 15) (.var 11)) (.idx (.var 16) (.var 11))) (.idx (.idx (.var 15) (.op .add (.var 11) (.int 1))) (.idx (.var 16) (.var 11)))) (.rng1 (.blt1 .len (.var 16))) (.one 11) .nil [11])))
    (.seq (.ret (.call 17 (.cons (.call 123 (.cons (.var 2) (.cons (.var 14) .nil))) (.cons (.ife (.cmp .eq (.blt1 .len (.var 16)) (.var 14)) (.var 17) .non) .nil))))
    .skip))))))))) (k39R s0 r f cs w (.own AL) a8 (.own (gI.map .int)) (.own (tI.map .int)) t11 k12 .un .un .un .un .un)) fun o ρ' => outV o = some (.val (.bool true)) ∧ endR false ρ' = some [] := by
  have um : ∀ h : Int → Int, (∀ k : Int, 0 ≤ k → k < cs.length → h k = at_ dI k) → (upto cs.length).map (fun k => PyData.int (h k)) = dI.map .int := fun h hh => by
    rw [← upto_eq (N := dI) h ld hh, List.map_map]; rfl
  have c13 : ev c (.comp (.op .sub (.idx (.idx (.var 7) (.neg (.int 1))) (.var 12)) (.idx (.var 4) (.var 12))) (.rng1 (.var 5)) (.one 12) .nil [12]) (k39R s0 r f cs w (.own AL) a8 (.own (gI.map .int)) (.own (tI.map .int)) t11 k12 .un .un .un .un .un) = some (.own (dI.map .int), k39R s0 r f cs w (.own AL) a8 (.own (gI.map .int)) (.own (tI.map .int)) t11 k12 .un .un .un .un .un) := by
    rw [← um (fun k => at_ X k - at_ cs k) hd1]
    refine ev_comp (ρ1 := k39R s0 r f cs w (.own AL) a8 (.own (gI.map .int)) (.own (tI.map .int)) t11 k12 .un .un .un .un .un) (xs := (upto cs.length).map .int) (evi_rng1 (n := (cs.length : Int)) rfl (rngOk_of (by omega) (by omega))) (compL_ints (fun k => .int (at_ X k - at_ cs k)) fun k hk => ?_) (by rw [List.length_map, upto_length]; omega)
    obtain ⟨k0, k1⟩ := mem_upto.mp hk
    have y1 := ixD_at (cs := X) k0 (by omega)
    have y2 := ixD_at (cs := cs) k0 k1
    simp [runB, start, ob, bd, bz, bt, ex, evo, evm, isVar, ev, evs, evi, rd, frz, truth, isiT, isNon, idx2, slotD, slotL, putL, put, puts, bindT, blt1, blt2, op2, rdr, prt, cnd, isNil, outV, endR, wipe, back, partD, slice3, ix0, ix1, ix2, ix3, ints_map, augO, isI, okL, items_tupI, seq_tupI, items_tabD, seq_tabD, items_list, seq_list, k39R, il, y1, y2]
  refine wx_seq (ρ1 := k39R s0 r f cs w (.own AL) a8 (.own (gI.map .int)) (.own (tI.map .int)) t11 k12 (.own (dI.map .int)) .un .un .un .un) (ex_set c13 rfl) ?_
  have qg := qa gI (by omega)
  have qt := qa tI (by omega)
  have qd := qa dI (by omega)
  have qg' : c 17 none [tupI gI, .tuple (gI.map .int)] = some (.val (.bool true), []) := qg
  have qt' : c 17 none [tupI tI, .tuple (tI.map .int)] = some (.val (.bool true), []) := qt
  have qd' : c 17 none [tupI dI, .tuple (dI.map .int)] = some (.val (.bool true), []) := qd
  refine wx_seq (ρ1 := k39R s0 r f cs w (.own AL) a8 (.own (gI.map .int)) (.own (tI.map .int)) t11 k12 (.own (dI.map .int)) .un .un .un .un) (by simp [runB, start, ob, bd, bz, bt, ex, evo, evm, isVar, ev, evs, evi, rd, frz, truth, isiT, isNon, idx2, slotD, slotL, putL, put, puts, bindT, blt1, blt2, op2, rdr, prt, cnd, isNil, outV, endR, wipe, back, partD, slice3, ix0, ix1, ix2, ix3, ints_map, augO, isI, okL, items_tupI, seq_tupI, items_tabD, seq_tabD, items_list, seq_list, k39R, q127, q128, qg', qt']) ?_
  refine wx_seq (ρ1 := k39R s0 r f cs w (.own AL) a8 (.own (gI.map .int)) (.own (tI.map .int)) t11 k12 (.own (dI.map .int)) .un .un .un .un) (by simp [runB, start, ob, bd, bz, bt, ex, evo, evm, isVar, ev, evs, evi, rd, frz, truth, isiT, isNon, idx2, slotD, slotL, putL, put, puts, bindT, blt1, blt2, op2, rdr, prt, cnd, isNil, outV, endR, wipe, back, partD, slice3, ix0, ix1, ix2, ix3, ints_map, augO, isI, okL, items_tupI, seq_tupI, items_tabD, seq_tabD, items_list, seq_list, k39R, q125, qd']) ?_
  have c14 : ev c (.comp (.op .sub (.idx (.var 10) (.var 12)) (.idx (.var 9) (.var 12))) (.rng1 (.var 5)) (.one 12) .nil [12]) (k39R s0 r f cs w (.own AL) a8 (.own (gI.map .int)) (.own (tI.map .int)) t11 k12 (.val (.list (dI.map .int))) .un .un .un .un) = some (.own (dI.map .int), k39R s0 r f cs w (.own AL) a8 (.own (gI.map .int)) (.own (tI.map .int)) t11 k12 (.val (.list (dI.map .int))) .un .un .un .un) := by
    have := ev_comp (c := c) (el := .op .sub (.idx (.var 10) (.var 12)) (.idx (.var 9) (.var 12))) (cond := .nil) (t := .one 12) (vs := [12]) (ρ := k39R s0 r f cs w (.own AL) a8 (.own (gI.map .int)) (.own (tI.map .int)) t11 k12 (.val (.list (dI.map .int))) .un .un .un .un) (ρ1 := k39R s0 r f cs w (.own AL) a8 (.own (gI.map .int)) (.own (tI.map .int)) t11 k12 (.val (.list (dI.map .int))) .un .un .un .un) (evi_rng1 (e := .var 5) (n := (cs.length : Int)) rfl (rngOk_of (by omega) (by omega))) (compL_ints (fun k => .int (at_ tI k - at_ gI k)) fun k hk => by
      obtain ⟨k0, k1⟩ := mem_upto.mp hk
      have k1 : k < cs.length := by simpa using k1
      have y1 := ixD_at (cs := tI) k0 (by omega)
      have y2 := ixD_at (cs := gI) k0 (by omega)
      generalize dI.map PyData.int = DD
      simp [runB, start, ob, bd, bz, bt, ex, evo, evm, isVar, ev, evs, evi, rd, frz, truth, isiT, isNon, idx2, slotD, slotL, putL, put, puts, bindT, blt1, blt2, op2, rdr, prt, cnd, isNil, outV, endR, wipe, back, partD, slice3, ix0, ix1, ix2, ix3, ints_map, augO, isI, okL, items_tupI, seq_tupI, items_tabD, seq_tabD, items_list, seq_list, k39R, y1, y2]) (by rw [List.length_map, upto_length]; omega)
    rw [Int.toNat_natCast, um (fun k => at_ tI k - at_ gI k) hd2] at this
    exact this
  have ne := ne_ints dI dI
  rw [decide_eq_true rfl] at ne
  have v13 : ev c (.var 13) (k39R s0 r f cs w (.own AL) a8 (.own (gI.map .int)) (.own (tI.map .int)) t11 k12 (.own (dI.map .int)) .un .un .un .un) = some (.val (.list (dI.map .int)), k39R s0 r f cs w (.own AL) a8 (.own (gI.map .int)) (.own (tI.map .int)) t11 k12 (.val (.list (dI.map .int))) .un .un .un .un) := rfl
  have c15 := ev_cmp (o := .ne) v13 rfl c14 rfl ne
  refine wx_seq (ρ1 := k39R s0 r f cs w (.own AL) a8 (.own (gI.map .int)) (.own (tI.map .int)) t11 k12 (.val (.list (dI.map .int))) .un .un .un .un) ((ex_iteF (ρ1 := k39R s0 r f cs w (.own AL) a8 (.own (gI.map .int)) (.own (tI.map .int)) t11 k12 (.val (.list (dI.map .int))) .un .un .un .un) ?_).trans ex_skip) ?_
  · show bt (ev c (.cmp .ne (.var 13) (.comp (.op .sub (.idx (.var 10) (.var 12)) (.idx (.var 9) (.var 12))) (.rng1 (.var 5)) (.one 12) .nil [12])) _) _ = _
    rw [c15]
    show ev c (.cmp .ne (.blt1 .sum (.var 9)) (.blt1 .sum (.var 10))) (k39R s0 r f cs w (.own AL) a8 (.own (gI.map .int)) (.own (tI.map .int)) t11 k12 (.val (.list (dI.map .int))) .un .un .un .un) = _
    generalize dI.map PyData.int = DD
    simp [runB, start, ob, bd, bz, bt, ex, evo, evm, isVar, ev, evs, evi, rd, frz, truth, isiT, isNon, idx2, slotD, slotL, putL, put, puts, bindT, blt1, blt2, op2, rdr, prt, cnd, isNil, outV, endR, wipe, back, partD, slice3, ix0, ix1, ix2, ix3, ints_map, augO, isI, okL, items_tupI, seq_tupI, items_tabD, seq_tabD, items_list, seq_list, cmp2, k39R, hs]
  have lf' : ((upto cs.length).filter fun z => decide (at_ dI z < 0)).length ≤ 6 := by
    have := List.length_filter_le (fun z => decide (at_ dI z < 0)) (upto cs.length)
    rw [upto_length] at this
    omega
  have ql := qa _ lf'
  have c16 : ev c (.comp (.var 12) (.rng1 (.var 5)) (.one 12) (.cmp .lt (.idx (.var 13) (.var 12)) (.int 0)) [12]) (k39R s0 r f cs w (.own AL) a8 (.own (gI.map .int)) (.own (tI.map .int)) t11 k12 (.val (.list (dI.map .int))) .un .un .un .un) = some (.own (((upto cs.length).filter fun z => decide (at_ dI z < 0)).map .int), k39R s0 r f cs w (.own AL) a8 (.own (gI.map .int)) (.own (tI.map .int)) t11 k12 (.val (.list (dI.map .int))) .un .un .un .un) := by
    refine ev_comp (ρ1 := k39R s0 r f cs w (.own AL) a8 (.own (gI.map .int)) (.own (tI.map .int)) t11 k12 (.val (.list (dI.map .int))) .un .un .un .un) (xs := (upto cs.length).map .int) (evi_rng1 (n := (cs.length : Int)) rfl (rngOk_of (by omega) (by omega))) (compL_filt (fun z => decide (at_ dI z < 0)) .int fun k hk => ?_) (by rw [List.length_map]; omega)
    obtain ⟨k0, k1⟩ := mem_upto.mp hk
    have y1 := ixD_at (cs := dI) k0 (by omega)
    by_cases hc : at_ dI k < 0
    · simp [runB, start, ob, bd, bz, bt, ex, evo, evm, isVar, ev, evs, evi, rd, frz, truth, isiT, isNon, idx2, slotD, slotL, putL, put, puts, bindT, blt1, blt2, op2, rdr, prt, cnd, isNil, outV, endR, wipe, back, partD, slice3, ix0, ix1, ix2, ix3, ints_map, augO, isI, okL, items_tupI, seq_tupI, items_tabD, seq_tabD, items_list, seq_list, cmp2, k39R, y1, hc]
    · simp [runB, start, ob, bd, bz, bt, ex, evo, evm, isVar, ev, evs, evi, rd, frz, truth, isiT, isNon, idx2, slotD, slotL, putL, put, puts, bindT, blt1, blt2, op2, rdr, prt, cnd, isNil, outV, endR, wipe, back, partD, slice3, ix0, ix1, ix2, ix3, ints_map, augO, isI, okL, items_tupI, seq_tupI, items_tabD, seq_tabD, items_list, seq_list, cmp2, k39R, y1, hc]
  have c17 := ev_blt1 (f := .tuple) (v := .val (tupI ((upto cs.length).filter fun z => decide (at_ dI z < 0)))) rfl c16 rfl rfl
  refine wx_seq (ρ1 := k39R s0 r f cs w (.own AL) a8 (.own (gI.map .int)) (.own (tI.map .int)) t11 k12 (.val (.list (dI.map .int))) .un .un .un .un) ((ex_iteF (ρ1 := k39R s0 r f cs w (.own AL) a8 (.own (gI.map .int)) (.own (tI.map .int)) t11 k12 (.val (.list (dI.map .int))) .un .un .un .un) ?_).trans ex_skip) ?_
  · have q126' : ev c (.call 126 (.cons (.var 2) (.cons (.var 6) .nil))) (k39R s0 r f cs w (.own AL) a8 (.own (gI.map .int)) (.own (tI.map .int)) t11 k12 (.val (.list (dI.map .int))) .un .un .un .un) = some (.val (tupI ((upto cs.length).filter fun z => decide (at_ dI z < 0))), k39R s0 r f cs w (.own AL) a8 (.own (gI.map .int)) (.own (tI.map .int)) t11 k12 (.val (.list (dI.map .int))) .un .un .un .un) := ev_call (ds := [tabD f cs, tupI w]) (by simp [runB, start, ob, bd, bz, bt, ex, evo, evm, isVar, ev, evs, evi, rd, frz, truth, isiT, isNon, idx2, slotD, slotL, putL, put, puts, bindT, blt1, blt2, op2, rdr, prt, cnd, isNil, outV, endR, wipe, back, partD, slice3, ix0, ix1, ix2, ix3, ints_map, augO, isI, okL, items_tupI, seq_tupI, items_tabD, seq_tabD, items_list, seq_list, k39R]) q126
    exact ev_notT (ev_call (evs_cons q126' rfl (evs_cons c17 rfl evs_nil)) ql)
  generalize dI.map PyData.int = DD
  generalize gI.map PyData.int = GG
  generalize tI.map PyData.int = TT
  refine wx_seq (ρ1 := k39R s0 r2 f cs w (.own AL) a8 (.own GG) (.own TT) t11 k12 (.val (.list DD)) (.val (.int far)) .un .un .un) (by simp [runB, start, ob, bd, bz, bt, ex, evo, evm, isVar, ev, evs, evi, rd, frz, truth, isiT, isNon, idx2, slotD, slotL, putL, put, puts, bindT, blt1, blt2, op2, rdr, prt, cnd, isNil, outV, endR, wipe, back, partD, slice3, ix0, ix1, ix2, ix3, ints_map, augO, isI, okL, items_tupI, seq_tupI, items_tabD, seq_tabD, items_list, seq_list, k39R, e12]) ?_
  refine wx_seq (ρ1 := k39R s0 r2 f cs w (.own AL) a8 (.own GG) (.own TT) t11 k12 (.val (.list DD)) (.val (.int far)) (.val (.list AV)) (.val (tupI v)) .un) (by simp [runB, start, ob, bd, bz, bt, ex, evo, evm, isVar, ev, evs, evi, rd, frz, truth, isiT, isNon, idx2, slotD, slotL, putL, put, puts, bindT, blt1, blt2, op2, rdr, prt, cnd, isNil, outV, endR, wipe, back, partD, slice3, ix0, ix1, ix2, ix3, ints_map, augO, isI, okL, items_tupI, seq_tupI, items_tabD, seq_tabD, items_list, seq_list, k39R, q47]) ?_
  have im := ints_map (movL f cs v)
  refine wx_seq (ρ1 := k39R s0 r2 f cs w (.own AL) a8 (.own GG) (.own TT) t11 k12 (.val (.list DD)) (.val (.int far)) (.val (.list AV)) (.val (tupI v)) (.val (.int sv))) (ex_set (ev_blt1 rfl (hm _ _ _ _ _ _ _ _ _) rfl (by simp [blt1, seq_list, ob, im, hsv])) rfl) ?_
  have iff1 : ev c (.ife (.cmp .eq (.blt1 .len (.var 16)) (.var 14)) (.var 17) .non) (k39R s0 r2 f cs w (.own AL) a8 (.own GG) (.own TT) t11 k12 (.val (.list DD)) (.val (.int far)) (.val (.list AV)) (.val (tupI v)) (.val (.int sv))) = some (.val O, k39R s0 r2 f cs w (.own AL) a8 (.own GG) (.own TT) t11 k12 (.val (.list DD)) (.val (.int far)) (.val (.list AV)) (.val (tupI v)) (.val (.int sv))) := by
    rw [hO]
    by_cases hv : (v.length : Int) = far
    · simp [runB, start, ob, bd, bz, bt, ex, evo, evm, isVar, ev, evs, evi, rd, frz, truth, isiT, isNon, idx2, slotD, slotL, putL, put, puts, bindT, blt1, blt2, op2, rdr, prt, cnd, isNil, outV, endR, wipe, back, partD, slice3, ix0, ix1, ix2, ix3, ints_map, augO, isI, okL, items_tupI, seq_tupI, items_tabD, seq_tabD, items_list, seq_list, cmp2, k39R, hv]
    · simp [runB, start, ob, bd, bz, bt, ex, evo, evm, isVar, ev, evs, evi, rd, frz, truth, isiT, isNon, idx2, slotD, slotL, putL, put, puts, bindT, blt1, blt2, op2, rdr, prt, cnd, isNil, outV, endR, wipe, back, partD, slice3, ix0, ix1, ix2, ix3, ints_map, augO, isI, okL, items_tupI, seq_tupI, items_tabD, seq_tabD, items_list, seq_list, cmp2, k39R, hv]
  refine wx_seqR (v := .val (.bool true)) (ρ1 := k39R s0 r2 f cs w (.own AL) a8 (.own GG) (.own TT) t11 k12 (.val (.list DD)) (.val (.int far)) (.val (.list AV)) (.val (tupI v)) (.val (.int sv))) (ex_retE rfl (ev_call (ds := [O, O]) (ρ1 := k39R s0 r2 f cs w (.own AL) a8 (.own GG) (.own TT) t11 k12 (.val (.list DD)) (.val (.int far)) (.val (.list AV)) (.val (tupI v)) (.val (.int sv))) ?_ qO)) ⟨rfl, rfl⟩
  have q123' : ev c (.call 123 (.cons (.var 2) (.cons (.var 14) .nil))) (k39R s0 r2 f cs w (.own AL) a8 (.own GG) (.own TT) t11 k12 (.val (.list DD)) (.val (.int far)) (.val (.list AV)) (.val (tupI v)) (.val (.int sv))) = some (.val O, k39R s0 r2 f cs w (.own AL) a8 (.own GG) (.own TT) t11 k12 (.val (.list DD)) (.val (.int far)) (.val (.list AV)) (.val (tupI v)) (.val (.int sv))) := ev_call (ds := [tabD f cs, .int far]) (by simp [runB, start, ob, bd, bz, bt, ex, evo, evm, isVar, ev, evs, evi, rd, frz, truth, isiT, isNon, idx2, slotD, slotL, putL, put, puts, bindT, blt1, blt2, op2, rdr, prt, cnd, isNil, outV, endR, wipe, back, partD, slice3, ix0, ix1, ix2, ix3, ints_map, augO, isI, okL, items_tupI, seq_tupI, items_tabD, seq_tabD, items_list, seq_list, k39R]) q123
  exact evs_cons q123' rfl (evs_cons iff1 rfl evs_nil)
theorem k39_pre (c : FT) {ns : List Int} {r1 r2 r3 r4 : List D} {f top most : Int} {cs w : List Int} (l6 : cs.length ≤ 6) (hw : InW cs.length w) (hl : w.length ≤ 40)
    (e1 : c 13 (some [scrD ns, .int 0, .int 9839, .int 0]) [.list [.int 4, .int 30, .int 1000001]] = some (.val (.int top), r1)) (e2 : c 14 (some r1) [.int 6, .int top] = some (.val (tabD f cs), r2)) (e3 : c 13 (some r2) [.list [.int 3, .int 40]] = some (.val (.int most), r3)) (e4 : c 41 (some r3) [.int cs.length, .int most] = some (.val (tupI w), r4))
    (q44 : c 44 none [.int f, tupI cs, tupI w] = some (.own (alD f cs w (w.length + 1)), [])) (q124 : c 124 none [tabD f cs, tupI w] = some (.val (tupI (movL f cs w)), [])) (qm : c 17 none [tupI (movL f cs w), tupI (movL f cs w)] = some (.val (.bool true), [])) {t : S} {Q : Out → Rho → Prop}
    (h : Wx (ex c t (k39R (scrD ns) r4 f cs w (.own (alD f cs w (w.length + 1))) (.own ((movL f cs w).map .int)) (.own ((IL cs.length (hd f cs w 0)).map .int)) (.own ((IL cs.length (tk f cs w 0)).map .int)) .un .un .un .un .un .un .un)) Q) :
    Wx (ex c (.seq (.set 1 (.lst (.cons (.var 0) (.cons (.int 0) (.cons (.int 9839) (.cons (.int 0) .nil))))))
    (.seq (.set 2 (.callr 14 1 (.cons (.int 6) (.cons (.callr 13 1 (.cons (.lst (.cons (.int 4) (.cons (.int 30) (.cons (.int 1000001) .nil)))) .nil)) .nil))))
    (.seq (.unp [3, 4] (.var 2))
    (.seq (.set 5 (.blt1 .len (.var 4)))
    (.seq (.set 6 (.callr 41 1 (.cons (.var 5) (.cons (.callr 13 1 (.cons (.lst (.cons (.int 3) (.cons (.int 40) .nil))) .nil)) .nil))))
    (.seq (.set 7 (.call 44 (.cons (.var 3) (.cons (.var 4) (.cons (.var 6) .nil)))))
    (.seq (.set 8 (.comp (.op .sub (.idx (.idx (.var 7) (.var 11)) (.idx (.var 6) (.var 11))) (.idx (.idx (.var 7) (.op .add (.var 11) (.int 1))) (.idx (.var 6) (.var 11)))) (.rng1 (.blt1 .len (.var 6))) (.one 11) .nil [11]))
    (.seq (.ite (.not (.call 17 (.cons (.call 124 (.cons (.var 2) (.cons (.var 6) .nil))) (.cons (.blt1 .tuple (.var 8)) .nil)))) (.seq (.ret (.bl false))
    .skip) .skip)
    (.seq (.par [9, 10] (.cons (.op .mul (.lst (.cons (.int 0) .nil)) (.var 5)) (.cons (.op .mul (.lst (.cons (.int 0) .nil)) (.var 5)) .nil))) t))))))))) [.val (scrD ns), .un, .un, .un, .un, .un, .un, .un, .un, .un, .un, .un, .un, .un, .un, .un, .un, .un]) Q := by
  let B : SV → SV → SV → SV → SV → SV → SV → SV → Rho := fun a1 a2 a3 a4 a5 a6 a7 a8 => [.val (scrD ns), a1, a2, a3, a4, a5, a6, a7, a8, .un, .un, .un, .un, .un, .un, .un, .un, .un]
  refine wx_seq (ρ1 := B (.own [scrD ns, .int 0, .int 9839, .int 0]) .un .un .un .un .un .un .un) (by simp [runB, start, ob, bd, bz, bt, ex, evo, evm, isVar, ev, evs, evi, rd, frz, truth, isiT, isNon, idx2, slotD, slotL, putL, put, puts, bindT, blt1, blt2, op2, rdr, prt, cnd, isNil, outV, endR, wipe, back, partD, slice3, ix0, ix1, ix2, ix3, ints_map, augO, isI, okL, items_tupI, seq_tupI, items_tabD, seq_tabD, items_list, seq_list, B]) ?_
  refine wx_seq (ρ1 := B (.own r2) (.val (tabD f cs)) .un .un .un .un .un .un) (by simp [runB, start, ob, bd, bz, bt, ex, evo, evm, isVar, ev, evs, evi, rd, frz, truth, isiT, isNon, idx2, slotD, slotL, putL, put, puts, bindT, blt1, blt2, op2, rdr, prt, cnd, isNil, outV, endR, wipe, back, partD, slice3, ix0, ix1, ix2, ix3, ints_map, augO, isI, okL, items_tupI, seq_tupI, items_tabD, seq_tabD, items_list, seq_list, B, e1, e2]) ?_
  refine wx_seq (ρ1 := B (.own r2) (.val (tabD f cs)) (.val (.int f)) (.val (tupI cs)) .un .un .un .un) (by simp [runB, start, ob, bd, bz, bt, ex, evo, evm, isVar, ev, evs, evi, rd, frz, truth, isiT, isNon, idx2, slotD, slotL, putL, put, puts, bindT, blt1, blt2, op2, rdr, prt, cnd, isNil, outV, endR, wipe, back, partD, slice3, ix0, ix1, ix2, ix3, ints_map, augO, isI, okL, items_tupI, seq_tupI, items_tabD, seq_tabD, items_list, seq_list, tabD, B]) ?_
  refine wx_seq (ρ1 := B (.own r2) (.val (tabD f cs)) (.val (.int f)) (.val (tupI cs)) (.val (.int cs.length)) .un .un .un) (by simp [runB, start, ob, bd, bz, bt, ex, evo, evm, isVar, ev, evs, evi, rd, frz, truth, isiT, isNon, idx2, slotD, slotL, putL, put, puts, bindT, blt1, blt2, op2, rdr, prt, cnd, isNil, outV, endR, wipe, back, partD, slice3, ix0, ix1, ix2, ix3, ints_map, augO, isI, okL, items_tupI, seq_tupI, items_tabD, seq_tabD, items_list, seq_list, B]) ?_
  refine wx_seq (ρ1 := k39R (scrD ns) r4 f cs w .un .un .un .un .un .un .un .un .un .un .un) (by simp [runB, start, ob, bd, bz, bt, ex, evo, evm, isVar, ev, evs, evi, rd, frz, truth, isiT, isNon, idx2, slotD, slotL, putL, put, puts, bindT, blt1, blt2, op2, rdr, prt, cnd, isNil, outV, endR, wipe, back, partD, slice3, ix0, ix1, ix2, ix3, ints_map, augO, isI, okL, items_tupI, seq_tupI, items_tabD, seq_tabD, items_list, seq_list, B, k39R, e3, e4]) ?_
  refine wx_seq (ρ1 := k39R (scrD ns) r4 f cs w (.own (alD f cs w (w.length + 1))) .un .un .un .un .un .un .un .un .un .un) (ex_set (ev_call (ds := [.int f, tupI cs, tupI w]) (ρ1 := k39R (scrD ns) r4 f cs w .un .un .un .un .un .un .un .un .un .un .un) (by simp [runB, start, ob, bd, bz, bt, ex, evo, evm, isVar, ev, evs, evi, rd, frz, truth, isiT, isNon, idx2, slotD, slotL, putL, put, puts, bindT, blt1, blt2, op2, rdr, prt, cnd, isNil, outV, endR, wipe, back, partD, slice3, ix0, ix1, ix2, ix3, ints_map, augO, isI, okL, items_tupI, seq_tupI, items_tabD, seq_tabD, items_list, seq_list, k39R]) q44) rfl) ?_
  refine wx_seq (ρ1 := k39R (scrD ns) r4 f cs w (.own (alD f cs w (w.length + 1))) (.own ((movL f cs w).map .int)) .un .un .un .un .un .un .un .un .un) (ex_set (k39_mov c hw hl) rfl) ?_
  have qm' : c 17 none [tupI (movL f cs w), .tuple ((movL f cs w).map .int)] = some (.val (.bool true), []) := qm
  refine wx_seq (ρ1 := k39R (scrD ns) r4 f cs w (.own (alD f cs w (w.length + 1))) (.own ((movL f cs w).map .int)) .un .un .un .un .un .un .un .un .un) (by
    unfold k39R
    generalize alD f cs w (w.length + 1) = Z
    generalize tupI (movL f cs w) = T at q124 qm'
    generalize (movL f cs w).map PyData.int = M at qm'
    simp [runB, start, ob, bd, bz, bt, ex, evo, evm, isVar, ev, evs, evi, rd, frz, truth, isiT, isNon, idx2, slotD, slotL, putL, put, puts, bindT, blt1, blt2, op2, rdr, prt, cnd, isNil, outV, endR, wipe, back, partD, slice3, ix0, ix1, ix2, ix3, ints_map, augO, isI, okL, items_tupI, seq_tupI, items_tabD, seq_tabD, items_list, seq_list, q124, qm']) ?_
  have hm := mul_rep 0 (p := (cs.length : Int)) (by omega) (by omega)
  have z1 : (List.replicate cs.length (0 : Int)) = IL cs.length (hd f cs w 0) := (IL_zero cs.length).symm
  have z2 : (List.replicate cs.length (0 : Int)) = IL cs.length (tk f cs w 0) := (IL_zero cs.length).symm
  rw [Int.toNat_natCast] at hm
  refine wx_seq ?_ h
  rw [← z1, ← z2]
  generalize (List.replicate cs.length (0 : Int)).map PyData.int = RR at hm
  unfold k39R
  generalize alD f cs w (w.length + 1) = Z
  generalize (movL f cs w).map PyData.int = M
  simp [ex, evm, ev, evs, bz, DP.bd, ob, rd, frz, okL, hm]
  rfl
theorem law_true : ∀ ns : List Int, ns.length ≤ 63 → ∃ r, run TB.fn 47 129 none [scrD ns] = some (.val (.bool true), r) := by
  intro ns hn
  have r0 : RowOk ns [scrD ns, .int 0, .int 9839, .int 0] := ⟨0, 9839, 0, rfl, by decide, by decide, by decide⟩
  obtain ⟨d, r1, e1, hd', h1⟩ := pick_ok 44 (ds := [.int 4, .int 30, .int 1000001]) r0 (by simp) (by simp)
  have ht : ∃ top : Int, d = .int top ∧ 1 ≤ top ∧ top ≤ 1000001 := by
    simp only [List.mem_cons, List.not_mem_nil, or_false] at hd'
    rcases hd' with rfl | rfl | rfl <;> exact ⟨_, rfl, by decide, by decide⟩
  obtain ⟨top, rfl, t1, t2⟩ := ht
  obtain ⟨f, cs, r2, e2, tb, ln, h2⟩ := l_table_ok 43 h1 (m := 6) (by decide) (by decide) t1 t2
  have l1 := tb.l1
  have l6 := tb.l6
  obtain ⟨d3, r3, e3, hd3, h3⟩ := pick_ok 44 (ds := [.int 3, .int 40]) h2 (by simp) (by simp)
  have hm3 : ∃ m : Int, d3 = .int m ∧ 0 ≤ m ∧ m ≤ 40 := by
    simp only [List.mem_cons, List.not_mem_nil, or_false] at hd3
    rcases hd3 with rfl | rfl <;> exact ⟨_, rfl, by decide, by decide⟩
  obtain ⟨most, rfl, m0, m40⟩ := hm3
  obtain ⟨w, r4, e4, hw, hl0, h4⟩ := l_word_ok 44 h3 (n := cs.length) (most := most) (by omega) (by omega) m0 (by omega)
  rw [Int.toNat_natCast] at hw
  have hl : w.length ≤ 40 := by omega
  obtain ⟨v6, r6, e6, a6, b6, h6⟩ := taken_ok (m := 41) 45 h4 (by decide) (by decide)
  obtain ⟨far, rfl⟩ : ∃ m : Nat, v6 = (m : Int) := ⟨v6.toNat, by omega⟩
  obtain ⟨v, hv1, hv2, hv3, hv4, e10⟩ := l_play_ok 43 (m := far) tb (by omega)
  unfold plV at e10
  have hW : (payW f cs far = [] ∧ v.length ≠ far) ∨ ((payW f cs far).head? = some v ∧ v.length = far) := by
    by_cases c : v.length = far
    · right
      have := payW_head hv2 v.length (Nat.le_refl _)
      rw [List.take_length] at this
      exact ⟨by rw [← c]; exact this, c⟩
    · left
      rcases hv4 with z | z
      · exact absurd z c
      · have := payW_none tb hv1 hv2 z (far - (v.length + 1))
        rw [show v.length + 1 + (far - (v.length + 1)) = far by omega] at this
        exact ⟨this, c⟩
  have hO : optI ((payW f cs far).head?.map fun v => (movL f cs v).sum) = if (v.length : Int) = far then .int (movL f cs v).sum else .none := by
    rcases hW with ⟨a, b⟩ | ⟨a, b⟩
    · rw [a, if_neg (by omega)]; rfl
    · rw [a, if_pos (by omega)]; rfl
  have qO : run TB.fn 46 17 none [optI ((payW f cs far).head?.map fun v => (movL f cs v).sum), optI ((payW f cs far).head?.map fun v => (movL f cs v).sum)] = some (.val (.bool true), []) := by
    cases (payW f cs far).head?.map fun v => (movL f cs v).sum with
    | none => exact alike_none 45
    | some i =>
      have := alike_int 45 i i
      rw [decide_eq_true rfl] at this
      exact this
  have ed : zw (fun a b => a - b) (aft f cs w) cs = IL cs.length (fun k => at_ (aft f cs w) k - at_ cs k) := by
    refine ext_at (by rw [zw_len _ (aft_len f cs w), aft_len, IL_len]) fun k k0 k1 => ?_
    rw [zw_len _ (aft_len f cs w), aft_len] at k1
    rw [zw_at _ (aft_len f cs w) k0 (by rw [aft_len]; exact k1), IL_at k0 k1]
  have q125 := gains_ok 41 tb hw hl
  rw [ed] at q125
  have q126 := losers_ok 41 tb hw hl
  have el : (upto cs.length).filter (fun z => decide (at_ (aft f cs w) z < at_ cs z)) = (upto cs.length).filter (fun z => decide (at_ (IL cs.length (fun k => at_ (aft f cs w) k - at_ cs k)) z < 0)) := by
    apply List.filter_congr
    intro z hz
    obtain ⟨z0, z1⟩ := mem_upto.mp hz
    rw [IL_at z0 z1]
    by_cases c : at_ (aft f cs w) z < at_ cs z
    · rw [decide_eq_true c, decide_eq_true (by omega)]
    · rw [decide_eq_false c, decide_eq_false (by omega)]
  rw [el] at q126
  obtain ⟨t11, k12, eo⟩ := k39_out (run TB.fn 46) (s0 := scrD ns) (r := r4) (f := f) l6 hw hl
  have il : ixD (alD f cs w (w.length + 1)) (-1) = some (tupI (A_ f cs w w.length)) := by rw [alD_succ]; exact ixD_last _ _
  have ee := k39_end (run TB.fn 46) (s0 := scrD ns) (r := r4) (r2 := r6) (f := f) (cs := cs) (w := w) (v := v) (X := A_ f cs w w.length) (gI := IL cs.length (hd f cs w w.length)) (tI := IL cs.length (tk f cs w w.length)) (dI := IL cs.length (fun k => at_ (aft f cs w) k - at_ cs k)) (AL := alD f cs w (w.length + 1)) (AV := alD f cs v (v.length + 1)) (a8 := .own ((movL f cs w).map .int)) (t11 := t11) (k12 := k12) (far := far) (sv := (movL f cs v).sum) (O := optI ((payW f cs far).head?.map fun v => (movL f cs v).sum)) l6 (IL_len _ _) (IL_len _ _) (IL_len _ _) (A_len _ _ _ _) il
    (fun k k0 k1 => by rw [IL_at k0 k1, A_all]) (fun k k0 k1 => by rw [IL_at k0 k1, IL_at k0 k1, IL_at k0 k1, ← A_all]; exact (gain_eq hw k0 k1 w.length (Nat.le_refl _)).symm) (sum_eq hw) (handed_ok 41 tb hw hl) (taken2_ok 41 tb hw hl) q125 q126 (fun l hl => alike_tupI 44 (by omega)) e6 e10
    (fun _ _ _ _ _ _ _ _ _ => k39_mov2 _ hv1 (by omega)) rfl (moved_in_ok 41 tb (by omega)) hO qO
  refine ⟨[], run_eq [.val (scrD ns), .un, .un, .un, .un, .un, .un, .un, .un, .un, .un, .un, .un, .un, .un, .un, .un, .un] look_129 rfl ?_⟩
  exact k39_pre _ l6 hw hl e1 e2 e3 e4 (l_along_ok 44 tb hw hl) (moved_word_ok 41 tb hw hl) (alike_tupI 44 (by simp [movL]; omega)) (wx_seq eo ee)

theorem TB_ok : TB.ok = true := by decide +kernel
theorem mem_all_cons {α : Type} {p : α → Prop} {x : α} {l : List α} (h : p x) (r : ∀ y ∈ l, p y) : ∀ y ∈ x :: l, p y := fun y hy => by
  rcases List.mem_cons.mp hy with e | e
  · rw [e]; exact h
  · exact r y e
theorem mem_all_nil {α : Type} {p : α → Prop} : ∀ y ∈ ([] : List α), p y := fun _ h => nomatch h
theorem all_mk {l : PySem.W.OpenLaw} {w : World} {K : PySem.W.Frag} {h : Heap} {mg : Str → Option Value} {fa f0 f1 f2 f3 f4 f5 f6 f7 f8 f9 f10 f11 f12 f13 f14 f15 f16 f17 f18 f19 f20 f21 f22 f23 f24 f25 f26 f27 f28 f29 f30 : Addr} (X : K.In h) (G : h.Ns mainGlobals mg) (hfa : mg "law" = some (.ref fa))
    {od0 an0 od1 an1 od2 an2 od3 an3 od4 an4 od5 an5 od6 an6 od7 an7 od8 an8 od9 an9 od10 an10 od11 an11 od12 an12 od13 an13 od14 an14 od15 an15 od16 an16 od17 an17 od18 an18 od19 an19 od20 an20 od21 an21 od22 an22 od23 an23 od24 an24 od25 an25 od26 an26 od27 an27 od28 an28 od29 an29 od30 an30 : Option Addr} {sl0 sl1 sl2 sl3 sl4 sl5 sl6 sl7 sl8 sl9 sl10 sl11 sl12 sl13 sl14 sl15 sl16 sl17 sl18 sl19 sl20 sl21 sl22 sl23 sl24 sl25 sl26 sl27 sl28 sl29 sl30 : Array (Option Value)} {oc0 kV0 dc0 pm0 cd0 ct0 oc1 kV1 dc1 pm1 cd1 ct1 oc2 kV2 dc2 pm2 cd2 ct2 oc3 kV3 dc3 pm3 cd3 ct3 oc4 kV4 dc4 pm4 cd4 ct4 oc5 kV5 dc5 pm5 cd5 ct5 oc6 kV6 dc6 pm6 cd6 ct6 oc7 kV7 dc7 pm7 cd7 ct7 oc8 kV8 dc8 pm8 cd8 ct8 oc9 kV9 dc9 pm9 cd9 ct9 oc10 kV10 dc10 pm10 cd10 ct10 oc11 kV11 dc11 pm11 cd11 ct11 oc12 kV12 dc12 pm12 cd12 ct12 oc13 kV13 dc13 pm13 cd13 ct13 oc14 kV14 dc14 pm14 cd14 ct14 oc15 kV15 dc15 pm15 cd15 ct15 oc16 kV16 dc16 pm16 cd16 ct16 oc17 kV17 dc17 pm17 cd17 ct17 oc18 kV18 dc18 pm18 cd18 ct18 oc19 kV19 dc19 pm19 cd19 ct19 oc20 kV20 dc20 pm20 cd20 ct20 oc21 kV21 dc21 pm21 cd21 ct21 oc22 kV22 dc22 pm22 cd22 ct22 oc23 kV23 dc23 pm23 cd23 ct23 oc24 kV24 dc24 pm24 cd24 ct24 oc25 kV25 dc25 pm25 cd25 ct25 oc26 kV26 dc26 pm26 cd26 ct26 oc27 kV27 dc27 pm27 cd27 ct27 oc28 kV28 dc28 pm28 cd28 ct28 oc29 kV29 dc29 pm29 cd29 ct29 oc30 kV30 dc30 pm30 cd30 ct30 : Value} {t0 t1 t2 t3 t4 : Tok}
    (a0 : PySem.W.nsIn K mainGlobals (Str.ofString "is_in") = some (some (.ref f0))) (l0 : K.lookup f0 = some ⟨oc0, od0, .func (PySem.W.fnOf (Str.ofString "is_in") (Str.ofString "is_in") (defArgs (topS 6)) (defBody (topS 6)) (defScope (topS 6)) .none kV0 dc0 pm0 an0 cd0 ct0), sl0⟩) (c0 : PySem.W.codeIn K cd0 (Str.ofString "is_in") = true) (k0 : PySem.W.keepIn K (.ref f0) = true)
    (a1 : PySem.W.nsIn K mainGlobals (Str.ofString "is_factor") = some (some (.ref f1))) (l1 : K.lookup f1 = some ⟨oc1, od1, .func (PySem.W.fnOf (Str.ofString "is_factor") (Str.ofString "is_factor") (defArgs (topS 12)) (defBody (topS 12)) (defScope (topS 12)) .none kV1 dc1 pm1 an1 cd1 ct1), sl1⟩) (c1 : PySem.W.codeIn K cd1 (Str.ofString "is_factor") = true) (k1 : PySem.W.keepIn K (.ref f1) = true)
    (a2 : PySem.W.nsIn K mainGlobals (Str.ofString "need_table") = some (some (.ref f2))) (l2 : K.lookup f2 = some ⟨oc2, od2, .func (PySem.W.fnOf (Str.ofString "need_table") (Str.ofString "need_table") (defArgs (topS 13)) (defBody (topS 13)) (defScope (topS 13)) .none kV2 dc2 pm2 an2 cd2 ct2), sl2⟩) (c2 : PySem.W.codeIn K cd2 (Str.ofString "need_table") = true) (k2 : PySem.W.keepIn K (.ref f2) = true)
    (a3 : PySem.W.nsIn K mainGlobals (Str.ofString "owed_in") = some (some (.ref f3))) (l3 : K.lookup f3 = some ⟨oc3, od3, .func (PySem.W.fnOf (Str.ofString "owed_in") (Str.ofString "owed_in") (defArgs (topS 14)) (defBody (topS 14)) (defScope (topS 14)) .none kV3 dc3 pm3 an3 cd3 ct3), sl3⟩) (c3 : PySem.W.codeIn K cd3 (Str.ofString "owed_in") = true) (k3 : PySem.W.keepIn K (.ref f3) = true)
    (a4 : PySem.W.nsIn K mainGlobals (Str.ofString "payers_in") = some (some (.ref f4))) (l4 : K.lookup f4 = some ⟨oc4, od4, .func (PySem.W.fnOf (Str.ofString "payers_in") (Str.ofString "payers_in") (defArgs (topS 15)) (defBody (topS 15)) (defScope (topS 15)) .none kV4 dc4 pm4 an4 cd4 ct4), sl4⟩) (c4 : PySem.W.codeIn K cd4 (Str.ofString "payers_in") = true) (k4 : PySem.W.keepIn K (.ref f4) = true)
    (a5 : PySem.W.nsIn K mainGlobals (Str.ofString "need_word") = some (some (.ref f5))) (l5 : K.lookup f5 = some ⟨oc5, od5, .func (PySem.W.fnOf (Str.ofString "need_word") (Str.ofString "need_word") (defArgs (topS 18)) (defBody (topS 18)) (defScope (topS 18)) .none kV5 dc5 pm5 an5 cd5 ct5), sl5⟩) (c5 : PySem.W.codeIn K cd5 (Str.ofString "need_word") = true) (k5 : PySem.W.keepIn K (.ref f5) = true)
    (a6 : PySem.W.nsIn K mainGlobals (Str.ofString "need_rounds") = some (some (.ref f6))) (l6 : K.lookup f6 = some ⟨oc6, od6, .func (PySem.W.fnOf (Str.ofString "need_rounds") (Str.ofString "need_rounds") (defArgs (topS 19)) (defBody (topS 19)) (defScope (topS 19)) .none kV6 dc6 pm6 an6 cd6 ct6), sl6⟩) (c6 : PySem.W.codeIn K cd6 (Str.ofString "need_rounds") = true) (k6 : PySem.W.keepIn K (.ref f6) = true)
    (a7 : PySem.W.nsIn K mainGlobals (Str.ofString "power") = some (some (.ref f7))) (l7 : K.lookup f7 = some ⟨oc7, od7, .func (PySem.W.fnOf (Str.ofString "power") (Str.ofString "power") (defArgs (topS 20)) (defBody (topS 20)) (defScope (topS 20)) .none kV7 dc7 pm7 an7 cd7 ct7), sl7⟩) (c7 : PySem.W.codeIn K cd7 (Str.ofString "power") = true) (k7 : PySem.W.keepIn K (.ref f7) = true)
    (a8 : PySem.W.nsIn K mainGlobals (Str.ofString "numbers_in") = some (some (.ref f8))) (l8 : K.lookup f8 = some ⟨oc8, od8, .func (PySem.W.fnOf (Str.ofString "numbers_in") (Str.ofString "numbers_in") (defArgs (topS 21)) (defBody (topS 21)) (defScope (topS 21)) .none kV8 dc8 pm8 an8 cd8 ct8), sl8⟩) (c8 : PySem.W.codeIn K cd8 (Str.ofString "numbers_in") = true) (k8 : PySem.W.keepIn K (.ref f8) = true)
    (a9 : PySem.W.nsIn K mainGlobals (Str.ofString "after_in") = some (some (.ref f9))) (l9 : K.lookup f9 = some ⟨oc9, od9, .func (PySem.W.fnOf (Str.ofString "after_in") (Str.ofString "after_in") (defArgs (topS 22)) (defBody (topS 22)) (defScope (topS 22)) .none kV9 dc9 pm9 an9 cd9 ct9), sl9⟩) (c9 : PySem.W.codeIn K cd9 (Str.ofString "after_in") = true) (k9 : PySem.W.keepIn K (.ref f9) = true)
    (a10 : PySem.W.nsIn K mainGlobals (Str.ofString "payable_in") = some (some (.ref f10))) (l10 : K.lookup f10 = some ⟨oc10, od10, .func (PySem.W.fnOf (Str.ofString "payable_in") (Str.ofString "payable_in") (defArgs (topS 23)) (defBody (topS 23)) (defScope (topS 23)) .none kV10 dc10 pm10 an10 cd10 ct10), sl10⟩) (c10 : PySem.W.codeIn K cd10 (Str.ofString "payable_in") = true) (k10 : PySem.W.keepIn K (.ref f10) = true)
    (a11 : PySem.W.nsIn K mainGlobals (Str.ofString "need_both") = some (some (.ref f11))) (l11 : K.lookup f11 = some ⟨oc11, od11, .func (PySem.W.fnOf (Str.ofString "need_both") (Str.ofString "need_both") (defArgs (topS 25)) (defBody (topS 25)) (defScope (topS 25)) .none kV11 dc11 pm11 an11 cd11 ct11), sl11⟩) (c11 : PySem.W.codeIn K cd11 (Str.ofString "need_both") = true) (k11 : PySem.W.keepIn K (.ref f11) = true)
    (a12 : PySem.W.nsIn K mainGlobals (Str.ofString "line_of") = some (some (.ref f12))) (l12 : K.lookup f12 = some ⟨oc12, od12, .func (PySem.W.fnOf (Str.ofString "line_of") (Str.ofString "line_of") (defArgs (topS 26)) (defBody (topS 26)) (defScope (topS 26)) .none kV12 dc12 pm12 an12 cd12 ct12), sl12⟩) (c12 : PySem.W.codeIn K cd12 (Str.ofString "line_of") = true) (k12 : PySem.W.keepIn K (.ref f12) = true)
    (a13 : PySem.W.nsIn K mainGlobals (Str.ofString "moved_along") = some (some (.ref f13))) (l13 : K.lookup f13 = some ⟨oc13, od13, .func (PySem.W.fnOf (Str.ofString "moved_along") (Str.ofString "moved_along") (defArgs (topS 27)) (defBody (topS 27)) (defScope (topS 27)) .none kV13 dc13 pm13 an13 cd13 ct13), sl13⟩) (c13 : PySem.W.codeIn K cd13 (Str.ofString "moved_along") = true) (k13 : PySem.W.keepIn K (.ref f13) = true)
    (a14 : PySem.W.nsIn K mainGlobals (Str.ofString "word_in") = some (some (.ref f14))) (l14 : K.lookup f14 = some ⟨oc14, od14, .func (PySem.W.fnOf (Str.ofString "word_in") (Str.ofString "word_in") (defArgs (topS 28)) (defBody (topS 28)) (defScope (topS 28)) .none kV14 dc14 pm14 an14 cd14 ct14), sl14⟩) (c14 : PySem.W.codeIn K cd14 (Str.ofString "word_in") = true) (k14 : PySem.W.keepIn K (.ref f14) = true)
    (a15 : PySem.W.nsIn K mainGlobals (Str.ofString "moved_in") = some (some (.ref f15))) (l15 : K.lookup f15 = some ⟨oc15, od15, .func (PySem.W.fnOf (Str.ofString "moved_in") (Str.ofString "moved_in") (defArgs (topS 29)) (defBody (topS 29)) (defScope (topS 29)) .none kV15 dc15 pm15 an15 cd15 ct15), sl15⟩) (c15 : PySem.W.codeIn K cd15 (Str.ofString "moved_in") = true) (k15 : PySem.W.keepIn K (.ref f15) = true)
    (a16 : PySem.W.nsIn K mainGlobals (Str.ofString "moved_word") = some (some (.ref f16))) (l16 : K.lookup f16 = some ⟨oc16, od16, .func (PySem.W.fnOf (Str.ofString "moved_word") (Str.ofString "moved_word") (defArgs (topS 30)) (defBody (topS 30)) (defScope (topS 30)) .none kV16 dc16 pm16 an16 cd16 ct16), sl16⟩) (c16 : PySem.W.codeIn K cd16 (Str.ofString "moved_word") = true) (k16 : PySem.W.keepIn K (.ref f16) = true)
    (a17 : PySem.W.nsIn K mainGlobals (Str.ofString "gains") = some (some (.ref f17))) (l17 : K.lookup f17 = some ⟨oc17, od17, .func (PySem.W.fnOf (Str.ofString "gains") (Str.ofString "gains") (defArgs (topS 31)) (defBody (topS 31)) (defScope (topS 31)) .none kV17 dc17 pm17 an17 cd17 ct17), sl17⟩) (c17 : PySem.W.codeIn K cd17 (Str.ofString "gains") = true) (k17 : PySem.W.keepIn K (.ref f17) = true)
    (a18 : PySem.W.nsIn K mainGlobals (Str.ofString "losers") = some (some (.ref f18))) (l18 : K.lookup f18 = some ⟨oc18, od18, .func (PySem.W.fnOf (Str.ofString "losers") (Str.ofString "losers") (defArgs (topS 32)) (defBody (topS 32)) (defScope (topS 32)) .none kV18 dc18 pm18 an18 cd18 ct18), sl18⟩) (c18 : PySem.W.codeIn K cd18 (Str.ofString "losers") = true) (k18 : PySem.W.keepIn K (.ref f18) = true)
    (a19 : PySem.W.nsIn K mainGlobals (Str.ofString "handed") = some (some (.ref f19))) (l19 : K.lookup f19 = some ⟨oc19, od19, .func (PySem.W.fnOf (Str.ofString "handed") (Str.ofString "handed") (defArgs (topS 33)) (defBody (topS 33)) (defScope (topS 33)) .none kV19 dc19 pm19 an19 cd19 ct19), sl19⟩) (c19 : PySem.W.codeIn K cd19 (Str.ofString "handed") = true) (k19 : PySem.W.keepIn K (.ref f19) = true)
    (a20 : PySem.W.nsIn K mainGlobals (Str.ofString "taken") = some (some (.ref f20))) (l20 : K.lookup f20 = some ⟨oc20, od20, .func (PySem.W.fnOf (Str.ofString "taken") (Str.ofString "taken") (defArgs (topS 34)) (defBody (topS 34)) (defScope (topS 34)) .none kV20 dc20 pm20 an20 cd20 ct20), sl20⟩) (c20 : PySem.W.codeIn K cd20 (Str.ofString "taken") = true) (k20 : PySem.W.keepIn K (.ref f20) = true)
    (a21 : PySem.W.nsIn K mainGlobals (Str.ofString "_law_taken") = some (some (.ref f21))) (l21 : K.lookup f21 = some ⟨oc21, od21, .func (PySem.W.fnOf (Str.ofString "_law_taken") (Str.ofString "_law_taken") (defArgs (topS 36)) (defBody (topS 36)) (defScope (topS 36)) .none kV21 dc21 pm21 an21 cd21 ct21), sl21⟩) (c21 : PySem.W.codeIn K cd21 (Str.ofString "_law_taken") = true) (k21 : PySem.W.keepIn K (.ref f21) = true)
    (a22 : PySem.W.nsIn K mainGlobals (Str.ofString "_law_pick") = some (some (.ref f22))) (l22 : K.lookup f22 = some ⟨oc22, od22, .func (PySem.W.fnOf (Str.ofString "_law_pick") (Str.ofString "_law_pick") (defArgs (topS 37)) (defBody (topS 37)) (defScope (topS 37)) .none kV22 dc22 pm22 an22 cd22 ct22), sl22⟩) (c22 : PySem.W.codeIn K cd22 (Str.ofString "_law_pick") = true) (k22 : PySem.W.keepIn K (.ref f22) = true)
    (a23 : PySem.W.nsIn K mainGlobals (Str.ofString "_law_table") = some (some (.ref f23))) (l23 : K.lookup f23 = some ⟨oc23, od23, .func (PySem.W.fnOf (Str.ofString "_law_table") (Str.ofString "_law_table") (defArgs (topS 38)) (defBody (topS 38)) (defScope (topS 38)) .none kV23 dc23 pm23 an23 cd23 ct23), sl23⟩) (c23 : PySem.W.codeIn K cd23 (Str.ofString "_law_table") = true) (k23 : PySem.W.keepIn K (.ref f23) = true)
    (a24 : PySem.W.nsIn K mainGlobals (Str.ofString "_law_word") = some (some (.ref f24))) (l24 : K.lookup f24 = some ⟨oc24, od24, .func (PySem.W.fnOf (Str.ofString "_law_word") (Str.ofString "_law_word") (defArgs (topS 39)) (defBody (topS 39)) (defScope (topS 39)) .none kV24 dc24 pm24 an24 cd24 ct24), sl24⟩) (c24 : PySem.W.codeIn K cd24 (Str.ofString "_law_word") = true) (k24 : PySem.W.keepIn K (.ref f24) = true)
    (a25 : PySem.W.nsIn K mainGlobals (Str.ofString "_law_owed") = some (some (.ref f25))) (l25 : K.lookup f25 = some ⟨oc25, od25, .func (PySem.W.fnOf (Str.ofString "_law_owed") (Str.ofString "_law_owed") (defArgs (topS 40)) (defBody (topS 40)) (defScope (topS 40)) .none kV25 dc25 pm25 an25 cd25 ct25), sl25⟩) (c25 : PySem.W.codeIn K cd25 (Str.ofString "_law_owed") = true) (k25 : PySem.W.keepIn K (.ref f25) = true)
    (a26 : PySem.W.nsIn K mainGlobals (Str.ofString "_law_along") = some (some (.ref f26))) (l26 : K.lookup f26 = some ⟨oc26, od26, .func (PySem.W.fnOf (Str.ofString "_law_along") (Str.ofString "_law_along") (defArgs (topS 41)) (defBody (topS 41)) (defScope (topS 41)) .none kV26 dc26 pm26 an26 cd26 ct26), sl26⟩) (c26 : PySem.W.codeIn K cd26 (Str.ofString "_law_along") = true) (k26 : PySem.W.keepIn K (.ref f26) = true)
    (a27 : PySem.W.nsIn K mainGlobals (Str.ofString "_law_alike") = some (some (.ref f27))) (l27 : K.lookup f27 = some ⟨oc27, od27, .func (PySem.W.fnOf (Str.ofString "_law_alike") (Str.ofString "_law_alike") (defArgs (topS 42)) (defBody (topS 42)) (defScope (topS 42)) .none kV27 dc27 pm27 an27 cd27 ct27), sl27⟩) (c27 : PySem.W.codeIn K cd27 (Str.ofString "_law_alike") = true) (k27 : PySem.W.keepIn K (.ref f27) = true)
    (a28 : PySem.W.nsIn K mainGlobals (Str.ofString "_law_payers") = some (some (.ref f28))) (l28 : K.lookup f28 = some ⟨oc28, od28, .func (PySem.W.fnOf (Str.ofString "_law_payers") (Str.ofString "_law_payers") (defArgs (topS 43)) (defBody (topS 43)) (defScope (topS 43)) .none kV28 dc28 pm28 an28 cd28 ct28), sl28⟩) (c28 : PySem.W.codeIn K cd28 (Str.ofString "_law_payers") = true) (k28 : PySem.W.keepIn K (.ref f28) = true)
    (a29 : PySem.W.nsIn K mainGlobals (Str.ofString "_law_play") = some (some (.ref f29))) (l29 : K.lookup f29 = some ⟨oc29, od29, .func (PySem.W.fnOf (Str.ofString "_law_play") (Str.ofString "_law_play") (defArgs (topS 44)) (defBody (topS 44)) (defScope (topS 44)) .none kV29 dc29 pm29 an29 cd29 ct29), sl29⟩) (c29 : PySem.W.codeIn K cd29 (Str.ofString "_law_play") = true) (k29 : PySem.W.keepIn K (.ref f29) = true)
    (a30 : PySem.W.nsIn K mainGlobals (Str.ofString "law") = some (some (.ref f30))) (l30 : K.lookup f30 = some ⟨oc30, od30, .func (PySem.W.fnOf (Str.ofString "law") (Str.ofString "law") (defArgs (topS 45)) (defBody (topS 45)) (defScope (topS 45)) .none kV30 dc30 pm30 an30 cd30 ct30), sl30⟩) (c30 : PySem.W.codeIn K cd30 (Str.ofString "law") = true) (k30 : PySem.W.keepIn K (.ref f30) = true)
    (z0 : PySem.W.nsIn K mainGlobals (Str.ofString "bool") = some none)
    (z1 : PySem.W.nsIn K mainGlobals (Str.ofString "enumerate") = some none)
    (z2 : PySem.W.nsIn K mainGlobals (Str.ofString "int") = some none)
    (z3 : PySem.W.nsIn K mainGlobals (Str.ofString "isinstance") = some none)
    (z4 : PySem.W.nsIn K mainGlobals (Str.ofString "len") = some none)
    (z5 : PySem.W.nsIn K mainGlobals (Str.ofString "list") = some none)
    (z6 : PySem.W.nsIn K mainGlobals (Str.ofString "range") = some none)
    (z7 : PySem.W.nsIn K mainGlobals (Str.ofString "str") = some none)
    (z8 : PySem.W.nsIn K mainGlobals (Str.ofString "sum") = some none)
    (z9 : PySem.W.nsIn K mainGlobals (Str.ofString "tuple") = some none)
    (z10 : PySem.W.nsIn K mainGlobals (Str.ofString "zip") = some none)
    (q0 : PySem.W.nsIn K mainGlobals (Str.ofString "LEAST_FACTOR") = some (some (.int 2 t0)))
    (q1 : PySem.W.nsIn K mainGlobals (Str.ofString "MOST_COINS") = some (some (.int 1000000 t1)))
    (q2 : PySem.W.nsIn K mainGlobals (Str.ofString "MOST_FACTOR") = some (some (.int 9 t2)))
    (q3 : PySem.W.nsIn K mainGlobals (Str.ofString "MOST_PLAYERS") = some (some (.int 6 t3)))
    (q4 : PySem.W.nsIn K mainGlobals (Str.ofString "MOST_ROUNDS") = some (some (.int 40 t4)))
    (nl : noLst K = true) :
    ∃ fd : FuncData, (∀ (s : Shared) (v : Value), BindsTo s fd ⟨[v], []⟩ [(Str.ofString "_law_script", v)]) ∧ ∀ base : Heap, K.In base → base.Ns mainGlobals mg → FnOk l.prog w K mg base CX0 47 fa fd [Str.ofString "_law_script"] (spLaw K 63) := by
  have e := hfa.symm.trans (PySem.W.mg_of X G a30)
  cases e
  have F0 := fun_mk (st := topS 6) l0 c0 k0
  have B0 := F0.binds (ps := [Str.ofString "value", Str.ofString "least", Str.ofString "most"]) fun _ _ _ _ _ _ us hl => match us, hl with | [_, _, _], _ => rfl
  have F1 := fun_mk (st := topS 12) l1 c1 k1
  have B1 := F1.binds (ps := [Str.ofString "value"]) fun _ _ _ _ _ _ us hl => match us, hl with | [_], _ => rfl
  have F2 := fun_mk (st := topS 13) l2 c2 k2
  have B2 := F2.binds (ps := [Str.ofString "table"]) fun _ _ _ _ _ _ us hl => match us, hl with | [_], _ => rfl
  have F3 := fun_mk (st := topS 14) l3 c3 k3
  have B3 := F3.binds (ps := [Str.ofString "factor", Str.ofString "coins", Str.ofString "player"]) fun _ _ _ _ _ _ us hl => match us, hl with | [_, _, _], _ => rfl
  have F4 := fun_mk (st := topS 15) l4 c4 k4
  have B4 := F4.binds (ps := [Str.ofString "factor", Str.ofString "coins"]) fun _ _ _ _ _ _ us hl => match us, hl with | [_, _], _ => rfl
  have F5 := fun_mk (st := topS 18) l5 c5 k5
  have B5 := F5.binds (ps := [Str.ofString "players", Str.ofString "word"]) fun _ _ _ _ _ _ us hl => match us, hl with | [_, _], _ => rfl
  have F6 := fun_mk (st := topS 19) l6 c6 k6
  have B6 := F6.binds (ps := [Str.ofString "many"]) fun _ _ _ _ _ _ us hl => match us, hl with | [_], _ => rfl
  have F7 := fun_mk (st := topS 20) l7 c7 k7
  have B7 := F7.binds (ps := [Str.ofString "factor", Str.ofString "many"]) fun _ _ _ _ _ _ us hl => match us, hl with | [_, _], _ => rfl
  have F8 := fun_mk (st := topS 21) l8 c8 k8
  have B8 := F8.binds (ps := [Str.ofString "factor", Str.ofString "players", Str.ofString "word"]) fun _ _ _ _ _ _ us hl => match us, hl with | [_, _, _], _ => rfl
  have F9 := fun_mk (st := topS 22) l9 c9 k9
  have B9 := F9.binds (ps := [Str.ofString "factor", Str.ofString "coins", Str.ofString "word"]) fun _ _ _ _ _ _ us hl => match us, hl with | [_, _, _], _ => rfl
  have F10 := fun_mk (st := topS 23) l10 c10 k10
  have B10 := F10.binds (ps := [Str.ofString "table", Str.ofString "many"]) fun _ _ _ _ _ _ us hl => match us, hl with | [_, _], _ => rfl
  have F11 := fun_mk (st := topS 25) l11 c11 k11
  have B11 := F11.binds (ps := [Str.ofString "table", Str.ofString "word"]) fun _ _ _ _ _ _ us hl => match us, hl with | [_, _], _ => rfl
  have F12 := fun_mk (st := topS 26) l12 c12 k12
  have B12 := F12.binds (ps := [Str.ofString "table", Str.ofString "word"]) fun _ _ _ _ _ _ us hl => match us, hl with | [_, _], _ => rfl
  have F13 := fun_mk (st := topS 27) l13 c13 k13
  have B13 := F13.binds (ps := [Str.ofString "table", Str.ofString "word"]) fun _ _ _ _ _ _ us hl => match us, hl with | [_, _], _ => rfl
  have F14 := fun_mk (st := topS 28) l14 c14 k14
  have B14 := F14.binds (ps := [Str.ofString "table", Str.ofString "many"]) fun _ _ _ _ _ _ us hl => match us, hl with | [_, _], _ => rfl
  have F15 := fun_mk (st := topS 29) l15 c15 k15
  have B15 := F15.binds (ps := [Str.ofString "table", Str.ofString "many"]) fun _ _ _ _ _ _ us hl => match us, hl with | [_, _], _ => rfl
  have F16 := fun_mk (st := topS 30) l16 c16 k16
  have B16 := F16.binds (ps := [Str.ofString "table", Str.ofString "word"]) fun _ _ _ _ _ _ us hl => match us, hl with | [_, _], _ => rfl
  have F17 := fun_mk (st := topS 31) l17 c17 k17
  have B17 := F17.binds (ps := [Str.ofString "table", Str.ofString "word"]) fun _ _ _ _ _ _ us hl => match us, hl with | [_, _], _ => rfl
  have F18 := fun_mk (st := topS 32) l18 c18 k18
  have B18 := F18.binds (ps := [Str.ofString "table", Str.ofString "word"]) fun _ _ _ _ _ _ us hl => match us, hl with | [_, _], _ => rfl
  have F19 := fun_mk (st := topS 33) l19 c19 k19
  have B19 := F19.binds (ps := [Str.ofString "table", Str.ofString "word"]) fun _ _ _ _ _ _ us hl => match us, hl with | [_, _], _ => rfl
  have F20 := fun_mk (st := topS 34) l20 c20 k20
  have B20 := F20.binds (ps := [Str.ofString "table", Str.ofString "word"]) fun _ _ _ _ _ _ us hl => match us, hl with | [_, _], _ => rfl
  have F21 := fun_mk (st := topS 36) l21 c21 k21
  have B21 := F21.binds (ps := [Str.ofString "_law_row", Str.ofString "_law_many"]) fun _ _ _ _ _ _ us hl => match us, hl with | [_, _], _ => rfl
  have F22 := fun_mk (st := topS 37) l22 c22 k22
  have B22 := F22.binds (ps := [Str.ofString "_law_row", Str.ofString "_law_things"]) fun _ _ _ _ _ _ us hl => match us, hl with | [_, _], _ => rfl
  have F23 := fun_mk (st := topS 38) l23 c23 k23
  have B23 := F23.binds (ps := [Str.ofString "_law_row", Str.ofString "_law_most", Str.ofString "_law_top"]) fun _ _ _ _ _ _ us hl => match us, hl with | [_, _, _], _ => rfl
  have F24 := fun_mk (st := topS 39) l24 c24 k24
  have B24 := F24.binds (ps := [Str.ofString "_law_row", Str.ofString "_law_players", Str.ofString "_law_most"]) fun _ _ _ _ _ _ us hl => match us, hl with | [_, _, _], _ => rfl
  have F25 := fun_mk (st := topS 40) l25 c25 k25
  have B25 := F25.binds (ps := [Str.ofString "_law_factor", Str.ofString "_law_coins", Str.ofString "_law_payer"]) fun _ _ _ _ _ _ us hl => match us, hl with | [_, _, _], _ => rfl
  have F26 := fun_mk (st := topS 41) l26 c26 k26
  have B26 := F26.binds (ps := [Str.ofString "_law_factor", Str.ofString "_law_coins", Str.ofString "_law_word_here"]) fun _ _ _ _ _ _ us hl => match us, hl with | [_, _, _], _ => rfl
  have F27 := fun_mk (st := topS 42) l27 c27 k27
  have B27 := F27.binds (ps := [Str.ofString "_law_found", Str.ofString "_law_due"]) fun _ _ _ _ _ _ us hl => match us, hl with | [_, _], _ => rfl
  have F28 := fun_mk (st := topS 43) l28 c28 k28
  have B28 := F28.binds (ps := [Str.ofString "_law_factor", Str.ofString "_law_coins"]) fun _ _ _ _ _ _ us hl => match us, hl with | [_, _], _ => rfl
  have F29 := fun_mk (st := topS 44) l29 c29 k29
  have B29 := F29.binds (ps := [Str.ofString "_law_factor", Str.ofString "_law_coins", Str.ofString "_law_many"]) fun _ _ _ _ _ _ us hl => match us, hl with | [_, _, _], _ => rfl
  have F30 := fun_mk (st := topS 45) l30 c30 k30
  have B30 := F30.binds (ps := [Str.ofString "_law_script"]) fun _ _ _ _ _ _ us hl => match us, hl with | [_], _ => rfl
  have ES : ∀ e ∈ TB.es, EntOk K mg e := (mem_all_cons ⟨_, _, PySem.W.mg_of X G a0, F0, B0⟩ (mem_all_cons ⟨_, _, PySem.W.mg_of X G a1, F1, B1⟩ (mem_all_cons ⟨_, _, PySem.W.mg_of X G a2, F2, B2⟩ (mem_all_cons ⟨_, _, PySem.W.mg_of X G a3, F3, B3⟩ (mem_all_cons ⟨_, _, PySem.W.mg_of X G a4, F4, B4⟩ (mem_all_cons ⟨_, _, PySem.W.mg_of X G a5, F5, B5⟩ (mem_all_cons ⟨_, _, PySem.W.mg_of X G a6, F6, B6⟩ (mem_all_cons ⟨_, _, PySem.W.mg_of X G a7, F7, B7⟩ (mem_all_cons ⟨_, _, PySem.W.mg_of X G a8, F8, B8⟩ (mem_all_cons ⟨_, _, PySem.W.mg_of X G a9, F9, B9⟩ (mem_all_cons ⟨_, _, PySem.W.mg_of X G a10, F10, B10⟩ (mem_all_cons ⟨_, _, PySem.W.mg_of X G a11, F11, B11⟩ (mem_all_cons ⟨_, _, PySem.W.mg_of X G a12, F12, B12⟩ (mem_all_cons ⟨_, _, PySem.W.mg_of X G a13, F13, B13⟩ (mem_all_cons ⟨_, _, PySem.W.mg_of X G a14, F14, B14⟩ (mem_all_cons ⟨_, _, PySem.W.mg_of X G a15, F15, B15⟩ (mem_all_cons ⟨_, _, PySem.W.mg_of X G a16, F16, B16⟩ (mem_all_cons ⟨_, _, PySem.W.mg_of X G a17, F17, B17⟩ (mem_all_cons ⟨_, _, PySem.W.mg_of X G a18, F18, B18⟩ (mem_all_cons ⟨_, _, PySem.W.mg_of X G a19, F19, B19⟩ (mem_all_cons ⟨_, _, PySem.W.mg_of X G a20, F20, B20⟩ (mem_all_cons ⟨_, _, PySem.W.mg_of X G a21, F21, B21⟩ (mem_all_cons ⟨_, _, PySem.W.mg_of X G a22, F22, B22⟩ (mem_all_cons ⟨_, _, PySem.W.mg_of X G a23, F23, B23⟩ (mem_all_cons ⟨_, _, PySem.W.mg_of X G a24, F24, B24⟩ (mem_all_cons ⟨_, _, PySem.W.mg_of X G a25, F25, B25⟩ (mem_all_cons ⟨_, _, PySem.W.mg_of X G a26, F26, B26⟩ (mem_all_cons ⟨_, _, PySem.W.mg_of X G a27, F27, B27⟩ (mem_all_cons ⟨_, _, PySem.W.mg_of X G a28, F28, B28⟩ (mem_all_cons ⟨_, _, PySem.W.mg_of X G a29, F29, B29⟩ (mem_all_cons ⟨_, _, PySem.W.mg_of X G a30, F30, B30⟩ mem_all_nil)))))))))))))))))))))))))))))))
  have TO : TabOk TB K mg := ⟨ES, (mem_all_cons ⟨_, PySem.W.mg_of X G q0, _, rfl⟩ (mem_all_cons ⟨_, PySem.W.mg_of X G q1, _, rfl⟩ (mem_all_cons ⟨_, PySem.W.mg_of X G q2, _, rfl⟩ (mem_all_cons ⟨_, PySem.W.mg_of X G q3, _, rfl⟩ (mem_all_cons ⟨_, PySem.W.mg_of X G q4, _, rfl⟩ mem_all_nil))))), (mem_all_cons (PySem.W.mg_none_of X G z0) (mem_all_cons (PySem.W.mg_none_of X G z1) (mem_all_cons (PySem.W.mg_none_of X G z2) (mem_all_cons (PySem.W.mg_none_of X G z3) (mem_all_cons (PySem.W.mg_none_of X G z4) (mem_all_cons (PySem.W.mg_none_of X G z5) (mem_all_cons (PySem.W.mg_none_of X G z6) (mem_all_cons (PySem.W.mg_none_of X G z7) (mem_all_cons (PySem.W.mg_none_of X G z8) (mem_all_cons (PySem.W.mg_none_of X G z9) (mem_all_cons (PySem.W.mg_none_of X G z10) mem_all_nil)))))))))))⟩
  refine ⟨PySem.W.fnOf (Str.ofString "law") (Str.ofString "law") (defArgs (topS 45)) (defBody (topS 45)) (defScope (topS 45)) .none kV30 dc30 pm30 an30 cd30 ct30, fun s v => .of_eq rfl, fun base _ _ => ?_⟩
  exact law_run (e := en_129) TO TB_ok (by simp [TB]) rfl (PySem.W.mg_of X G a30) F30 nl law_true
end DP
open PySem PySem.W PyProof.Rows
set_option maxHeartbeats 0 in
theorem PySem.Challenge.cw_doublepay_k39_whole_coins_moved_holds : PySem.Challenge.rw_doublepay_k39_whole_coins_moved.Holds := by
  w_on; o_law; k_head; (case hw => w_witness2)
  k_fill
  refine L2.walk_of (l := PySem.Challenge.rw_doublepay_k39_whole_coins_moved) (n := 63) (k := 47) (x := "_law_script") (CX := fun _ => L2.CX0) (sp := fun w => DP.spLaw _ 63) rfl (by decide) rfl ⟨rfl, by decide, by decide⟩ (fun w h Y => PySem.W.kIn_of Y) ?F (fun _ H a ns hl ho hS => ⟨a, ns, rfl, hl, ho, hS, fun _ => rfl⟩) (fun _ _ _ _ _ h => h)
  case F =>
    intro w mg fa h KX G hmg
    refine' DP.all_mk KX G hmg ?a0 ?l0 ?c0 ?k0 ?a1 ?l1 ?c1 ?k1 ?a2 ?l2 ?c2 ?k2 ?a3 ?l3 ?c3 ?k3 ?a4 ?l4 ?c4 ?k4 ?a5 ?l5 ?c5 ?k5 ?a6 ?l6 ?c6 ?k6 ?a7 ?l7 ?c7 ?k7 ?a8 ?l8 ?c8 ?k8 ?a9 ?l9 ?c9 ?k9 ?a10 ?l10 ?c10 ?k10 ?a11 ?l11 ?c11 ?k11 ?a12 ?l12 ?c12 ?k12 ?a13 ?l13 ?c13 ?k13 ?a14 ?l14 ?c14 ?k14 ?a15 ?l15 ?c15 ?k15 ?a16 ?l16 ?c16 ?k16 ?a17 ?l17 ?c17 ?k17 ?a18 ?l18 ?c18 ?k18 ?a19 ?l19 ?c19 ?k19 ?a20 ?l20 ?c20 ?k20 ?a21 ?l21 ?c21 ?k21 ?a22 ?l22 ?c22 ?k22 ?a23 ?l23 ?c23 ?k23 ?a24 ?l24 ?c24 ?k24 ?a25 ?l25 ?c25 ?k25 ?a26 ?l26 ?c26 ?k26 ?a27 ?l27 ?c27 ?k27 ?a28 ?l28 ?c28 ?k28 ?a29 ?l29 ?c29 ?k29 ?a30 ?l30 ?c30 ?k30 ?z0 ?z1 ?z2 ?z3 ?z4 ?z5 ?z6 ?z7 ?z8 ?z9 ?z10 ?q0 ?q1 ?q2 ?q3 ?q4 ?nl
    (case a0 => k_is); (case l0 => k_is); (case c0 => k_is); (case k0 => k_is); (case a1 => k_is); (case l1 => k_is); (case c1 => k_is); (case k1 => k_is); (case a2 => k_is); (case l2 => k_is); (case c2 => k_is); (case k2 => k_is); (case a3 => k_is); (case l3 => k_is); (case c3 => k_is); (case k3 => k_is); (case a4 => k_is); (case l4 => k_is); (case c4 => k_is); (case k4 => k_is); (case a5 => k_is); (case l5 => k_is); (case c5 => k_is); (case k5 => k_is); (case a6 => k_is); (case l6 => k_is); (case c6 => k_is); (case k6 => k_is); (case a7 => k_is); (case l7 => k_is); (case c7 => k_is); (case k7 => k_is); (case a8 => k_is); (case l8 => k_is); (case c8 => k_is); (case k8 => k_is); (case a9 => k_is); (case l9 => k_is); (case c9 => k_is); (case k9 => k_is); (case a10 => k_is); (case l10 => k_is); (case c10 => k_is); (case k10 => k_is); (case a11 => k_is); (case l11 => k_is); (case c11 => k_is); (case k11 => k_is); (case a12 => k_is); (case l12 => k_is); (case c12 => k_is); (case k12 => k_is); (case a13 => k_is); (case l13 => k_is); (case c13 => k_is); (case k13 => k_is); (case a14 => k_is); (case l14 => k_is); (case c14 => k_is); (case k14 => k_is); (case a15 => k_is); (case l15 => k_is); (case c15 => k_is); (case k15 => k_is); (case a16 => k_is); (case l16 => k_is); (case c16 => k_is); (case k16 => k_is); (case a17 => k_is); (case l17 => k_is); (case c17 => k_is); (case k17 => k_is); (case a18 => k_is); (case l18 => k_is); (case c18 => k_is); (case k18 => k_is); (case a19 => k_is); (case l19 => k_is); (case c19 => k_is); (case k19 => k_is); (case a20 => k_is); (case l20 => k_is); (case c20 => k_is); (case k20 => k_is); (case a21 => k_is); (case l21 => k_is); (case c21 => k_is); (case k21 => k_is); (case a22 => k_is); (case l22 => k_is); (case c22 => k_is); (case k22 => k_is); (case a23 => k_is); (case l23 => k_is); (case c23 => k_is); (case k23 => k_is); (case a24 => k_is); (case l24 => k_is); (case c24 => k_is); (case k24 => k_is); (case a25 => k_is); (case l25 => k_is); (case c25 => k_is); (case k25 => k_is); (case a26 => k_is); (case l26 => k_is); (case c26 => k_is); (case k26 => k_is); (case a27 => k_is); (case l27 => k_is); (case c27 => k_is); (case k27 => k_is); (case a28 => k_is); (case l28 => k_is); (case c28 => k_is); (case k28 => k_is); (case a29 => k_is); (case l29 => k_is); (case c29 => k_is); (case k29 => k_is); (case a30 => k_is); (case l30 => k_is); (case c30 => k_is); (case k30 => k_is); (case z0 => k_is); (case z1 => k_is); (case z2 => k_is); (case z3 => k_is); (case z4 => k_is); (case z5 => k_is); (case z6 => k_is); (case z7 => k_is); (case z8 => k_is); (case z9 => k_is); (case z10 => k_is); (case q0 => k_is); (case q1 => k_is); (case q2 => k_is); (case q3 => k_is); (case q4 => k_is)
    (case nl => first | rfl | k_is)
