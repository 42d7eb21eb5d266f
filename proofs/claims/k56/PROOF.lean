import PyProof.Rows.All
import Wide.All
import OpenK.AllK
import Wide.FinOn
import PySem.Str
import HandS.ForMost
import HandS.Lambda
import HandS.TupAny
import HandS.Wide
import HandS.IsInst
import HandS.Style
import HandS.TupLe
import HandS.Zip
import KE.GoesMore
import KE.GoesEnum
import HandS.Deep
import KE.DataMinMax
import KE.SortData
import HandS.SortInts
import HandS.Conv
import KE.SortKeyHeap
import HandS.ClsMeth
import HandS.RevTup
import HandS.Star
import HandS.EndTab
import PySem.Challenge.RW_reeledeven_k56_whole_bounds_within_bands
set_option Elab.async false
set_option linter.all false
set_option maxRecDepth 100000
set_option autoImplicit false
/-! ## MSem -/
/-! Mini: the pure side. Values D, environments by slot, combinators in the Option monad. -/
namespace Mini
open PySem
noncomputable section

abbrev Ky := Sum Int Str
inductive D where
  | non
  | bl (b : Bool)
  | int (i : Int)
  | str (s : Str)
  | tup (ds : List D)
  | lst (ds : List D)
  | scr (ds : List D)
  | dct (ks : List Ky) (ds : List D)
  | ty (n : String)

/-- the most a list may hold -/
theorem sz_ex : ∃ n : Nat, n = 16777216 := ⟨_, rfl⟩
noncomputable def SZ : Nat := Classical.choose sz_ex
theorem sz_val : SZ = 16777216 := Classical.choose_spec sz_ex

mutual
def D.flat : D → Bool
  | .tup ds => D.flats ds
  | .lst _ => false
  | .scr _ => false
  | .dct _ _ => false
  | .non => true
  | .bl _ => true
  | .int _ => true
  | .str _ => true
  | .ty _ => true
def D.flats : List D → Bool
  | [] => true
  | d :: ds => D.flat d && D.flats ds
end
def D.flatIn : D → Bool
  | .lst ds => D.flats ds
  | .dct _ ds => D.flats ds
  | _ => false

abbrev En := List (Option D)
def En.g (e : En) (i : Nat) : Option D := (e[i]?).join
def En.p (e : En) (i : Nat) (d : D) : En := e.set i (some d)
def En.wipe (e : En) : List Nat → En
  | [] => e
  | i :: r => (En.wipe e r).set i none
/-- the slots of vs as they are in o -/
def En.back (o e : En) : List Nat → En
  | [] => e
  | i :: r => (En.back o e r).set i (o[i]?).join

inductive R where
  | val (d : D)
  | own (i : Nat)
  | new (d : D)
def R.at : R → En → Option D
  | .val d, _ => some d
  | .own i, e => e.g i
  | .new d, _ => some d
def R.st : R → Option D
  | .val d => some d
  | .new d => some d
  | .own _ => none
def R.atx (i : Nat) : R → En → Option D
  | .val d, _ => some d
  | .own j, e => if j = i then none else e.g j
  | .new d, _ => some d
def R.sts : List R → Option (List D)
  | [] => some []
  | r :: rs => r.st.bind fun d => (R.sts rs).bind fun ds => some (d :: ds)
def R.ats : List R → En → Option (List D)
  | [], _ => some []
  | r :: rs, e => (r.at e).bind fun d => (R.ats rs e).bind fun ds => some (d :: ds)
def R.atxs (i : Nat) : List R → En → Option (List D)
  | [], _ => some []
  | r :: rs, e => (r.atx i e).bind fun d => (R.atxs i rs e).bind fun ds => some (d :: ds)

abbrev EF := En → Option (R × En)
abbrev TF := En → Option (Bool × En)
abbrev AF := En → Option (List R × En)
abbrev IF := En → Option (List D × En)
abbrev GF := D → En → Option En
inductive Out where
  | nx (e : En)
  | rt (r : R) (e : En)
  | bk (e : En)
  | ct (e : En)
abbrev SF := En → Option Out

def D.int? : D → Option Int
  | .int i => some i
  | _ => none
def D.bl? : D → Option Bool
  | .bl b => some b
  | _ => none
def D.str? : D → Option Str
  | .str s => some s
  | _ => none
def D.tup? : D → Option (List D)
  | .tup ds => some ds
  | _ => none
def D.lst? : D → Option (List D)
  | .lst ds => some ds
  | _ => none
def D.ty? : D → Option String
  | .ty n => some n
  | _ => none
/-- the items of a list or a tuple -/
def D.seq? : D → Option (List D)
  | .tup ds => some ds
  | .lst ds => some ds
  | _ => none
def D.ints? : List D → Option (List Int)
  | [] => some []
  | d :: ds => d.int?.bind fun i => (D.ints? ds).bind fun is => some (i :: is)
def D.bls? : List D → Option (List Bool)
  | [] => some []
  | d :: ds => d.bl?.bind fun i => (D.bls? ds).bind fun is => some (i :: is)

/-! ### operations -/
def guardR (c : Bool) (r : R) : Option R := if c = true then some r else none
def o_add (x y : D) : Option R := match x with
  | .int a => y.int?.bind fun b => some (.val (.int (a + b)))
  | .str a => y.str?.bind fun b => guardR (decide (a.length + b.length ≤ SZ)) (.val (.str (a ++ b)))
  | .tup a => y.tup?.bind fun b => guardR (decide (a.length + b.length ≤ SZ)) (.val (.tup (a ++ b)))
  | .lst a => y.lst?.bind fun b => guardR (decide (a.length + b.length ≤ SZ)) (.new (.lst (a ++ b)))
  | _ => none
def o_ii (c : Int → Int → Bool) (f : Int → Int → D) (x y : D) : Option R := x.int?.bind fun a => y.int?.bind fun b => guardR (c a b) (.val (f a b))
def always : Int → Int → Bool := fun _ _ => true
def o_sub : D → D → Option R := o_ii always fun a b => .int (a - b)
/-- tests with great numbers, behind a choice: no check of a proof may unfold them -/
abbrev Tst (α : Type) := α → Bool
def mulOk0 (a b : Int) : Bool := (decide (-(2 ^ 64) < a) && decide (a < 2 ^ 64)) || (decide (-(2 ^ 64) < b) && decide (b < 2 ^ 64))
theorem mulOk_ex : ∃ f : Int → Int → Bool, ∀ a b, f a b = mulOk0 a b := ⟨_, fun _ _ => rfl⟩
def mulOk : Int → Int → Bool := Classical.choose mulOk_ex
theorem mulOk_def (a b : Int) : mulOk a b = mulOk0 a b := Classical.choose_spec mulOk_ex a b
theorem i64_ex : ∃ f : Int → Bool, ∀ k, f k = decide (-(2 ^ 63) ≤ k ∧ k < 2 ^ 63) := ⟨_, fun _ => rfl⟩
def i64 : Int → Bool := Classical.choose i64_ex
theorem i64_def (k : Int) : i64 k = decide (-(2 ^ 63) ≤ k ∧ k < 2 ^ 63) := Classical.choose_spec i64_ex k
theorem fdOk_ex : ∃ f : Int → Bool, ∀ b, f b = decide (0 < b ∧ b < 1073741824) := ⟨_, fun _ => rfl⟩
def fdOk : Int → Bool := Classical.choose fdOk_ex
theorem fdOk_def (b : Int) : fdOk b = decide (0 < b ∧ b < 1073741824) := Classical.choose_spec fdOk_ex b
theorem le24_ex : ∃ f : Int → Bool, ∀ b, f b = decide (b ≤ 16777216) := ⟨_, fun _ => rfl⟩
def le24 : Int → Bool := Classical.choose le24_ex
theorem le24_def (b : Int) : le24 b = decide (b ≤ 16777216) := Classical.choose_spec le24_ex b
def o_mulI : D → D → Option R := o_ii mulOk fun a b => .int (a * b)
def repL (k : Int) (l : List D) : List D := (List.replicate k.toNat l).flatten
def o_mul (x y : D) : Option R := match x with
  | .lst a => y.int?.bind fun k => guardR (i64 k && decide (a.length * k.toNat ≤ SZ)) (.new (.lst (repL k a)))
  | x => o_mulI x y
def o_fdiv : D → D → Option R := o_ii (fun _ b => fdOk b) fun a b => .int (a / b)
def o_mod : D → D → Option R := o_ii (fun _ b => decide (0 < b)) fun a b => .int (a % b)
/-- a base of b bits to a power n: b * n within 2^27 -/
theorem powOk_ex : ∃ f : Int → Int → Bool, ∀ a n, f a n = decide (0 ≤ n ∧ n ≤ 1000 ∧ a.natAbs < 2 ^ 1000) := ⟨_, fun _ _ => rfl⟩
def powOk : Int → Int → Bool := Classical.choose powOk_ex
theorem powOk_def (a n : Int) : powOk a n = decide (0 ≤ n ∧ n ≤ 1000 ∧ a.natAbs < 2 ^ 1000) := Classical.choose_spec powOk_ex a n
def o_pow : D → D → Option R := o_ii powOk fun a n => .int (a ^ n.toNat)
def o_lt : D → D → Option R := o_ii always fun a b => .bl (decide (a < b))
def o_le : D → D → Option R := o_ii always fun a b => .bl (decide (a ≤ b))
def o_gt : D → D → Option R := o_ii always fun a b => .bl (decide (b < a))
def o_ge : D → D → Option R := o_ii always fun a b => .bl (decide (b ≤ a))
def o_neg (x : D) : Option R := x.int?.bind fun a => some (.val (.int (-a)))
/-- is None, is not None -/
def D.isNon : D → Bool
  | .non => true
  | _ => false
def o_isN (x y : D) : Option R := guardR y.isNon (.val (.bl x.isNon))
def o_notN (x y : D) : Option R := guardR y.isNon (.val (.bl (!x.isNon)))
/-- is True, is not True -/
def o_isB (x y : D) : Option R := x.bl?.bind fun a => y.bl?.bind fun b => some (.val (.bl (decide (a = b))))
def o_notB (x y : D) : Option R := x.bl?.bind fun a => y.bl?.bind fun b => some (.val (.bl (!decide (a = b))))
/-! == of data -/
mutual
def D.eqv : D → D → Bool
  | .non, y => (match y with | .non => true | _ => false)
  | .bl a, y => (match y with | .bl b => a == b | .int j => (if a then 1 else 0) == j | _ => false)
  | .int i, y => (match y with | .int j => i == j | .bl b => i == (if b then 1 else 0) | _ => false)
  | .str x, y => (match y with | .str z => x == z | _ => false)
  | .tup xs, y => (match y with | .tup ys => D.eqvs xs ys | _ => false)
  | .lst xs, y => (match y with | .lst ys => D.eqvs xs ys | _ => false)
  | .scr _, _ => false
  | .dct _ _, _ => false
  | .ty _, _ => false
def D.eqvs : List D → List D → Bool
  | [], ys => (match ys with | [] => true | _ => false)
  | x :: xs, ys => (match ys with | y :: ys => D.eqv x y && D.eqvs xs ys | [] => false)
end
def strFine (x : Str) : Bool := x.cps.all (· < 0x110000)
mutual
/-- data that == may meet, at most so deep -/
def D.pyOk : D → Nat → Bool
  | .non, _ => true
  | .bl _, _ => true
  | .int _, _ => true
  | .str x, _ => strFine x
  | .tup ds, k => (match k with | 0 => false | k + 1 => D.pyOks ds k)
  | .lst ds, k => (match k with | 0 => false | k + 1 => D.pyOks ds k)
  | .scr _, _ => false
  | .dct _ _, _ => false
  | .ty _, _ => false
def D.pyOks : List D → Nat → Bool
  | [], _ => true
  | d :: ds, k => D.pyOk d k && D.pyOks ds k
end
def D.scal : D → Bool
  | .non => true
  | .bl _ => true
  | .int _ => true
  | .str _ => true
  | _ => false
/-- two scalars of one kind -/
def scal2 : D → D → Bool
  | .non, y => y.scal
  | .int _, .int _ => true
  | .bl _, .bl _ => true
  | .str _, .str _ => true
  | x, .non => x.scal
  | _, _ => false
def o_eqb (x y : D) : Option Bool := if scal2 x y = true then some (D.eqv x y) else if D.pyOk x 9 = true ∧ D.pyOk y 9 = true then some (D.eqv x y) else none
def o_eq (x y : D) : Option R := (o_eqb x y).bind fun b => some (.val (.bl b))
def o_ne (x y : D) : Option R := (o_eqb x y).bind fun b => some (.val (.bl (!b)))
def inB (x : D) (ds : List D) : Bool := ds.any fun z => D.eqv z x
def o_inb (x y : D) : Option Bool := match y with
  | .tup ds => if x.scal = true ∧ ds.all D.scal = true then some (inB x ds) else none
  | .lst ds => if x.scal = true ∧ ds.all D.scal = true then some (inB x ds) else if D.pyOk x 9 = true ∧ D.pyOks ds 9 = true then some (inB x ds) else none
  | _ => none
def o_in (x y : D) : Option R := (o_inb x y).bind fun b => some (.val (.bl b))
def o_nin (x y : D) : Option R := (o_inb x y).bind fun b => some (.val (.bl (!b)))
def ixP (n : Nat) (i : Int) : Option Nat := if 0 ≤ i then (if i < n then some i.toNat else none) else if -(n : Int) ≤ i then some (i + n).toNat else none
def o_ix (x y : D) : Option R := match x with
  | .tup a => y.int?.bind fun i => (ixP a.length i).bind fun j => (a[j]?).bind fun d => some (.val d)
  | .lst a => y.int?.bind fun i => (ixP a.length i).bind fun j => (a[j]?).bind fun d => some (.val d)
  | .scr a => y.int?.bind fun i => (ixP a.length i).bind fun j => (a[j]?).bind fun d => some (.val d)
  | _ => none
/-- slices -/
def sIxP (n d : Nat) : Option Int → Nat
  | none => d
  | some v => if v < 0 then (v + n).toNat else min v.toNat n
def cutP (xs : List D) (lo hi : Option Int) : List D := (xs.drop (sIxP xs.length 0 lo)).take (sIxP xs.length xs.length hi - sIxP xs.length 0 lo)
def o_cut (x : D) (lo hi : Option Int) : Option R := match x with
  | .tup a => some (.val (.tup (cutP a lo hi)))
  | .lst a => some (.new (.lst (cutP a lo hi)))
  | .scr a => some (.new (.lst (cutP a lo hi)))
  | _ => none
abbrev PF := En → Option (Option Int × En)
def p_no : PF := fun e => some (none, e)
def p_e (a : EF) : PF := fun e => (a e).bind fun p => (p.1.at p.2).bind fun d => d.int?.bind fun i => some (some i, p.2)
def e_cut (a : EF) (lo hi : PF) : EF := fun e => (a e).bind fun p => (lo p.2).bind fun q => (hi q.2).bind fun s => (p.1.at s.2).bind fun x => (o_cut x q.1 s.1).bind fun z => some (z, s.2)
def D.isK : D → String → Bool
  | .tup _, n => n == "tuple"
  | .lst _, n => n == "list"
  | .int _, n => n == "int"
  | .bl _, n => n == "int" || n == "bool"
  | .str _, n => n == "str"
  | _, _ => false
def D.kindly : D → Bool
  | .tup _ => true
  | .lst _ => true
  | .int _ => true
  | .bl _ => true
  | .str _ => true
  | .non => true
  | _ => false
def kinds4 : List String := ["tuple", "list", "int", "bool", "str"]
def o_isi : List D → Option R
  | [x, y] => y.ty?.bind fun n => guardR (x.kindly && kinds4.contains n) (.val (.bl (x.isK n)))
  | _ => none
def o_len : List D → Option R
  | [.tup a] => some (.val (.int a.length))
  | [.lst a] => some (.val (.int a.length))
  | [.scr a] => some (.val (.int a.length))
  | _ => none
def o_abs : List D → Option R
  | [.int i] => some (.val (.int (if i < 0 then -i else i)))
  | _ => none
def o_int : List D → Option R
  | [.int i] => some (.val (.int i))
  | [.bl k] => some (.val (.int (if k then 1 else 0)))
  | _ => none
/-- tuples of ints -/
def D.rows? : List D → Option (List (List Int))
  | [] => some []
  | d :: ds => d.tup?.bind fun r => (D.ints? r).bind fun ns => (D.rows? ds).bind fun rs => some (ns :: rs)
def rowLt (a b : List Int) : Bool := decide (a < b)
def maxR : List (List Int) → Option (List Int)
  | [] => none
  | r :: rs => some (rs.foldl (fun a y => if rowLt a y then y else a) r)
def minR : List (List Int) → Option (List Int)
  | [] => none
  | r :: rs => some (rs.foldl (fun a y => if rowLt y a then y else a) r)
def maxI : List Int → Option Int
  | [] => none
  | n :: ns => some (ns.foldl max n)
def minI : List Int → Option Int
  | [] => none
  | n :: ns => some (ns.foldl min n)
def o_max : List D → Option R
  | [x] => x.seq?.bind fun a => match D.ints? a with
    | some ns => (maxI ns).bind fun m => some (.val (.int m))
    | none => (D.rows? a).bind fun rs => (maxR rs).bind fun m => some (.val (.tup (m.map .int)))
  | [.int i, .int j] => some (.val (.int (if j > i then j else i)))
  | _ => none
def o_min : List D → Option R
  | [x] => x.seq?.bind fun a => match D.ints? a with
    | some ns => (minI ns).bind fun m => some (.val (.int m))
    | none => (D.rows? a).bind fun rs => (minR rs).bind fun m => some (.val (.tup (m.map .int)))
  | [.int i, .int j] => some (.val (.int (if j < i then j else i)))
  | _ => none
def o_sum : List D → Option R
  | [x] => x.seq?.bind fun a => (D.ints? a).bind fun ns => some (.val (.int ns.sum))
  | _ => none
def o_all : List D → Option R
  | [x] => x.lst?.bind fun a => (D.bls? a).bind fun bs => some (.val (.bl (bs.all id)))
  | _ => none
def o_any : List D → Option R
  | [x] => x.lst?.bind fun a => (D.bls? a).bind fun bs => some (.val (.bl (bs.any id)))
  | _ => none
def o_tuple : List D → Option R
  | [.lst a] => some (.val (.tup a))
  | [.tup a] => some (.val (.tup a))
  | _ => none
def o_list : List D → Option R
  | [.lst a] => some (.new (.lst a))
  | [.tup a] => some (.new (.lst a))
  | _ => none
def rngL (lo : Int) (n : Nat) : List D := (List.range n).map fun i => .int (lo + (i : Nat))
/-- the first place at which it is -/
def idxOf? (x : D) : List D → Nat → Option Nat
  | [], _ => none
  | d :: ds, n => if D.eqv d x = true then some n else idxOf? x ds (n + 1)
def o_index : D → List D → Option R
  | y, [x] => y.lst?.bind fun ds => if x.scal = true ∧ ds.all D.scal = true then (idxOf? x ds 0).bind fun j => some (.val (.int (j : Nat))) else none
  | _, _ => none
/-- a method that changes nothing -/
def e_bm (op : D → List D → Option R) (a : EF) (as : AF) : EF := fun e => (a e).bind fun p => (p.1.at p.2).bind fun x0 => x0.lst?.bind fun _ => (as p.2).bind fun q => (p.1.at q.2).bind fun x => (R.ats q.1 q.2).bind fun ds => (op x ds).bind fun z => some (z, q.2)
/-- a method on an owned list -/
def m_append : D → List D → Option (R × D)
  | .lst a, [d] => if a.length < SZ then some (.val .non, .lst (a ++ [d])) else none
  | _, _ => none
def m_extend : D → List D → Option (R × D)
  | .lst a, [.lst b] => if a.length + b.length ≤ SZ then some (.val .non, .lst (a ++ b)) else none
  | _, _ => none
def m_pop : D → List D → Option (R × D)
  | .lst a, [] => (a[a.length - 1]?).bind fun d => some (.val d, .lst a.dropLast)
  | _, _ => none
def m_popAt : D → List D → Option (R × D)
  | .lst a, [.int i] => if i64 i = true then (ixP a.length i).bind fun j => (a[j]?).bind fun d => some (.val d, .lst (a.eraseIdx j)) else none
  | _, _ => none
def st_list (c x d : D) : Option D := c.lst?.bind fun a => x.int?.bind fun i => (ixP a.length i).bind fun j => some (.lst (a.set j d))
/-- a value's items, where it is no owned thing -/
def R.seq? : R → Option (List D)
  | .val d => d.seq?
  | .new d => d.seq?
  | .own _ => none
def it_e (a : EF) : IF := fun e => (a e).bind fun p => p.1.seq?.bind fun ds => some (ds, p.2)
def enumFrom (n : Nat) : List D → List D
  | [] => []
  | d :: ds => .tup [.int n, d] :: enumFrom (n + 1) ds
def it_enum (a : EF) : IF := fun e => (a e).bind fun p => p.1.seq?.bind fun ds => some (enumFrom 0 ds, p.2)
def zipD : List D → List D → List D
  | a :: as, b :: bs => .tup [a, b] :: zipD as bs
  | _, _ => []
/-- zip of two tuples, of two lists -/
def it_zip (a b : EF) : IF := fun e => (a e).bind fun p => (b p.2).bind fun q => match p.1, q.1 with
  | .val (.tup x), .val (.tup y) => some (zipD x y, q.2)
  | .val (.lst x), .val (.lst y) => some (zipD x y, q.2)
  | .new (.lst x), .new (.lst y) => some (zipD x y, q.2)
  | .val (.lst x), .new (.lst y) => some (zipD x y, q.2)
  | .new (.lst x), .val (.lst y) => some (zipD x y, q.2)
  | _, _ => none
/-- ranges, as they are walked -/
theorem rngOk_ex : ∃ f : Int → Bool, ∀ i, f i = decide (-(2 ^ 62) ≤ i ∧ i < 2 ^ 62) := ⟨_, fun _ => rfl⟩
def rngOk : Int → Bool := Classical.choose rngOk_ex
theorem rngOk_def (i : Int) : rngOk i = decide (-(2 ^ 62) ≤ i ∧ i < 2 ^ 62) := Classical.choose_spec rngOk_ex i
theorem rngOk_e {i : Int} (h : rngOk i = true) : -(2 ^ 62) ≤ i ∧ i < 2 ^ 62 := of_decide_eq_true ((rngOk_def i).symm.trans h)
theorem le24_e {i : Int} (h : le24 i = true) : i ≤ 16777216 := of_decide_eq_true ((le24_def i).symm.trans h)
theorem i64_e {i : Int} (h : i64 i = true) : -(2 ^ 63) ≤ i ∧ i < 2 ^ 63 := of_decide_eq_true ((i64_def i).symm.trans h)
def it_r1 (a : EF) : IF := fun e => (a e).bind fun p => (p.1.at p.2).bind fun d => d.int?.bind fun j => if rngOk j = true ∧ le24 j = true then some (rngL 0 j.toNat, p.2) else none
def it_r2 (a b : EF) : IF := fun e => (a e).bind fun p => (b p.2).bind fun q => (p.1.at q.2).bind fun x => (q.1.at q.2).bind fun y => x.int?.bind fun i => y.int?.bind fun j =>
  if rngOk i = true ∧ rngOk j = true ∧ le24 (j - i) = true then some (rngL i (j - i).toNat, q.2) else none

/-! ### expressions -/
def e_v (i : Nat) : EF := fun e => (e.g i).bind fun d => some (.val d, e)
def e_o (i : Nat) : EF := fun e => (e.g i).bind fun _ => some (.own i, e)
def e_c (d : D) : EF := fun e => some (.val d, e)
def e_un (op : D → Option R) (a : EF) : EF := fun e => (a e).bind fun p => (p.1.at p.2).bind fun x => (op x).bind fun z => some (z, p.2)
def e_bin (op : D → D → Option R) (a b : EF) : EF := fun e => (a e).bind fun p => (b p.2).bind fun q => (p.1.at q.2).bind fun x => (q.1.at q.2).bind fun y => (op x y).bind fun z => some (z, q.2)
def e_chain (o1 o2 : D → D → Option R) (a b c : EF) : EF := fun e => (a e).bind fun p => (b p.2).bind fun q => (p.1.at q.2).bind fun x => (q.1.at q.2).bind fun y => (o1 x y).bind fun z =>
  match z with
  | .val (.bl true) => (c q.2).bind fun s => (q.1.at s.2).bind fun y2 => (s.1.at s.2).bind fun w => (o2 y2 w).bind fun z2 => (match z2 with | .val (.bl k) => some (.val (.bl k), s.2) | _ => none)
  | .val (.bl false) => some (.val (.bl false), q.2)
  | _ => none
def R.bl? : R → Option Bool
  | .val (.bl b) => some b
  | _ => none
def e_and (a b : EF) : EF := fun e => (a e).bind fun p => p.1.bl?.bind fun k => if k = true then b p.2 else some (.val (.bl false), p.2)
def e_or (a b : EF) : EF := fun e => (a e).bind fun p => p.1.bl?.bind fun k => if k = true then some (.val (.bl true), p.2) else b p.2
def e_not (a : EF) : EF := fun e => (a e).bind fun p => p.1.bl?.bind fun k => some (.val (.bl (!k)), p.2)
def e_if (t : TF) (a b : EF) : EF := fun e => (t e).bind fun p => if p.1 = true then a p.2 else b p.2
def t_v (a : EF) : TF := fun e => (a e).bind fun p => p.1.bl?.bind fun k => some (k, p.2)
def t_and (a b : TF) : TF := fun e => (a e).bind fun p => if p.1 = true then b p.2 else some (false, p.2)
def t_or (a b : TF) : TF := fun e => (a e).bind fun p => if p.1 = true then some (true, p.2) else b p.2
def t_not (a : TF) : TF := fun e => (a e).bind fun p => some (!p.1, p.2)
def t_yes : TF := fun e => some (true, e)
def a_nil : AF := fun e => some ([], e)
def a_cons (a : EF) (r : AF) : AF := fun e => (a e).bind fun p => (r p.2).bind fun q => some (p.1 :: q.1, q.2)
def e_tup (as : AF) : EF := fun e => (as e).bind fun p => (R.sts p.1).bind fun ds => some (.val (.tup ds), p.2)
def e_lst (as : AF) : EF := fun e => (as e).bind fun p => (R.sts p.1).bind fun ds => some (.new (.lst ds), p.2)
def e_call (F : List D → Option R) (as : AF) : EF := fun e => (as e).bind fun p => (R.ats p.1 p.2).bind fun ds => (F ds).bind fun r => some (r, p.2)
def e_callM (G : D → List D → Option (R × D)) (i : Nat) (as : AF) : EF := fun e => (e.g i).bind fun _ => (as e).bind fun p => (R.atxs i p.1 p.2).bind fun ds => (p.2.g i).bind fun c => (G c ds).bind fun r => some (r.1, p.2.p i r.2)
/-- a method that changes the owned list at slot i: of its content and the arguments (stored) -/
def e_meth (op : D → List D → Option (R × D)) (i : Nat) (as : AF) : EF := fun e => (e.g i).bind fun d => d.lst?.bind fun _ => (as e).bind fun p => (R.sts p.1).bind fun ds => (p.2.g i).bind fun c => (op c ds).bind fun r => some (r.1, p.2.p i r.2)
def lcLoop (g : GF) (t : TF) (f : EF) (vs : List Nat) : List D → En → Option (List D × En)
  | [], e => some ([], e)
  | d :: ds, e => (g d e).bind fun e1 => (t e1).bind fun p => if p.1 = true then (f p.2).bind fun q => q.1.st.bind fun y => (lcLoop g t f vs ds (q.2.wipe vs)).bind fun s => some (y :: s.1, s.2)
      else lcLoop g t f vs ds (p.2.wipe vs)
def e_lc (it : IF) (g : GF) (t : TF) (f : EF) (vs : List Nat) : EF := fun e => (it e).bind fun p => (lcLoop g t f vs p.1 (p.2.wipe vs)).bind fun q => some (.new (.lst q.1), En.back p.2 q.2 vs)

/-- displays with stars -/
def e_tupS (as : AF) : EF := fun e => (as e).bind fun p => (R.sts p.1).bind fun ds => if ds.length ≤ SZ then some (.val (.tup ds), p.2) else none
def e_lstS (as : AF) : EF := fun e => (as e).bind fun p => (R.sts p.1).bind fun ds => if ds.length ≤ SZ then some (.new (.lst ds), p.2) else none
/-- the places 0 .. n - 1, by what ns holds there, then by the place -/
def sortIx (ns : List Int) (n : Nat) : List Int := ((List.range n).map fun (i : Nat) => (i : Int)).mergeSort fun p q => decide (ns.getD p.toNat 0 < ns.getD q.toNat 0 ∨ (ns.getD p.toNat 0 = ns.getD q.toNat 0 ∧ p ≤ q))
/-- sorted(range(a), key=lambda x: (y[x], x)), y at slot i -/
def e_sortRL (a : EF) (i : Nat) : EF := fun e => (a e).bind fun p => (p.1.at p.2).bind fun d => d.int?.bind fun j => (p.2.g i).bind fun y => y.seq?.bind fun ds => (D.ints? ds).bind fun ns =>
  if 0 ≤ j ∧ j ≤ ns.length ∧ ns.length ≤ SZ then some (.new (.lst ((sortIx ns j.toNat).map .int)), p.2) else none
def sortI (ns : List Int) : List Int := ns.mergeSort fun p q => decide (p ≤ q)
def o_sorted : List D → Option R
  | [x] => x.lst?.bind fun a => (D.ints? a).bind fun ns => some (.new (.lst ((sortI ns).map .int)))
  | _ => none
/-- list(range(..)), tuple(range(..)) -/
def e_lstR (it : IF) : EF := fun e => (it e).bind fun p => some (.new (.lst p.1), p.2)
def e_tupR (it : IF) : EF := fun e => (it e).bind fun p => some (.val (.tup p.1), p.2)
/-- x[::-1] -/
def o_rev : D → Option R
  | .tup a => some (.val (.tup a.reverse))
  | .lst a => some (.new (.lst a.reverse))
  | _ => none
/-- *a, .. -/
def a_star (a : EF) (r : AF) : AF := fun e => (a e).bind fun p => (p.1.at p.2).bind fun d => (match d with | .tup ds => some ds | .lst ds => some ds | _ => none).bind fun ds => (r p.2).bind fun q => some (ds.map R.val ++ q.1, q.2)

/-! ### targets -/
def tg_n (i : Nat) : GF := fun d e => some (e.p i d)
def tg_s : List GF → List D → En → Option En
  | [], [], e => some e
  | g :: gs, d :: ds, e => (g d e).bind fun e1 => tg_s gs ds e1
  | _, _, _ => none
def tg_t (gs : List GF) : GF := fun d e => match d with
  | .tup ds => tg_s gs ds e
  | _ => none

/-! ### statements -/
def s_nil : SF := fun e => some (.nx e)
def s_then (o : Out) (b : SF) : Option Out := match o with
  | .nx e => b e
  | .rt r e => some (.rt r e)
  | .bk e => some (.bk e)
  | .ct e => some (.ct e)
def s_seq (a b : SF) : SF := fun e => (a e).bind fun o => s_then o b
def s_set (i : Nat) (a : EF) : SF := fun e => (a e).bind fun p => p.1.st.bind fun d => some (.nx (p.2.p i d))
def R.new? : R → Option D
  | .new d => some d
  | _ => none
def s_setO (i : Nat) (a : EF) : SF := fun e => (a e).bind fun p => p.1.new?.bind fun d => some (.nx (p.2.p i d))
def s_tgt (g : GF) (a : EF) : SF := fun e => (a e).bind fun p => p.1.st.bind fun d => (g d p.2).bind fun e1 => some (.nx e1)
def pick (o : Bool) (r : R) : Option D := if o = true then r.new? else r.st
/-- a, b = x, y: names side by side; each may own what it gets -/
def s_par2 (i j : Nat) (oi oj : Bool) (a b : EF) : SF := fun e => (a e).bind fun p => (b p.2).bind fun q => (pick oi p.1).bind fun x => (pick oj q.1).bind fun y => some (.nx ((q.2.p i x).p j y))
def s_par3 (i j k : Nat) (oi oj ok : Bool) (a b c : EF) : SF := fun e => (a e).bind fun p => (b p.2).bind fun q => (c q.2).bind fun t => (pick oi p.1).bind fun x => (pick oj q.1).bind fun y => (pick ok t.1).bind fun z => some (.nx (((t.2.p i x).p j y).p k z))
def s_ex (a : EF) : SF := fun e => (a e).bind fun p => some (.nx p.2)
def s_ret (a : EF) : SF := fun e => (a e).bind fun p => some (.rt p.1 p.2)
def s_retN : SF := fun e => some (.rt (.val .non) e)
def s_if (t : TF) (a b : SF) : SF := fun e => (t e).bind fun p => if p.1 = true then a p.2 else b p.2
def s_brk : SF := fun e => some (.bk e)
def s_cnt : SF := fun e => some (.ct e)
def s_never : SF := fun _ => none
def s_setix (op : D → D → D → Option D) (i : Nat) (k v : EF) : SF := fun e => (v e).bind fun p => p.1.st.bind fun d => (p.2.g i).bind fun _ => (k p.2).bind fun q => (q.1.at q.2).bind fun x => (q.2.g i).bind fun c => (op c x d).bind fun c' => some (.nx (q.2.p i c'))
def forLoop (g : GF) (b : SF) : List D → En → Option Out
  | [], e => some (.nx e)
  | d :: ds, e => (g d e).bind fun e1 => (b e1).bind fun o => match o with
    | .nx e2 => forLoop g b ds e2
    | .ct e2 => forLoop g b ds e2
    | .bk e2 => some (.nx e2)
    | .rt r e2 => some (.rt r e2)
def s_for (it : IF) (g : GF) (b : SF) : SF := fun e => (it e).bind fun p => forLoop g b p.1 p.2
def whileLoop (t : TF) (b : SF) : Nat → En → Option Out
  | 0, _ => none
  | n + 1, e => (t e).bind fun p => if p.1 = true then (b p.2).bind fun o => match o with
      | .nx e2 => whileLoop t b n e2
      | .ct e2 => whileLoop t b n e2
      | .bk e2 => some (.nx e2)
      | .rt r e2 => some (.rt r e2)
    else some (.nx p.2)
def fuel : Nat := 1000000
def s_while (t : TF) (b : SF) : SF := whileLoop t b fuel

/-! ### defs -/
def R.res (r : R) (e : En) : Option R := match r with
  | .val d => if d.flat = true then some (.val d) else none
  | .new d => if d.flatIn = true then some (.new d) else none
  | .own i => (e.g i).bind fun d => if d.flatIn = true then some (.new d) else none
def fin (o : Out) : Option R := match o with
  | .rt r e => r.res e
  | .nx _ => some (.val .non)
  | _ => none
def fn (m n : Nat) (b : SF) (ds : List D) : Option R := if ds.length = m then (b (ds.map some ++ List.replicate (n - m) none)).bind fin else none
def R.resM (r : R) (e : En) : Option R := match r with
  | .val d => if d.flat = true then some (.val d) else none
  | .new d => if d.flatIn = true then some (.new d) else none
  | .own i => if i = 0 then none else (e.g i).bind fun d => if d.flatIn = true then some (.new d) else none
def finM (o : Out) : Option (R × D) := match o with
  | .rt r e => (r.resM e).bind fun r' => (e.g 0).bind fun p => if p.flatIn = true then some (r', p) else none
  | .nx e => (e.g 0).bind fun p => if p.flatIn = true then some (.val .non, p) else none
  | _ => none
def fnM (m n : Nat) (b : SF) (p : D) (ds : List D) : Option (R × D) := if ds.length + 1 = m then (b (some p :: (ds.map some ++ List.replicate (n - m) none))).bind finM else none
end
end Mini

/-! ## MDen -/
/-! Mini: what a value D is in an abstract heap; the relation of an environment to slots and heap. -/
namespace Mini
open PySem PySem.Spec PyProof.Rows L2
open LamX (TabS CodeO Tabs)
/-- the tables of code objects, each with the name of what it holds -/
class Tb where
  T : List (Addr × Str)
variable [Tb]

/-! ### what stays: all but the tables of code objects, which keep what they tell -/
def NT (o : HO) : Prop := ∀ ps, o ≠ .tbl ps
theorem ntL {xs : List V} : NT (.lst xs) := fun _ z => by cases z
theorem ntT {xs : List V} : NT (.tup xs) := fun _ z => by cases z
theorem ntF {o : Obj} {u : HO} : NT (.frz o u) := fun _ z => by cases z
theorem ntD {kvs : List (Key × V)} : NT (.dK kvs) := fun _ z => by cases z
theorem nt_mut {o : HO} (m : Mut (some o)) : NT o := fun ps e => by subst e; exact m
structure Same (H H' : Hp) : Prop where
  keep : ∀ a o, H a = some o → NT o → H' a = some o
  there : ∀ a o, H a = some o → ∃ o', H' a = some o'
  tab : Tabs Tb.T H → Tabs Tb.T H'
theorem Same.refl (H : Hp) : Same H H := ⟨fun _ _ e _ => e, fun _ o e => ⟨o, e⟩, fun t => t⟩
theorem Same.of {H H' : Hp} (k : ∀ a o, H a = some o → H' a = some o) : Same H H' := ⟨fun a o e _ => k a o e, fun a o e => ⟨o, k a o e⟩, fun t => t.ext k⟩
theorem Same.trans {H H1 H2 : Hp} (a : Same H H1) (b : Same H1 H2) : Same H H2 := ⟨fun x o e n => b.keep x o (a.keep x o e n) n, fun x o e => (a.there x o e).elim fun o' e' => b.there x o' e', fun t => b.tab (a.tab t)⟩
/-- all but p -/
structure But (p : Addr) (H H' : Hp) : Prop where
  keep : ∀ a o, H a = some o → NT o → a ≠ p → H' a = some o
  there : ∀ a o, H a = some o → a ≠ p → ∃ o', H' a = some o'
  tab : Tabs Tb.T H → Tabs Tb.T H'
theorem TabS.but {H H' : Hp} {p P : Addr} {q : Str} (k : ∀ a o, H a = some o → a ≠ p → H' a = some o) (hp : ∃ o, H p = some o ∧ Mut (some o) ∧ ∀ c q, o ≠ CodeO c q) (t : TabS H P q) : TabS H' P q := by
  obtain ⟨o, ho, m, hc⟩ := hp
  obtain ⟨ps, e1, e2, e3⟩ := t
  refine ⟨ps, k _ _ e1 fun z => ?_, e2, fun pos cv h => ?_⟩
  · subst z
    rw [ho] at e1
    cases e1
    exact m
  · obtain ⟨c, e4, e5⟩ := e3 pos cv h
    refine ⟨c, e4, k _ _ e5 fun z => ?_⟩
    subst z
    rw [ho] at e5
    exact hc _ _ (Option.some.inj e5)

/-- the script: locked, or of the written part -/
def Scr (K : PySem.W.Frag) (H : Hp) (a : Addr) (xs : List V) : Prop :=
  (∃ o, H a = some (.frz o (.lst xs))) ∨
    ∃ (o : Obj) (its : Array Value) (n : Nat), K.lookup a = some o ∧ o.cls = .type "list" ∧ o.dict = none ∧ o.data = .seq its n ∧ its.size ≤ sizeLine ∧ Vals xs its.toList
theorem Scr.sq {K : PySem.W.Frag} {H : Hp} {a : Addr} {xs : List V} (h : Scr K H a xs) : SqL K H a xs := by
  rcases h with h | h
  · exact .inl (.inr h)
  · exact .inr h
section
variable (K : PySem.W.Frag) (B : Addr → Prop) (H : Hp)
mutual
def Den : D → V → Prop
  | .non, v => v = .non
  | .bl b, v => v = .bl b
  | .int i, v => v = .int i
  | .str s, v => v = .str s
  | .ty n, v => v = .ty n
  | .tup ds, v => ∃ a vs, v = .ref a ∧ SqT K H a vs ∧ Dens ds vs
  | .lst ds, v => ∃ a vs, v = .ref a ∧ ¬ B a ∧ H a = some (.lst vs) ∧ Dens ds vs
  | .scr ds, v => ∃ a vs, v = .ref a ∧ Scr K H a vs ∧ Dens ds vs
  | .dct ks ds, v => ∃ a vs, v = .ref a ∧ ¬ B a ∧ H a = some (.dK (ks.zip vs)) ∧ ks.length = vs.length ∧ Dens ds vs
def Dens : List D → List V → Prop
  | [], vs => vs = []
  | d :: ds, vs => ∃ v r, vs = v :: r ∧ Den d v ∧ Dens ds r
end
/-- the content of a changing thing at a -/
def MDen (a : Addr) : D → Prop
  | .lst ds => ∃ vs, H a = some (.lst vs) ∧ Dens K B H ds vs
  | .dct ks ds => ∃ vs, H a = some (.dK (ks.zip vs)) ∧ ks.length = vs.length ∧ Dens K B H ds vs
  | _ => False
end
/-- an argument: at its top it may be a thing of B -/
def ADen (K : PySem.W.Frag) (B : Addr → Prop) (H : Hp) : D → V → Prop
  | .lst ds, v => ∃ a, v = .ref a ∧ MDen K B H a (.lst ds)
  | .dct ks ds, v => ∃ a, v = .ref a ∧ MDen K B H a (.dct ks ds)
  | d, v => Den K B H d v
/-- a result: from the heap H to H' -/
def RDen (K : PySem.W.Frag) (B : Addr → Prop) (H H' : Hp) : R → V → Prop
  | .val d, v => Den K B H' d v
  | .new d, v => ∃ a, v = .ref a ∧ H a = none ∧ MDen K (fun b => B b ∨ b = a) H' a d
  | .own _, _ => False

/-- all sequences within the line -/
def SzH (H : Hp) : Prop := ∀ a xs, (Rd H a (.lst xs) → xs.length ≤ sizeLine) ∧ (Rd H a (.tup xs) → xs.length ≤ sizeLine)

section
variable {K : PySem.W.Frag} {B B' : Addr → Prop} {H H' : Hp}
theorem Dens.length : ∀ {ds : List D} {vs : List V}, Dens K B H ds vs → ds.length = vs.length
  | [], vs, h => by
    have e : vs = [] := h
    subst e
    rfl
  | d :: ds, vs, h => by
    obtain ⟨v, r, rfl, _, h2⟩ := h
    rw [List.length_cons, List.length_cons, Dens.length h2]
theorem Dens.get : ∀ {ds : List D} {vs : List V} {i : Nat} {d : D}, Dens K B H ds vs → ds[i]? = some d → ∃ v, vs[i]? = some v ∧ Den K B H d v
  | [], _, _, _, _, e => by simp at e
  | d :: ds, vs, 0, d', h, e => by
    obtain ⟨v, r, rfl, h1, _⟩ := h
    have e' : d = d' := by simpa using e
    subst e'
    exact ⟨v, rfl, h1⟩
  | d :: ds, vs, i + 1, d', h, e => by
    obtain ⟨v, r, rfl, _, h2⟩ := h
    obtain ⟨u, e1, e2⟩ := Dens.get (i := i) h2 (by simpa using e)
    exact ⟨u, by simpa using e1, e2⟩
theorem Dens.append : ∀ {ds es : List D} {vs us : List V}, Dens K B H ds vs → Dens K B H es us → Dens K B H (ds ++ es) (vs ++ us)
  | [], _, vs, _, h, h' => by
    have e : vs = [] := h
    subst e
    exact h'
  | d :: ds, es, vs, us, h, h' => by
    obtain ⟨v, r, rfl, h1, h2⟩ := h
    exact ⟨v, r ++ us, rfl, h1, Dens.append h2 h'⟩
theorem Dens.take : ∀ {ds : List D} {vs : List V} (n : Nat), Dens K B H ds vs → Dens K B H (ds.take n) (vs.take n)
  | _, vs, 0, _ => rfl
  | [], vs, n + 1, h => by
    have e : vs = [] := h
    subst e
    rfl
  | d :: ds, vs, n + 1, h => by
    obtain ⟨v, r, rfl, h1, h2⟩ := h
    exact ⟨v, r.take n, rfl, h1, Dens.take n h2⟩
theorem Dens.drop : ∀ {ds : List D} {vs : List V} (n : Nat), Dens K B H ds vs → Dens K B H (ds.drop n) (vs.drop n)
  | _, _, 0, h => h
  | [], vs, n + 1, h => by
    have e : vs = [] := h
    subst e
    rfl
  | d :: ds, vs, n + 1, h => by
    obtain ⟨v, r, rfl, _, h2⟩ := h
    exact Dens.drop n h2
theorem Dens.set : ∀ {ds : List D} {vs : List V} {d : D} {v : V} (i : Nat), Dens K B H ds vs → Den K B H d v → Dens K B H (ds.set i d) (vs.set i v)
  | [], vs, _, _, _, h, _ => by
    have e : vs = [] := h
    subst e
    rfl
  | _ :: ds, vs, d, v, 0, h, hd => by
    obtain ⟨u, r, rfl, _, h2⟩ := h
    exact ⟨v, r, rfl, hd, h2⟩
  | _ :: ds, vs, d, v, i + 1, h, hd => by
    obtain ⟨u, r, rfl, h1, h2⟩ := h
    exact ⟨u, r.set i v, rfl, h1, Dens.set i h2 hd⟩
theorem Dens.eraseIdx : ∀ {ds : List D} {vs : List V} (i : Nat), Dens K B H ds vs → Dens K B H (ds.eraseIdx i) (vs.eraseIdx i)
  | [], vs, _, h => by
    have e : vs = [] := h
    subst e
    rfl
  | _ :: ds, vs, 0, h => by
    obtain ⟨u, r, rfl, _, h2⟩ := h
    exact h2
  | _ :: ds, vs, i + 1, h => by
    obtain ⟨u, r, rfl, h1, h2⟩ := h
    exact ⟨u, r.eraseIdx i, rfl, h1, Dens.eraseIdx i h2⟩

/-- H' keeps what B does not own -/
def Keeps (O : Addr → Prop) (H H' : Hp) : Prop := ∀ a o, H a = some o → NT o → ¬ O a → H' a = some o
theorem SqT.keepT {O : Addr → Prop} {a : Addr} {vs : List V} (k : Keeps O H H') (hO : ∀ a, O a → ∃ o, H a = some o ∧ Mut (some o)) (h : SqT K H a vs) : SqT K H' a vs := by
  have no : ∀ o, H a = some o → NT o → ¬ Mut (some o) → H' a = some o := fun o e n m => k a o e n fun z => by
    obtain ⟨o', e', m'⟩ := hO a z
    rw [e] at e'; cases e'
    exact m m'
  rcases h with (h | ⟨o, h⟩) | h
  · exact .inl (.inl (no _ h ntT fun m => m))
  · exact .inl (.inr ⟨o, no _ h ntF fun m => m⟩)
  · exact .inr h
mutual
theorem Den.keep {O : Addr → Prop} (k : Keeps O H H') (hO : ∀ a, O a → ∃ o, H a = some o ∧ Mut (some o)) (hB : ∀ a, O a → B a) : ∀ {d : D} {v : V}, Den K B H d v → Den K B H' d v
  | .non, _, h => h
  | .bl _, _, h => h
  | .int _, _, h => h
  | .str _, _, h => h
  | .ty _, _, h => h
  | .tup ds, v, h => by
    obtain ⟨a, vs, e, h1, h2⟩ := h
    exact ⟨a, vs, e, SqT.keepT k hO h1, Dens.keep k hO hB h2⟩
  | .lst ds, v, h => by
    obtain ⟨a, vs, e, h0, h1, h2⟩ := h
    exact ⟨a, vs, e, h0, k a _ h1 ntL fun z => h0 (hB a z), Dens.keep k hO hB h2⟩
  | .scr ds, v, h => by
    obtain ⟨a, vs, e, h1, h2⟩ := h
    refine ⟨a, vs, e, ?_, Dens.keep k hO hB h2⟩
    rcases h1 with ⟨o, h1⟩ | h1
    · exact .inl ⟨o, k a _ h1 ntF fun z => by
        obtain ⟨o', e', m'⟩ := hO a z
        rw [h1] at e'; cases e'
        exact m'⟩
    · exact .inr h1
  | .dct ks ds, v, h => by
    obtain ⟨a, vs, e, h0, h1, hl, h2⟩ := h
    exact ⟨a, vs, e, h0, k a _ h1 ntD fun z => h0 (hB a z), hl, Dens.keep k hO hB h2⟩
theorem Dens.keep {O : Addr → Prop} (k : Keeps O H H') (hO : ∀ a, O a → ∃ o, H a = some o ∧ Mut (some o)) (hB : ∀ a, O a → B a) : ∀ {ds : List D} {vs : List V}, Dens K B H ds vs → Dens K B H' ds vs
  | [], _, h => h
  | d :: ds, vs, h => by
    obtain ⟨v, r, e, h1, h2⟩ := h
    exact ⟨v, r, e, Den.keep k hO hB h1, Dens.keep k hO hB h2⟩
end
theorem MDen.keep {O : Addr → Prop} {a : Addr} {d : D} (k : Keeps O H H') (hO : ∀ a, O a → ∃ o, H a = some o ∧ Mut (some o)) (hB : ∀ a, O a → B a) (ha : ¬ O a) (h : MDen K B H a d) : MDen K B H' a d := by
  cases d with
  | lst ds => obtain ⟨vs, h1, h2⟩ := h; exact ⟨vs, k a _ h1 ntL ha, Dens.keep k hO hB h2⟩
  | dct ks ds => obtain ⟨vs, h1, hl, h2⟩ := h; exact ⟨vs, k a _ h1 ntD ha, hl, Dens.keep k hO hB h2⟩
  | _ => exact h
theorem MDen.at {a : Addr} {d : D} (h : MDen K B H a d) : ∃ o, H a = some o ∧ Mut (some o) := by
  cases d with
  | lst ds => obtain ⟨vs, h1, h2⟩ := h; exact ⟨_, h1, trivial⟩
  | dct ks ds => obtain ⟨vs, h1, hl, h2⟩ := h; exact ⟨_, h1, trivial⟩
  | _ => exact h.elim
theorem but_of {p : Addr} {d : D} (h : MDen K B H p d) (k : ∀ a o, H a = some o → a ≠ p → H' a = some o) : But p H H' :=
  ⟨fun a o e _ n => k a o e n, fun a o e n => ⟨o, k a o e n⟩, fun t p hp => TabS.but k (t := t p hp) (by
    cases d with
    | lst ds => obtain ⟨vs, h1, h2⟩ := h; exact ⟨_, h1, trivial, fun c q z => by unfold CodeO at z; cases z⟩
    | dct ks ds => obtain ⟨vs, h1, hl, h2⟩ := h; exact ⟨_, h1, trivial, fun c q z => by unfold CodeO at z; cases z⟩
    | _ => exact h.elim)⟩
mutual
theorem Den.sub (hB : ∀ a, (∃ o, H a = some o) → B' a → B a) : ∀ {d : D} {v : V}, Den K B H d v → Den K B' H d v
  | .non, _, h => h
  | .bl _, _, h => h
  | .int _, _, h => h
  | .str _, _, h => h
  | .ty _, _, h => h
  | .tup ds, v, h => by
    obtain ⟨a, vs, e, h1, h2⟩ := h
    exact ⟨a, vs, e, h1, Dens.sub hB h2⟩
  | .lst ds, v, h => by
    obtain ⟨a, vs, e, h0, h1, h2⟩ := h
    exact ⟨a, vs, e, fun z => h0 (hB a ⟨_, h1⟩ z), h1, Dens.sub hB h2⟩
  | .scr ds, v, h => by
    obtain ⟨a, vs, e, h1, h2⟩ := h
    exact ⟨a, vs, e, h1, Dens.sub hB h2⟩
  | .dct ks ds, v, h => by
    obtain ⟨a, vs, e, h0, h1, hl, h2⟩ := h
    exact ⟨a, vs, e, fun z => h0 (hB a ⟨_, h1⟩ z), h1, hl, Dens.sub hB h2⟩
theorem Dens.sub (hB : ∀ a, (∃ o, H a = some o) → B' a → B a) : ∀ {ds : List D} {vs : List V}, Dens K B H ds vs → Dens K B' H ds vs
  | [], _, h => h
  | d :: ds, vs, h => by
    obtain ⟨v, r, e, h1, h2⟩ := h
    exact ⟨v, r, e, Den.sub hB h1, Dens.sub hB h2⟩
end
theorem MDen.sub {a : Addr} {d : D} (hB : ∀ a, (∃ o, H a = some o) → B' a → B a) (h : MDen K B H a d) : MDen K B' H a d := by
  cases d with
  | lst ds => obtain ⟨vs, h1, h2⟩ := h; exact ⟨vs, h1, Dens.sub hB h2⟩
  | dct ks ds => obtain ⟨vs, h1, hl, h2⟩ := h; exact ⟨vs, h1, hl, Dens.sub hB h2⟩
  | _ => exact h
mutual
theorem Den.flat : ∀ {d : D} {v : V}, d.flat = true → Den K B H d v → Den K B' H d v
  | .non, _, _, h => h
  | .bl _, _, _, h => h
  | .int _, _, _, h => h
  | .str _, _, _, h => h
  | .ty _, _, _, h => h
  | .tup ds, v, f, h => by
    obtain ⟨a, vs, e, h1, h2⟩ := h
    exact ⟨a, vs, e, h1, Dens.flat (by simpa [D.flat] using f) h2⟩
  | .lst ds, v, f, h => by simp [D.flat] at f
  | .scr ds, v, f, h => by simp [D.flat] at f
  | .dct ks ds, v, f, h => by simp [D.flat] at f
theorem Dens.flat : ∀ {ds : List D} {vs : List V}, D.flats ds = true → Dens K B H ds vs → Dens K B' H ds vs
  | [], _, _, h => h
  | d :: ds, vs, f, h => by
    obtain ⟨v, r, e, h1, h2⟩ := h
    have f' : d.flat = true ∧ D.flats ds = true := by simpa [D.flats] using f
    exact ⟨v, r, e, Den.flat f'.1 h1, Dens.flat f'.2 h2⟩
end
theorem MDen.flat {a : Addr} {d : D} (f : d.flatIn = true) (h : MDen K B H a d) : MDen K B' H a d := by
  cases d with
  | lst ds => obtain ⟨vs, h1, h2⟩ := h; exact ⟨vs, h1, Dens.flat f h2⟩
  | dct ks ds => obtain ⟨vs, h1, hl, h2⟩ := h; exact ⟨vs, h1, hl, Dens.flat f h2⟩
  | _ => exact h
theorem Den.a {d : D} {v : V} (h : Den K B H d v) : ADen K B H d v := by
  cases d with
  | lst ds => obtain ⟨a, vs, e, _, h1, h2⟩ := h; exact ⟨a, e, vs, h1, h2⟩
  | dct ks ds => obtain ⟨a, vs, e, _, h1, hl, h2⟩ := h; exact ⟨a, e, vs, h1, hl, h2⟩
  | _ => exact h
theorem MDen.a {a : Addr} {d : D} (h : MDen K B H a d) : ADen K B H d (.ref a) := by
  cases d with
  | lst ds => exact ⟨a, rfl, h⟩
  | dct ks ds => exact ⟨a, rfl, h⟩
  | _ => exact h.elim
theorem MDen.den {a : Addr} {d : D} (h : MDen K B H a d) (hb : ¬ B a) : Den K B H d (.ref a) := by
  cases d with
  | lst ds => obtain ⟨vs, h1, h2⟩ := h; exact ⟨a, vs, rfl, hb, h1, h2⟩
  | dct ks ds => obtain ⟨vs, h1, hl, h2⟩ := h; exact ⟨a, vs, rfl, hb, h1, hl, h2⟩
  | _ => exact h.elim
end

/-! ### the relation -/
structure Cc where
  Z : Addr → Prop
  H0 : Hp
  Pm : Addr → Prop
  S0 : Option (Option V)
/-- what the slots of O own -/
def Ow (O : List Nat) (σ : L2.St) (a : Addr) : Prop := ∃ i, i ∈ O ∧ σ[i]? = some (some (.ref a))
def Bd (O : List Nat) (Z : Addr → Prop) (σ : L2.St) (a : Addr) : Prop := Z a ∨ Ow O σ a
structure Rel (K : PySem.W.Frag) (O : List Nat) (c : Cc) (env : En) (σ : L2.St) (H : Hp) : Prop where
  len : env.length = σ.length
  slot : ∀ i d, env.g i = some d → ∃ v, σ[i]? = some (some v) ∧ ((i ∈ O ∧ ∃ a, v = .ref a ∧ MDen K (Bd O c.Z σ) H a d) ∨ (i ∉ O ∧ Den K (Bd O c.Z σ) H d v))
  dist : ∀ i j a, i ∈ O → j ∈ O → σ[i]? = some (some (.ref a)) → σ[j]? = some (some (.ref a)) → i = j
  own : ∀ a, Ow O σ a → (∃ o, H a = some o ∧ Mut (some o)) ∧ (c.H0 a = none ∨ c.Pm a) ∧ ¬ c.Z a
  frame : ∀ a o, c.H0 a = some o → NT o → ¬ c.Pm a → H a = some o
  old : ∀ a o, c.H0 a = some o → ∃ o', H a = some o'
  zs : ∀ a, c.Z a → ∃ o, H a = some o
  s0 : 0 ∈ O → σ[0]? = c.S0
  sz : SzH H
  tab : Tabs Tb.T H
abbrev Cc.nw (c : Cc) (O : List Nat) (σ : L2.St) (H : Hp) : Cc := ⟨c.Z, H, Ow O σ, c.S0⟩
section
variable {K : PySem.W.Frag} {O : List Nat} {c : Cc} {env env1 env2 : En} {σ σ1 : L2.St} {H H1 H2 H' : Hp}
theorem Rel.mut (r : Rel K O c env σ H) : ∀ a, Ow O σ a → ∃ o, H a = some o ∧ Mut (some o) := fun a h => (r.own a h).1
theorem Rel.bsome (r : Rel K O c env σ H) {a : Addr} (h : Bd O c.Z σ a) : ∃ o, H a = some o := by
  rcases h with h | h
  · exact r.zs a h
  · obtain ⟨o, e, _⟩ := r.mut a h
    exact ⟨o, e⟩
theorem Rel.nob (r : Rel K O c env σ H) {a : Addr} (h : H a = none) : ¬ Bd O c.Z σ a := fun z => by
  obtain ⟨o, e⟩ := r.bsome z
  rw [h] at e; cases e
/-- a relation since H1, behind one at H1 -/
theorem Rel.trans (r1 : Rel K O c env1 σ1 H1) (r2 : Rel K O (c.nw O σ1 H1) env σ H) : Rel K O c env σ H where
  len := r2.len
  slot := r2.slot
  dist := r2.dist
  own := fun a h => by
    obtain ⟨h1, h2, h3⟩ := r2.own a h
    refine ⟨h1, ?_, h3⟩
    rcases h2 with h2 | h2
    · by_cases hp : c.Pm a
      · exact .inr hp
      · cases q : c.H0 a with
        | none => exact .inl rfl
        | some o =>
          obtain ⟨o', e⟩ := r1.old a o q
          have h2' : H1 a = none := h2
          rw [h2'] at e; cases e
    · exact (r1.own a h2).2.1
  frame := fun a o e n hp => by
    refine r2.frame a o (r1.frame a o e n hp) n fun z => ?_
    rcases (r1.own a z).2.1 with q | q
    · rw [e] at q; cases q
    · exact hp q
  old := fun a o e => by
    obtain ⟨o', e'⟩ := r1.old a o e
    exact r2.old a o' e'
  zs := r2.zs
  s0 := r2.s0
  sz := r2.sz
  tab := r2.tab
theorem Rel.keeps (r2 : Rel K O (c.nw O σ1 H1) env σ H) : Keeps (Ow O σ1) H1 H := r2.frame
/-- what was there is there -/
theorem Rel.there (r1 : Rel K O c env1 σ H1) (r2 : Rel K O (c.nw O σ H1) env σ H) {a : Addr} {o : HO} (e : H1 a = some o) : ∃ o', H a = some o' := r2.old a o e
theorem Rel.none_back (r1 : Rel K O c env1 σ H1) (r2 : Rel K O (c.nw O σ H1) env σ H) {a : Addr} (e : H a = none) : H1 a = none := by
  cases q : H1 a with
  | none => rfl
  | some o =>
    obtain ⟨o', e'⟩ := r1.there r2 q
    rw [e] at e'; cases e'
/-- the same environment over a heap that has grown -/
theorem Rel.ext (r : Rel K O c env σ H) (k : Same H H') (z : SzH H') : Rel K O (c.nw O σ H) env σ H' where
  len := r.len
  slot := fun i d e => by
    obtain ⟨v, e1, h⟩ := r.slot i d e
    have kk : Keeps (fun _ => False) H H' := fun a o e n _ => k.keep a o e n
    refine ⟨v, e1, ?_⟩
    rcases h with ⟨h0, a, e2, h⟩ | ⟨h0, h⟩
    · exact .inl ⟨h0, a, e2, h.keep kk (fun _ z => z.elim) (fun _ z => z.elim) fun z => z⟩
    · exact .inr ⟨h0, h.keep kk (fun _ z => z.elim) fun _ z => z.elim⟩
  dist := r.dist
  own := fun a h => by
    obtain ⟨⟨o, e, m⟩, h2, h3⟩ := r.own a h
    exact ⟨⟨o, k.keep a o e (nt_mut m), m⟩, .inr h, h3⟩
  frame := fun a o e n _ => k.keep a o e n
  old := k.there
  zs := fun a h => by
    obtain ⟨o, e⟩ := r.zs a h
    exact k.there a o e
  s0 := r.s0
  sz := z
  tab := k.tab r.tab
theorem Rel.self (r : Rel K O c env σ H) : Rel K O (c.nw O σ H) env σ H := r.ext (Same.refl H) r.sz
end


/-- more to stay clear of: fresh things -/
abbrev Zu (Z N : Addr → Prop) : Addr → Prop := fun b => Z b ∨ N b
abbrev Cc.nu (c : Cc) (N : Addr → Prop) (O : List Nat) (σ : L2.St) (H : Hp) : Cc := ⟨Zu c.Z N, H, Ow O σ, c.S0⟩
abbrev N0 : Addr → Prop := fun _ => False
section
variable {K : PySem.W.Frag} {O : List Nat} {c : Cc} {env env1 env2 : En} {σ σ1 : L2.St} {H H1 H2 H' : Hp} {Z Z' N N1 N2 : Addr → Prop} {H0 : Hp} {Pm : Addr → Prop} {S0 : Option (Option V)}
/-- another set to stay clear of, of things that are there -/
theorem Rel.less (r : Rel K O ⟨Z, H0, Pm, S0⟩ env σ H) (hz : ∀ a, Z' a → Z a) : Rel K O ⟨Z', H0, Pm, S0⟩ env σ H where
  len := r.len
  slot := fun i d e => by
    have hb : ∀ a, (∃ o, H a = some o) → Bd O Z' σ a → Bd O Z σ a := fun a _ z => z.elim (fun z => .inl (hz a z)) .inr
    obtain ⟨v, e1, h1⟩ := r.slot i d e
    refine ⟨v, e1, ?_⟩
    rcases h1 with ⟨h0, a, e2, h1⟩ | ⟨h0, h1⟩
    · exact .inl ⟨h0, a, e2, h1.sub hb⟩
    · exact .inr ⟨h0, h1.sub hb⟩
  dist := r.dist
  own := fun a h1 => by
    obtain ⟨q1, q2, q3⟩ := r.own a h1
    exact ⟨q1, q2, fun z => q3 (hz a z)⟩
  frame := r.frame
  old := r.old
  zs := fun a z => r.zs a (hz a z)
  s0 := r.s0
  sz := r.sz
  tab := r.tab
theorem Rel.drop (r : Rel K O (c.nu N O σ1 H1) env σ H) : Rel K O (c.nw O σ1 H1) env σ H := r.less (Z := Zu c.Z N) fun _ z => .inl z
theorem Rel.n0 (r : Rel K O (c.nw O σ1 H1) env σ H) : Rel K O (c.nu N0 O σ1 H1) env σ H := r.less (Z := c.Z) fun _ z => z.elim (fun z => z) fun z => z.elim
/-- a heap that has grown, since the same start; the new things N stay clear -/
theorem Rel.grow (r : Rel K O ⟨Z, H0, Pm, S0⟩ env σ H) (k : Same H H') (z : SzH H') (hN : ∀ b, N b → H b = none) (hN' : ∀ b, N b → ∃ o, H' b = some o) : Rel K O ⟨Zu Z N, H0, Pm, S0⟩ env σ H' := by
  have kk : Keeps (fun _ => False) H H' := fun a o e n _ => k.keep a o e n
  refine ⟨r.len, fun i d e => ?_, r.dist, fun a h => ?_, fun a o e n m => k.keep a o (r.frame a o e n m) n, fun a o e => (r.old a o e).elim fun o' e' => k.there a o' e', fun a h => ?_, r.s0, z, k.tab r.tab⟩
  · obtain ⟨v, e1, h⟩ := r.slot i d e
    have hb : ∀ a, (∃ o, H a = some o) → Bd O (Zu Z N) σ a → Bd O Z σ a := fun a ⟨o, e⟩ z => by
      rcases z with (z | z) | z
      · exact .inl z
      · rw [hN a z] at e; cases e
      · exact .inr z
    refine ⟨v, e1, ?_⟩
    rcases h with ⟨h0, a, e2, h⟩ | ⟨h0, h⟩
    · exact .inl ⟨h0, a, e2, (h.sub hb).keep kk (fun _ z => z.elim) (fun _ z => z.elim) fun z => z⟩
    · exact .inr ⟨h0, (h.sub hb).keep kk (fun _ z => z.elim) fun _ z => z.elim⟩
  · obtain ⟨⟨o, e, m⟩, q2, q3⟩ := r.own a h
    refine ⟨⟨o, k.keep a o e (nt_mut m), m⟩, q2, fun z => z.elim q3 fun z => ?_⟩
    rw [hN a z] at e; cases e
  · rcases h with h | h
    · obtain ⟨o, e⟩ := r.zs a h
      exact k.there a o e
    · exact hN' a h
end

/-! ### results -/
def DenR (K : PySem.W.Frag) (O : List Nat) (Z N : Addr → Prop) (σ : L2.St) (H' : Hp) : R → V → Prop
  | .val d, v => Den K (Bd O (Zu Z N) σ) H' d v
  | .own i, v => i ∈ O ∧ σ[i]? = some (some v)
  | .new d, v => ∃ a, v = .ref a ∧ N a ∧ MDen K (Bd O (Zu Z N) σ) H' a d
def DenRs (K : PySem.W.Frag) (O : List Nat) (Z N : Addr → Prop) (σ : L2.St) (H' : Hp) : List R → List V → Prop
  | [], vs => vs = []
  | r :: rs, vs => ∃ v us, vs = v :: us ∧ DenR K O Z N σ H' r v ∧ DenRs K O Z N σ H' rs us
/-- arguments' denotations -/
def ADens (K : PySem.W.Frag) (B : Addr → Prop) (H : Hp) : List D → List V → Prop
  | [], vs => vs = []
  | d :: ds, vs => ∃ v us, vs = v :: us ∧ ADen K B H d v ∧ ADens K B H ds us
section
variable {K : PySem.W.Frag} {O : List Nat} {c : Cc} {env env1 env2 : En} {σ σ1 : L2.St} {H H1 H2 H' : Hp} {Z N N1 N2 : Addr → Prop}
theorem Rel.hB {Z : Addr → Prop} : ∀ a, Ow O σ a → Bd O Z σ a := fun _ h => .inr h
/-- a result that came at H1 with the fresh N1 stands at H2, beside the fresh N2 -/
theorem DenR.keep {r : R} {v : V} (h : DenR K O c.Z N1 σ H1 r v) (r1 : Rel K O (c.nu N1 O σ H) env1 σ H1) (r2 : Rel K O ((c.nu N1 O σ H).nu N2 O σ H1) env2 σ H2) (hN2 : ∀ b, N2 b → H1 b = none) :
    DenR K O c.Z (fun b => N1 b ∨ N2 b) σ H2 r v := by
  have hb : ∀ a, (∃ o, H1 a = some o) → Bd O (Zu c.Z fun b => N1 b ∨ N2 b) σ a → Bd O (Zu c.Z N1) σ a := fun a ⟨o, e⟩ z => by
    rcases z with (z | z | z) | z
    · exact .inl (.inl z)
    · exact .inl (.inr z)
    · rw [hN2 a z] at e; cases e
    · exact .inr z
  cases r with
  | val d => exact Den.keep r2.frame r1.mut Rel.hB (Den.sub hb h)
  | own i => exact h
  | new d =>
    obtain ⟨a, e, hn, hm⟩ := h
    exact ⟨a, e, .inl hn, (hm.sub hb).keep r2.frame r1.mut Rel.hB fun z => (r1.own a z).2.2 (.inr hn)⟩
theorem DenR.more {r : R} {v : V} (h : DenR K O (Zu Z N1) N2 σ H2 r v) : DenR K O Z (fun b => N1 b ∨ N2 b) σ H2 r v := by
  have hb : ∀ a, (∃ o, H2 a = some o) → Bd O (Zu Z fun b => N1 b ∨ N2 b) σ a → Bd O (Zu (Zu Z N1) N2) σ a := fun a _ z => by
    rcases z with (z | z | z) | z
    · exact .inl (.inl (.inl z))
    · exact .inl (.inl (.inr z))
    · exact .inl (.inr z)
    · exact .inr z
  cases r with
  | val d => exact Den.sub hb h
  | own i => exact h
  | new d =>
    obtain ⟨a, e, hn, hm⟩ := h
    exact ⟨a, e, .inr hn, hm.sub hb⟩
theorem Rel.more (r : Rel K O ((c.nu N1 O σ H).nu N2 O σ H1) env σ H2) : Rel K O ((c.nw O σ H).nu (fun b => N1 b ∨ N2 b) O σ H1) env σ H2 := r.less (Z := Zu (Zu c.Z N1) N2) fun _ z => by
  rcases z with z | z | z
  · exact .inl (.inl z)
  · exact .inl (.inr z)
  · exact .inr z
/-- two steps are one -/
theorem Rel.two (r0 : Rel K O c env σ H) (r1 : Rel K O (c.nu N1 O σ H) env1 σ H1) (r2 : Rel K O ((c.nu N1 O σ H).nu N2 O σ H1) env2 σ H2) : Rel K O (c.nu (fun b => N1 b ∨ N2 b) O σ H) env2 σ H2 := by
  have r3 : Rel K O ((⟨Zu c.Z fun b => N1 b ∨ N2 b, H, Ow O σ, c.S0⟩ : Cc).nw O σ H1) env2 σ H2 := r2.more
  refine ⟨r3.len, r3.slot, r3.dist, fun a h => ?_, fun a o e n m => r3.frame a o (r1.frame a o e n m) n fun z => m z, fun a o e => (r1.old a o e).elim fun o' e' => r3.old a o' e', r3.zs, r3.s0, r3.sz, r3.tab⟩
  obtain ⟨q1, q2, q3⟩ := r3.own a h
  refine ⟨q1, .inr h, q3⟩
theorem Rel.tr (r0 : Rel K O c env σ H) (r1 : Rel K O (c.nw O σ H) env1 σ H1) (r2 : Rel K O ((c.nw O σ H).nu N O σ H1) env2 σ H2) : Rel K O (c.nu N O σ H) env2 σ H2 := by
  have r3 : Rel K O ((⟨Zu c.Z N, H, Ow O σ, c.S0⟩ : Cc).nw O σ H1) env2 σ H2 := r2
  refine ⟨r3.len, r3.slot, r3.dist, fun a h => ?_, fun a o e n m => r3.frame a o (r1.frame a o e n m) n fun z => m z, fun a o e => (r1.old a o e).elim fun o' e' => r3.old a o' e', r3.zs, r3.s0, r3.sz, r3.tab⟩
  obtain ⟨q1, q2, q3⟩ := r3.own a h
  exact ⟨q1, .inr h, q3⟩
theorem fresh_two (r0 : Rel K O c env σ H) (r1 : Rel K O (c.nu N1 O σ H) env1 σ H1) (h1 : ∀ b, N1 b → H b = none) (h2 : ∀ b, N2 b → H1 b = none) : ∀ b, (N1 b ∨ N2 b) → H b = none := fun b z => by
  rcases z with z | z
  · exact h1 b z
  · exact r0.none_back r1.drop (h2 b z)
theorem DenR.at {r : R} {v : V} {d : D} (h : DenR K O c.Z N σ H1 r v) (r1 : Rel K O (c.nu N O σ H) env1 σ H1) (e : r.at env1 = some d) : ADen K (Bd O (Zu c.Z N) σ) H1 d v := by
  cases r with
  | val d' =>
    have e' : d' = d := Option.some.inj e
    subst e'
    exact Den.a h
  | new d' =>
    have e' : d' = d := Option.some.inj e
    subst e'
    obtain ⟨a, rfl, hn, hm⟩ := h
    exact hm.a
  | own i =>
    obtain ⟨h0, h1⟩ := h
    obtain ⟨u, e1, h2⟩ := r1.slot i d e
    rw [h1] at e1; cases e1
    rcases h2 with ⟨_, a, rfl, hm⟩ | ⟨h2, _⟩
    · exact hm.a
    · exact absurd h0 h2
/-- what may be stored: it stays clear of what is owned -/
theorem DenR.st {r : R} {v : V} {d : D} (h : DenR K O c.Z N σ H1 r v) (r0 : Rel K O c env σ H) (hN : ∀ b, N b → H b = none) (e : r.st = some d) : Den K (Bd O c.Z σ) H1 d v := by
  have hb : ∀ a, (∃ o, H1 a = some o) → Bd O c.Z σ a → Bd O (Zu c.Z N) σ a := fun a _ z => z.elim (fun z => .inl (.inl z)) .inr
  cases r with
  | val d' =>
    have e' : d' = d := Option.some.inj e
    subst e'
    exact Den.sub hb h
  | new d' =>
    have e' : d' = d := Option.some.inj e
    subst e'
    obtain ⟨a, rfl, hn, hm⟩ := h
    exact (hm.sub hb).den (r0.nob (hN a hn))
  | own i => cases e
theorem DenRs.keep : ∀ {rs : List R} {vs : List V}, DenRs K O c.Z N1 σ H1 rs vs → Rel K O (c.nu N1 O σ H) env1 σ H1 → Rel K O ((c.nu N1 O σ H).nu N2 O σ H1) env2 σ H2 → (∀ b, N2 b → H1 b = none) → DenRs K O c.Z (fun b => N1 b ∨ N2 b) σ H2 rs vs
  | [], _, h, _, _, _ => h
  | r :: rs, vs, h, r1, r2, hN => by
    obtain ⟨v, us, e, h1, h2⟩ := h
    exact ⟨v, us, e, h1.keep r1 r2 hN, DenRs.keep h2 r1 r2 hN⟩
theorem DenRs.more : ∀ {rs : List R} {vs : List V}, DenRs K O (Zu Z N1) N2 σ H2 rs vs → DenRs K O Z (fun b => N1 b ∨ N2 b) σ H2 rs vs
  | [], _, h => h
  | r :: rs, vs, h => by
    obtain ⟨v, us, e, h1, h2⟩ := h
    exact ⟨v, us, e, h1.more, DenRs.more h2⟩
theorem DenRs.st : ∀ {rs : List R} {vs : List V} {ds : List D}, DenRs K O c.Z N σ H1 rs vs → Rel K O c env σ H → (∀ b, N b → H b = none) → R.sts rs = some ds → Dens K (Bd O c.Z σ) H1 ds vs
  | [], _, ds, h, _, _, e => by
    have e' : [] = ds := Option.some.inj e
    subst e'
    exact h
  | r :: rs, vs, ds, h, r0, hN, e => by
    obtain ⟨v, us, rfl, h1, h2⟩ := h
    obtain ⟨d, e1, e2⟩ := Option.bind_eq_some_iff.mp e
    obtain ⟨ds', e3, e4⟩ := Option.bind_eq_some_iff.mp e2
    cases e4
    exact ⟨v, us, rfl, h1.st r0 hN e1, DenRs.st h2 r0 hN e3⟩
theorem DenRs.at : ∀ {rs : List R} {vs : List V} {ds : List D}, DenRs K O c.Z N σ H1 rs vs → Rel K O (c.nu N O σ H) env1 σ H1 → R.ats rs env1 = some ds → ADens K (Bd O (Zu c.Z N) σ) H1 ds vs
  | [], _, ds, h, _, e => by
    have e' : [] = ds := Option.some.inj e
    subst e'
    exact h
  | r :: rs, vs, ds, h, r1, e => by
    obtain ⟨v, us, rfl, h1, h2⟩ := h
    obtain ⟨d, e1, e2⟩ := Option.bind_eq_some_iff.mp e
    obtain ⟨ds', e3, e4⟩ := Option.bind_eq_some_iff.mp e2
    cases e4
    exact ⟨v, us, rfl, h1.at r1 e1, DenRs.at h2 r1 e3⟩
end

/-! ### environments changed -/
theorem En.g_p {e : En} {i j : Nat} {d d' : D} (h : (e.p i d).g j = some d') : (j = i ∧ d' = d ∧ i < e.length) ∨ (j ≠ i ∧ e.g j = some d') := by
  unfold En.g En.p at h
  by_cases hj : j = i
  · subst hj
    by_cases hl : j < e.length
    · rw [List.getElem?_set_self hl] at h
      exact .inl ⟨rfl, (Option.some.inj h).symm, hl⟩
    · rw [List.getElem?_eq_none (by simpa using hl)] at h
      cases h
  · rw [List.getElem?_set_ne (Ne.symm hj)] at h
    exact .inr ⟨hj, h⟩
theorem Ow.set {O : List Nat} {σ : L2.St} {i : Nat} {v : V} {a : Addr} (hi : i ∉ O) : Ow O (σ.set i (some v)) a ↔ Ow O σ a := by
  constructor
  · rintro ⟨j, hj, e⟩
    refine ⟨j, hj, ?_⟩
    rw [List.getElem?_set_ne (show i ≠ j from fun z => hi (by rw [z]; exact hj))] at e
    exact e
  · rintro ⟨j, hj, e⟩
    refine ⟨j, hj, ?_⟩
    rw [List.getElem?_set_ne (show i ≠ j from fun z => hi (by rw [z]; exact hj))]
    exact e
section
variable {K : PySem.W.Frag} {O : List Nat} {env : En} {σ : L2.St} {H H' : Hp} {Z N : Addr → Prop} {H0 : Hp} {Pm : Addr → Prop} {S0 : Option (Option V)}
/-- a plain slot is set -/
theorem Rel.set {i : Nat} {d : D} {v : V} (r : Rel K O ⟨Z, H0, Pm, S0⟩ env σ H) (hi : i ∉ O) (h : Den K (Bd O Z σ) H d v) : Rel K O ⟨Z, H0, Pm, S0⟩ (env.p i d) (σ.set i (some v)) H := by
  have hb : ∀ a, (∃ o, H a = some o) → Bd O Z (σ.set i (some v)) a → Bd O Z σ a := fun a _ z => z.elim .inl fun z => .inr ((Ow.set hi).mp z)
  refine ⟨by rw [List.length_set]; unfold En.p; rw [List.length_set]; exact r.len, fun j d' e => ?_, fun j k a hj hk e1 e2 => ?_, fun a h1 => r.own a ((Ow.set hi).mp h1), r.frame, r.old, r.zs, fun h => by
    rw [← r.s0 h, List.getElem?_set_ne (show i ≠ 0 from fun z => hi (by rw [z]; exact h))], r.sz, r.tab⟩
  · rcases En.g_p e with ⟨rfl, rfl, hl⟩ | ⟨hj, e⟩
    · refine ⟨v, ?_, .inr ⟨hi, h.sub hb⟩⟩
      rw [List.getElem?_set_self (by rw [← r.len]; exact hl)]
    · obtain ⟨u, e1, h1⟩ := r.slot j d' e
      refine ⟨u, by rw [List.getElem?_set_ne (Ne.symm hj)]; exact e1, ?_⟩
      rcases h1 with ⟨h0, a, e2, h1⟩ | ⟨h0, h1⟩
      · exact .inl ⟨h0, a, e2, h1.sub hb⟩
      · exact .inr ⟨h0, h1.sub hb⟩
  · rw [List.getElem?_set_ne (show i ≠ j from fun z => hi (by rw [z]; exact hj))] at e1
    rw [List.getElem?_set_ne (show i ≠ k from fun z => hi (by rw [z]; exact hk))] at e2
    exact r.dist j k a hj hk e1 e2
/-- an owning slot takes a fresh thing -/
theorem Rel.setO {i : Nat} {d : D} {a : Addr} (r : Rel K O ⟨Zu Z N, H0, Pm, S0⟩ env σ H) (hi : i ∈ O) (hi0 : i ≠ 0) (hn : N a) (h0 : H0 a = none) (hz : ¬ Z a) (h : MDen K (Bd O (Zu Z N) σ) H a d) :
    Rel K O ⟨Zu Z (fun b => N b ∧ b ≠ a), H0, Pm, S0⟩ (env.p i d) (σ.set i (some (.ref a))) H := by
  have hO : ∀ b, Ow O (σ.set i (some (.ref a))) b → b = a ∨ Ow O σ b := fun b ⟨j, hj, e⟩ => by
    by_cases hji : j = i
    · subst hji
      by_cases hl : j < σ.length
      · rw [List.getElem?_set_self hl] at e
        cases e
        exact .inl rfl
      · rw [List.getElem?_eq_none (by simpa using hl)] at e
        cases e
    · rw [List.getElem?_set_ne (Ne.symm hji)] at e
      exact .inr ⟨j, hj, e⟩
  have hb : ∀ b, (∃ o, H b = some o) → Bd O (Zu Z (fun b => N b ∧ b ≠ a)) (σ.set i (some (.ref a))) b → Bd O (Zu Z N) σ b := fun b _ z => by
    rcases z with (z | z) | z
    · exact .inl (.inl z)
    · exact .inl (.inr z.1)
    · rcases hO b z with rfl | z
      · exact .inl (.inr hn)
      · exact .inr z
  have hna : ¬ Ow O σ a := fun z => (r.own a z).2.2 (.inr hn)
  refine ⟨by rw [List.length_set]; unfold En.p; rw [List.length_set]; exact r.len, fun j d' e => ?_, fun j k b hj hk e1 e2 => ?_, fun b h1 => ?_, r.frame, r.old, fun b z => r.zs b (z.elim .inl fun z => .inr z.1), fun h => by
    rw [← r.s0 h, List.getElem?_set_ne hi0], r.sz, r.tab⟩
  · rcases En.g_p e with ⟨rfl, rfl, hl⟩ | ⟨hj, e⟩
    · refine ⟨.ref a, ?_, .inl ⟨hi, a, rfl, h.sub hb⟩⟩
      rw [List.getElem?_set_self (by rw [← r.len]; exact hl)]
    · obtain ⟨u, e1, h1⟩ := r.slot j d' e
      refine ⟨u, by rw [List.getElem?_set_ne (Ne.symm hj)]; exact e1, ?_⟩
      rcases h1 with ⟨h0, a, e2, h1⟩ | ⟨h0, h1⟩
      · exact .inl ⟨h0, a, e2, h1.sub hb⟩
      · exact .inr ⟨h0, h1.sub hb⟩
  · by_cases hji : j = i
    · by_cases hki : k = i
      · rw [hji, hki]
      · exfalso
        subst hji
        rw [List.getElem?_set_ne (Ne.symm hki)] at e2
        by_cases hl : j < σ.length
        · rw [List.getElem?_set_self hl] at e1
          cases e1
          exact hna ⟨k, hk, e2⟩
        · rw [List.getElem?_eq_none (by simpa using hl)] at e1
          cases e1
    · rw [List.getElem?_set_ne (Ne.symm hji)] at e1
      by_cases hki : k = i
      · exfalso
        subst hki
        by_cases hl : k < σ.length
        · rw [List.getElem?_set_self hl] at e2
          cases e2
          exact hna ⟨j, hj, e1⟩
        · rw [List.getElem?_eq_none (by simpa using hl)] at e2
          cases e2
      · rw [List.getElem?_set_ne (Ne.symm hki)] at e2
        exact r.dist j k b hj hk e1 e2
  · rcases hO b h1 with rfl | h1
    · obtain ⟨o, e, m⟩ := h.at
      refine ⟨⟨o, e, m⟩, .inl h0, fun z => z.elim hz fun z => z.2 rfl⟩
    · obtain ⟨q1, q2, q3⟩ := r.own b h1
      exact ⟨q1, q2, fun z => q3 (z.elim .inl fun z => .inr z.1)⟩
/-- the thing that slot i owns has changed -/
theorem Rel.upd {i : Nat} {d : D} {p : Addr} (r : Rel K O ⟨Z, H0, Pm, S0⟩ env σ H) (hi : i ∈ O) (hp : σ[i]? = some (some (.ref p))) (k : But p H H') (hz : SzH H') (h : MDen K (Bd O Z σ) H' p d) :
    Rel K O ⟨Z, H0, Pm, S0⟩ (env.p i d) σ H' := by
  have ow : Ow O σ p := ⟨i, hi, hp⟩
  have kk : Keeps (fun a => a = p) H H' := k.keep
  have hO : ∀ a, a = p → ∃ o, H a = some o ∧ Mut (some o) := fun a e => by subst e; exact r.mut a ow
  have hB : ∀ a, a = p → Bd O Z σ a := fun a e => by subst e; exact .inr ow
  refine ⟨by unfold En.p; rw [List.length_set]; exact r.len, fun j d' e => ?_, r.dist, fun a h1 => ?_, fun a o e nt n => ?_, fun a o e => ?_, fun a h1 => ?_, r.s0, hz, k.tab r.tab⟩
  · rcases En.g_p e with ⟨rfl, rfl, hl⟩ | ⟨hj, e⟩
    · exact ⟨.ref p, hp, .inl ⟨hi, p, rfl, h⟩⟩
    · obtain ⟨u, e1, h1⟩ := r.slot j d' e
      refine ⟨u, e1, ?_⟩
      rcases h1 with ⟨h0, a, e2, h1⟩ | ⟨h0, h1⟩
      · refine .inl ⟨h0, a, e2, h1.keep kk hO hB fun z => ?_⟩
        subst z
        subst e2
        exact hj (r.dist j i a h0 hi e1 hp)
      · exact .inr ⟨h0, h1.keep kk hO hB⟩
  · obtain ⟨⟨o, e, m⟩, q2, q3⟩ := r.own a h1
    refine ⟨?_, q2, q3⟩
    by_cases ha : a = p
    · subst ha; exact h.at
    · exact ⟨o, k.keep a o e (nt_mut m) ha, m⟩
  · refine k.keep a o (r.frame a o e nt n) nt fun z => ?_
    subst z
    rcases (r.own a ow).2.1 with q | q
    · have q' : H0 a = none := q
      have e' : H0 a = some o := e
      rw [q'] at e'; cases e'
    · exact n q
  · by_cases ha : a = p
    · subst ha
      obtain ⟨o', e', _⟩ := h.at
      exact ⟨o', e'⟩
    · obtain ⟨o', e'⟩ := r.old a o e
      exact k.there a o' e' ha
  · by_cases ha : a = p
    · subst ha
      obtain ⟨o', e', _⟩ := h.at
      exact ⟨o', e'⟩
    · obtain ⟨o', e'⟩ := r.zs a h1
      exact k.there a o' e' ha

/-- as trans, where the slots' owners have changed by the fresh a -/
theorem Rel.transO {c : Cc} {env1 : En} {σ1 : L2.St} {H1 : Hp} {a : Addr} (r1 : Rel K O c env1 σ1 H1) (ha : H1 a = none) (r2 : Rel K O (c.nw O σ1 H1) env σ H) : Rel K O c env σ H := r1.trans r2
end
end Mini

/-! ## MExp -/
/-! Mini: expressions over the model. -/
namespace Mini
open PySem PySem.Spec PyProof.Rows L2
variable [Tb]

/-! ### readings -/
def tE (K : PySem.W.Frag) (O : List Nat) (f : EF) : TE := fun σ H Q => ∃ (c : Cc) (env : En) (r : R) (env' : En), Rel K O c env σ H ∧ f env = some (r, env') ∧
  ∀ N v H', Rel K O (c.nu N O σ H) env' σ H' → (∀ b, N b → H b = none) → DenR K O c.Z N σ H' r v → Q v H'
def tT (K : PySem.W.Frag) (O : List Nat) (f : TF) : TT := fun σ H Q => ∃ (c : Cc) (env : En) (k : Bool) (env' : En), Rel K O c env σ H ∧ f env = some (k, env') ∧
  ∀ H', Rel K O (c.nw O σ H) env' σ H' → Q k H'
def tA (K : PySem.W.Frag) (O : List Nat) (f : AF) : TA := fun σ H Q => ∃ (c : Cc) (env : En) (rs : List R) (env' : En), Rel K O c env σ H ∧ f env = some (rs, env') ∧
  ∀ N vs H', Rel K O (c.nu N O σ H) env' σ H' → (∀ b, N b → H b = none) → DenRs K O c.Z N σ H' rs vs → Q vs H'
section
variable {X : Cx} {O : List Nat} {e : Expr} {es : List Expr}
theorem PE.w {t t' : TE} (h : PE X e t) (w : ∀ σ H Q, t' σ H Q → t σ H Q) : PE X e t' := ⟨fun pins s σ H Q I q => h.run pins s σ H Q I (w σ H Q q)⟩
theorem PT.w {t t' : TT} (h : PT X e t) (w : ∀ σ H Q, t' σ H Q → t σ H Q) : PT X e t' := ⟨fun pins s σ H Q I q => h.run pins s σ H Q I (w σ H Q q)⟩
theorem PW.w {t t' : TT} (h : PW X e t) (w : ∀ σ H Q, t' σ H Q → t σ H Q) : PW X e t' := ⟨fun wh pins s σ H Q I q => h.run wh pins s σ H Q I (w σ H Q q)⟩
theorem PA.w {t t' : TA} (h : PA X es t) (w : ∀ σ H Q, t' σ H Q → t σ H Q) : PA X es t' := ⟨fun pos pins s σ H Q I q => h.run pos pins s σ H Q I (w σ H Q q)⟩
abbrev GE (X : Cx) (O : List Nat) (e : Expr) (f : EF) : Prop := PE X e (tE X.K O f)
abbrev GT (X : Cx) (O : List Nat) (e : Expr) (f : TF) : Prop := PT X e (tT X.K O f)
abbrev GW (X : Cx) (O : List Nat) (e : Expr) (f : TF) : Prop := PW X e (tT X.K O f)
structure GA (X : Cx) (O : List Nat) (es : List Expr) (f : AF) : Prop where
  pa : PA X es (tA X.K O f)
  al : ∀ env rs env', f env = some (rs, env') → rs.length = es.length

/-! ### names and constants -/
theorem g_v (i : Nat) {x : Str} {pos : Pos} (h : PE X (.Name x pos) (tVar i)) (hi : i ∉ O := by decide) : GE X O (.Name x pos) (e_v i) := by
  refine PE.w h fun σ H Q ⟨c, env, r, env', hr, he, q⟩ => ?_
  obtain ⟨d, e1, e2⟩ := Option.bind_eq_some_iff.mp he
  cases e2
  obtain ⟨v, e3, h1⟩ := hr.slot i d e1
  rcases h1 with ⟨h0, _⟩ | ⟨_, h1⟩
  · exact absurd h0 hi
  · exact ⟨v, e3, q N0 v H hr.self.n0 (fun _ z => z.elim) (Den.sub (fun a _ z => z.elim (fun z => z.elim .inl fun z => z.elim) .inr) h1)⟩
theorem g_o (i : Nat) {x : Str} {pos : Pos} (h : PE X (.Name x pos) (tVar i)) (hi : i ∈ O := by decide) : GE X O (.Name x pos) (e_o i) := by
  refine PE.w h fun σ H Q ⟨c, env, r, env', hr, he, q⟩ => ?_
  obtain ⟨d, e1, e2⟩ := Option.bind_eq_some_iff.mp he
  cases e2
  obtain ⟨v, e3, h1⟩ := hr.slot i d e1
  exact ⟨v, e3, q N0 v H hr.self.n0 (fun _ z => z.elim) ⟨hi, e3⟩⟩
/-- a constant, of the text or of the module -/
theorem g_c {d : D} {v : V} (h : PE X e (tC v)) (hd : ∀ B H, Den X.K B H d v := by intro B H; rfl) : GE X O e (e_c d) := by
  refine PE.w h fun σ H Q ⟨c, env, r, env', hr, he, q⟩ => ?_
  cases he
  exact q N0 v H hr.self.n0 (fun _ z => z.elim) (hd _ _)
end

/-! ### operations by values -/
structure OpS (X : Cx) (f : Value → Value → Sem Value) (op : D → D → Option R) : Prop where
  ex : ∃ r : R2, OpR X f r ∧ ∀ (B : Addr → Prop) (H : Hp) (x y : D) (z : R) (v w : V) (Q : VK), op x y = some z → ADen X.K B H x v → ADen X.K B H y w → SzH H → (∀ a, B a → ∃ o, H a = some o) →
    (∀ u H', Same H H' → SzH H' → RDen X.K B H H' z u → Q u H') → r v w H Q
structure UnS (X : Cx) (f : Value → Sem Value) (op : D → Option R) : Prop where
  ex : ∃ r : V → Hp → VK → Prop, UnR X f r ∧ ∀ (B : Addr → Prop) (H : Hp) (x : D) (z : R) (v : V) (Q : VK), op x = some z → ADen X.K B H x v → SzH H → (∀ a, B a → ∃ o, H a = some o) →
    (∀ u H', Same H H' → SzH H' → RDen X.K B H H' z u → Q u H') → r v H Q
structure CallS (X : Cx) (f : Value) (op : List D → Option R) : Prop where
  ex : ∃ r : List V → Hp → VK → Prop, CallR X f r ∧ ∀ (B : Addr → Prop) (H : Hp) (ds : List D) (z : R) (vs : List V) (Q : VK), op ds = some z → ADens X.K B H ds vs → SzH H → (∀ a, B a → ∃ o, H a = some o) →
    (∀ u H', Same H H' → SzH H' → RDen X.K B H H' z u → Q u H') → r vs H Q
structure IxS (X : Cx) (op : D → D → Option R) : Prop where
  ex : ∃ r : R2, IxR X r ∧ ∀ (B : Addr → Prop) (H : Hp) (x y : D) (z : R) (v w : V) (Q : VK), op x y = some z → ADen X.K B H x v → ADen X.K B H y w → SzH H → (∀ a, B a → ∃ o, H a = some o) →
    (∀ u H', Same H H' → SzH H' → RDen X.K B H H' z u → Q u H') → r v w H Q
section
variable {K : PySem.W.Frag} {O : List Nat} {c : Cc} {env env1 env2 : En} {σ : L2.St} {H H1 H2 H3 : Hp} {N N1 N2 : Addr → Prop}
/-- an operation's result, over a heap that has grown by it -/
theorem RDen.fin {z : R} {u : V} (r0 : Rel K O c env σ H) (r1 : Rel K O (c.nu N1 O σ H) env1 σ H1) (k : Same H1 H2) (hz : SzH H2) (h : RDen K (Bd O (Zu c.Z N1) σ) H1 H2 z u) :
    ∃ N, Rel K O (c.nu N O σ H) env1 σ H2 ∧ (∀ b, N b → H b = none) ∧ DenR K O c.Z N σ H2 z u := by
  have r1' : Rel K O (c.nw O σ H) env1 σ H1 := r1.drop
  cases z with
  | val d =>
    refine ⟨N0, r1'.grow k hz (fun _ z => z.elim) (fun _ z => z.elim), fun _ z => z.elim, ?_⟩
    exact Den.sub (fun a _ z => by
        rcases z with (z | z) | z
        · exact .inl (.inl z)
        · exact z.elim
        · exact .inr z) h
  | own i => exact h.elim
  | new d =>
    obtain ⟨a, e, hn, hm⟩ := h
    refine ⟨fun b => b = a, r1'.grow k hz (fun b e => by subst e; exact hn) (fun b e => by
        subst e
        obtain ⟨o, ho, _⟩ := hm.at
        exact ⟨o, ho⟩), fun b e => by subst e; exact r0.none_back r1' hn, a, e, rfl, hm.sub fun b _ z => ?_⟩
    rcases z with (z | z) | z
    · exact .inl (.inl (.inl z))
    · exact .inr z
    · exact .inl (.inr z)
theorem bsome {Z : Addr → Prop} {H0 : Hp} {Pm : Addr → Prop} {S0 : Option (Option V)} (r : Rel K O ⟨Z, H0, Pm, S0⟩ env σ H) : ∀ a, Bd O Z σ a → ∃ o, H a = some o := fun _ h => r.bsome h
end
section
variable {X : Cx} {O : List Nat} {a b : Expr} {e : Expr} {es : List Expr} {pos : Pos}
theorem w_un {op : D → Option R} {fa : EF} {σ : L2.St} {H : Hp} {Q : VK} {r : V → Hp → VK → Prop}
    (hs : ∀ (B : Addr → Prop) (H : Hp) (x : D) (z : R) (v : V) (Q : VK), op x = some z → ADen X.K B H x v → SzH H → (∀ a, B a → ∃ o, H a = some o) → (∀ u H', Same H H' → SzH H' → RDen X.K B H H' z u → Q u H') → r v H Q)
    (h : tE X.K O (e_un op fa) σ H Q) : tE X.K O fa σ H fun v H1 => r v H1 Q := by
  obtain ⟨c, env, r0, env', hr, he, q⟩ := h
  obtain ⟨⟨r1, env1⟩, e1, h⟩ := Option.bind_eq_some_iff.mp he
  obtain ⟨x, e3, h⟩ := Option.bind_eq_some_iff.mp h
  obtain ⟨z, e5, h⟩ := Option.bind_eq_some_iff.mp h
  cases h
  refine ⟨c, env, r1, _, hr, e1, fun N1 v H1 q1 f1 d1 => ?_⟩
  refine hs _ H1 x _ v Q e5 (d1.at q1 e3) q1.sz (bsome q1) fun u H3 k hz hd => ?_
  obtain ⟨N, q3, f3, d3⟩ := hd.fin hr q1 k hz
  exact q N u H3 q3 f3 d3
/-- two values, then an operation -/
theorem w_bin {op : D → D → Option R} {fa fb : EF} {σ : L2.St} {H : Hp} {Q : VK} {r : R2}
    (hs : ∀ (B : Addr → Prop) (H : Hp) (x y : D) (z : R) (v w : V) (Q : VK), op x y = some z → ADen X.K B H x v → ADen X.K B H y w → SzH H → (∀ a, B a → ∃ o, H a = some o) → (∀ u H', Same H H' → SzH H' → RDen X.K B H H' z u → Q u H') → r v w H Q)
    (h : tE X.K O (e_bin op fa fb) σ H Q) : tOp r (tE X.K O fa) (tE X.K O fb) σ H Q := by
  obtain ⟨c, env, r0, env', hr, he, q⟩ := h
  obtain ⟨⟨r1, env1⟩, e1, h⟩ := Option.bind_eq_some_iff.mp he
  obtain ⟨⟨r2, env2⟩, e2, h⟩ := Option.bind_eq_some_iff.mp h
  obtain ⟨x, e3, h⟩ := Option.bind_eq_some_iff.mp h
  obtain ⟨y, e4, h⟩ := Option.bind_eq_some_iff.mp h
  obtain ⟨z, e5, h⟩ := Option.bind_eq_some_iff.mp h
  cases h
  refine ⟨c, env, r1, env1, hr, e1, fun N1 v H1 q1 f1 d1 => ⟨c.nu N1 O σ H, env1, r2, _, q1, e2, fun N2 w H2 q2 f2 d2 => ?_⟩⟩
  have q12 := hr.two q1 q2
  have d1' := d1.keep q1 q2 f2
  have d2' := d2.more
  refine hs _ H2 x y _ v w Q e5 (d1'.at q12 e3) (d2'.at q12 e4) q12.sz (bsome q12) fun u H3 k hz hd => ?_
  obtain ⟨N, q3, f3, d3⟩ := hd.fin hr q12 k hz
  exact q N u H3 q3 f3 d3
theorem g_bin {o : Operator} {op : D → D → Option R} {fa fb : EF} (ho : OpS X (binaryOp o) op) (ha : GE X O a fa) (hb : GE X O b fb) : GE X O (.BinOp a o b pos) (e_bin op fa fb) := by
  obtain ⟨r, hr, hs⟩ := ho.ex
  exact PE.w (pe_op hr ha hb) fun σ H Q h => w_bin hs h
theorem g_un {o : UnaryOp} {op : D → Option R} {fa : EF} (ho : UnS X (unaryOp o) op) (ha : GE X O a fa) : GE X O (.UnaryOp o a pos) (e_un op fa) := by
  obtain ⟨r, hr, hs⟩ := ho.ex
  exact PE.w (pe_un hr ha) fun σ H Q h => w_un hs h
theorem g_cmp {o : CmpOp} {op : D → D → Option R} {fa fb : EF} (ho : OpS X (compareOp o) op) (ha : GE X O a fa) (hb : GE X O b fb) (hm : behindInMarks o b = false := by rfl) : GE X O (.Compare a [o] [b] pos) (e_bin op fa fb) := by
  obtain ⟨r, hr, hs⟩ := ho.ex
  exact PE.w (pe_cmpR hr ha hb hm) fun σ H Q h => w_bin hs h
theorem g_ix {op : D → D → Option R} {fa fb : EF} (ho : IxS X op) (ha : GE X O a fa) (hb : GE X O b fb) (hs : PlainIx b := by exact fun _ _ => rfl) : GE X O (.Subscript a b pos) (e_bin op fa fb) := by
  obtain ⟨r, hr, hs'⟩ := ho.ex
  exact PE.w (pe_ix hr ha hb hs) fun σ H Q h => w_bin hs' h
/-- a value that is a bool, its reading -/
theorem w_bl {f : EF} {σ : L2.St} {H : Hp} {c : Cc} {env env' : En} {r : R} {k : Bool} {Q : VK} (hr : Rel X.K O c env σ H) (he : f env = some (r, env')) (hk : r.bl? = some k) (q : ∀ H', Rel X.K O (c.nw O σ H) env' σ H' → Q (.bl k) H') : tE X.K O f σ H Q := by
  refine ⟨c, env, r, env', hr, he, fun N v H' q1 f1 d1 => ?_⟩
  cases r with
  | val d =>
    cases d with
    | bl b =>
      cases hk
      have e : v = .bl k := d1
      subst e
      exact q H' q1.drop
    | _ => cases hk
  | _ => cases hk
theorem g_t {f : EF} (h : ∀ {t : TE}, PE X e t → PT X e (tB t)) (he : GE X O e f) : GT X O e (t_v f) := by
  refine PT.w (h he) fun σ H Q ⟨c, env, k, env', hr, e1, q⟩ => ?_
  obtain ⟨⟨r, env1⟩, e2, e3⟩ := Option.bind_eq_some_iff.mp e1
  obtain ⟨k', e4, e5⟩ := Option.bind_eq_some_iff.mp e3
  cases e5
  exact w_bl hr e2 e4 fun H' q1 => ⟨k, rfl, q H' q1⟩
theorem g_tcmp {o : CmpOp} {op : D → D → Option R} {fa fb : EF} (ho : OpS X (compareOp o) op) (ha : GE X O a fa) (hb : GE X O b fb) (hm : behindInMarks o b = false := by rfl) : GT X O (.Compare a [o] [b] pos) (t_v (e_bin op fa fb)) := by
  obtain ⟨r, hr, hs⟩ := ho.ex
  refine PT.w (pt_cmpR hr ha hb hm) fun σ H Q ⟨c, env, k, env', hr, e1, q⟩ => ?_
  obtain ⟨⟨r, env1⟩, e2, e3⟩ := Option.bind_eq_some_iff.mp e1
  obtain ⟨k', e4, e5⟩ := Option.bind_eq_some_iff.mp e3
  cases e5
  exact w_bin hs (w_bl hr e2 e4 fun H' q1 => ⟨k, rfl, q H' q1⟩)
theorem g_tand {ta tb : TF} {rest : List Expr} (ha : GT X O a ta) (hb : GW X O (.BoolOp .And (b :: rest) pos) tb) : GW X O (.BoolOp .And (a :: b :: rest) pos) (t_and ta tb) := by
  refine PW.w (pw_and ha hb) fun σ H Q ⟨c, env, k, env', hr, e1, q⟩ => ?_
  obtain ⟨⟨k1, env1⟩, e2, e3⟩ := Option.bind_eq_some_iff.mp e1
  refine ⟨c, env, k1, env1, hr, e2, fun H1 q1 => ?_⟩
  cases k1 with
  | true => exact iteT ⟨c.nw O σ H, env1, k, env', q1, e3, fun H2 q2 => q H2 (q1.trans q2)⟩
  | false =>
    cases e3
    exact iteF (q H1 q1)
theorem g_tor {ta tb : TF} {rest : List Expr} (ha : GT X O a ta) (hb : GW X O (.BoolOp .Or (b :: rest) pos) tb) : GW X O (.BoolOp .Or (a :: b :: rest) pos) (t_or ta tb) := by
  refine PW.w (pw_or ha hb) fun σ H Q ⟨c, env, k, env', hr, e1, q⟩ => ?_
  obtain ⟨⟨k1, env1⟩, e2, e3⟩ := Option.bind_eq_some_iff.mp e1
  refine ⟨c, env, k1, env1, hr, e2, fun H1 q1 => ?_⟩
  cases k1 with
  | false => exact iteF ⟨c.nw O σ H, env1, k, env', q1, e3, fun H2 q2 => q H2 (q1.trans q2)⟩
  | true =>
    cases e3
    exact iteT (q H1 q1)
theorem g_tand1 {ta : TF} (ha : GT X O a ta) : GW X O (.BoolOp .And [a] pos) ta := pw_and1 ha
theorem g_tor1 {ta : TF} (ha : GT X O a ta) : GW X O (.BoolOp .Or [a] pos) ta := pw_or1 ha
theorem g_tnot {ta : TF} (ha : GT X O a ta) : GT X O (.UnaryOp .Not a pos) (t_not ta) := by
  refine PT.w (pt_not ha) fun σ H Q ⟨c, env, k, env', hr, e1, q⟩ => ?_
  obtain ⟨⟨k1, env1⟩, e2, e3⟩ := Option.bind_eq_some_iff.mp e1
  cases e3
  exact ⟨c, env, k1, env1, hr, e2, q⟩
theorem g_and {fa fb : EF} {rest : List Expr} (ha : GE X O a fa) (hb : GE X O (.BoolOp .And (b :: rest) pos) fb) : GE X O (.BoolOp .And (a :: b :: rest) pos) (e_and fa fb) := by
  refine PE.w (pe_and ha hb) fun σ H Q ⟨c, env, r, env', hr, e1, q⟩ => ?_
  obtain ⟨⟨r1, env1⟩, e2, e3⟩ := Option.bind_eq_some_iff.mp e1
  obtain ⟨k, e4, e5⟩ := Option.bind_eq_some_iff.mp e3
  refine w_bl hr e2 e4 fun H1 q1 => ⟨k, rfl, ?_⟩
  cases k with
  | true => exact iteT ⟨c.nw O σ H, env1, r, env', q1, e5, fun N v H2 q2 f2 d2 => q N v H2 (hr.tr q1 q2) (fun b z => hr.none_back q1 (f2 b z)) d2⟩
  | false =>
    cases e5
    exact iteF (q N0 _ H1 q1.n0 (fun _ z => z.elim) rfl)
theorem g_or {fa fb : EF} {rest : List Expr} (ha : GE X O a fa) (hb : GE X O (.BoolOp .Or (b :: rest) pos) fb) : GE X O (.BoolOp .Or (a :: b :: rest) pos) (e_or fa fb) := by
  refine PE.w (pe_or ha hb) fun σ H Q ⟨c, env, r, env', hr, e1, q⟩ => ?_
  obtain ⟨⟨r1, env1⟩, e2, e3⟩ := Option.bind_eq_some_iff.mp e1
  obtain ⟨k, e4, e5⟩ := Option.bind_eq_some_iff.mp e3
  refine w_bl hr e2 e4 fun H1 q1 => ⟨k, rfl, ?_⟩
  cases k with
  | false => exact iteF ⟨c.nw O σ H, env1, r, env', q1, e5, fun N v H2 q2 f2 d2 => q N v H2 (hr.tr q1 q2) (fun b z => hr.none_back q1 (f2 b z)) d2⟩
  | true =>
    cases e5
    exact iteT (q N0 _ H1 q1.n0 (fun _ z => z.elim) rfl)
theorem g_one {o : BoolOp} {fa : EF} (ha : GE X O a fa) : GE X O (.BoolOp o [a] pos) fa := pe_one ha
theorem g_not {fa : EF} (ha : GE X O a fa) : GE X O (.UnaryOp .Not a pos) (e_not fa) := by
  refine PE.w (pe_not ha) fun σ H Q ⟨c, env, r, env', hr, e1, q⟩ => ?_
  obtain ⟨⟨r1, env1⟩, e2, e3⟩ := Option.bind_eq_some_iff.mp e1
  obtain ⟨k, e4, e5⟩ := Option.bind_eq_some_iff.mp e3
  cases e5
  exact w_bl hr e2 e4 fun H1 q1 => ⟨k, rfl, q N0 _ H1 q1.n0 (fun _ z => z.elim) rfl⟩
theorem g_if {t : Expr} {ft : TF} {fa fb : EF} (ht : GT X O t ft) (ha : GE X O a fa) (hb : GE X O b fb) : GE X O (.IfExp t a b pos) (e_if ft fa fb) := by
  refine PE.w (pe_ifExp ht ha hb) fun σ H Q ⟨c, env, r, env', hr, e1, q⟩ => ?_
  obtain ⟨⟨k, env1⟩, e2, e3⟩ := Option.bind_eq_some_iff.mp e1
  refine ⟨c, env, k, env1, hr, e2, fun H1 q1 => ?_⟩
  cases k with
  | true => exact iteT ⟨c.nw O σ H, env1, r, env', q1, e3, fun N v H2 q2 f2 d2 => q N v H2 (hr.tr q1 q2) (fun b z => hr.none_back q1 (f2 b z)) d2⟩
  | false => exact iteF ⟨c.nw O σ H, env1, r, env', q1, e3, fun N v H2 q2 f2 d2 => q N v H2 (hr.tr q1 q2) (fun b z => hr.none_back q1 (f2 b z)) d2⟩

/-! ### arguments, displays -/
theorem g_nil : GA X O [] a_nil := by
  refine ⟨?_, fun env rs env' e => by cases e; rfl⟩
  refine PA.w pa_nil fun σ H Q ⟨c, env, rs, env', hr, he, q⟩ => ?_
  cases he
  exact q N0 [] H hr.self.n0 (fun _ z => z.elim) rfl
theorem g_cons {fa : EF} {fr : AF} (ha : GE X O e fa) (hr' : GA X O es fr) (hs : starEach (e :: es) X.env = (false, eval e X.env) :: starEach es X.env := by rfl) : GA X O (e :: es) (a_cons fa fr) := by
  refine ⟨?_, fun env rs env' he => by
    obtain ⟨⟨r1, env1⟩, e2, e3⟩ := Option.bind_eq_some_iff.mp he
    obtain ⟨⟨rr, env2⟩, e4, e5⟩ := Option.bind_eq_some_iff.mp e3
    cases e5
    rw [List.length_cons, List.length_cons, hr'.al _ _ _ e4]⟩
  refine PA.w (pa_cons ha hr'.pa hs) fun σ H Q ⟨c, env, rs, env', hr, he, q⟩ => ?_
  obtain ⟨⟨r1, env1⟩, e2, e3⟩ := Option.bind_eq_some_iff.mp he
  obtain ⟨⟨rr, env2⟩, e4, e5⟩ := Option.bind_eq_some_iff.mp e3
  cases e5
  refine ⟨c, env, r1, env1, hr, e2, fun N1 v H1 q1 f1 d1 => ⟨c.nu N1 O σ H, env1, rr, _, q1, e4, fun N2 vs H2 q2 f2 d2 => ?_⟩⟩
  exact q _ (v :: vs) H2 (hr.two q1 q2) (fresh_two hr q1 f1 f2) ⟨v, vs, rfl, d1.keep q1 q2 f2, d2.more⟩
theorem sz_upd {H : Hp} {p : Addr} {o : HO} (h : SzH H) (h1 : ∀ xs, o = .lst xs → xs.length ≤ sizeLine) (h2 : ∀ xs, o = .tup xs → xs.length ≤ sizeLine) (h3 : ∀ ob u, o ≠ .frz ob u) : SzH (upd H p o) := by
  intro a xs
  by_cases e : a = p
  · subst e
    constructor
    · rintro (e | ⟨ob, e⟩)
      · rw [upd_same] at e
        exact h1 xs (Option.some.inj e)
      · rw [upd_same] at e
        exact absurd (Option.some.inj e) (h3 _ _)
    · rintro (e | ⟨ob, e⟩)
      · rw [upd_same] at e
        exact h2 xs (Option.some.inj e)
      · rw [upd_same] at e
        exact absurd (Option.some.inj e) (h3 _ _)
  · constructor
    · rintro (q | ⟨ob, q⟩)
      · rw [upd_ne e] at q
        exact (h a xs).1 (.inl q)
      · rw [upd_ne e] at q
        exact (h a xs).1 (.inr ⟨ob, q⟩)
    · rintro (q | ⟨ob, q⟩)
      · rw [upd_ne e] at q
        exact (h a xs).2 (.inl q)
      · rw [upd_ne e] at q
        exact (h a xs).2 (.inr ⟨ob, q⟩)
theorem sz_lst {H : Hp} {p : Addr} {xs : List V} (h : SzH H) (hl : xs.length ≤ sizeLine) : SzH (upd H p (.lst xs)) := sz_upd h (fun ys e => by cases e; exact hl) (fun ys e => by cases e) fun _ _ e => by cases e
theorem sz_tup {H : Hp} {p : Addr} {xs : List V} (h : SzH H) (hl : xs.length ≤ sizeLine) : SzH (upd H p (.tup xs)) := sz_upd h (fun ys e => by cases e) (fun ys e => by cases e; exact hl) fun _ _ e => by cases e
theorem sz_dk {H : Hp} {p : Addr} {kvs : List (Key × V)} (h : SzH H) : SzH (upd H p (.dK kvs)) := sz_upd h (fun ys e => by cases e) (fun ys e => by cases e) fun _ _ e => by cases e
theorem same_new {H : Hp} {p : Addr} {o : HO} (h : H p = none) : Same H (upd H p o) := Same.of fun b x e => by
  rw [upd_ne (ne_of_none e h)]
  exact e
/-- a new list as a result -/
theorem new_lst {K : PySem.W.Frag} {B : Addr → Prop} {H : Hp} {p : Addr} {ds : List D} {vs : List V} (hp : H p = none) (h : Dens K B H ds vs) : RDen K B H (upd H p (.lst vs)) (.new (.lst ds)) (.ref p) := by
  refine ⟨p, rfl, hp, vs, upd_same, ?_⟩
  have h2 : Dens K (fun b => B b ∨ b = p) H ds vs := Dens.sub (fun a ⟨o, e⟩ z => z.elim (fun z => z) fun z => by subst z; rw [hp] at e; cases e) h
  exact Dens.keep (O := fun _ => False) (fun a o e n _ => (same_new hp).keep a o e n) (fun _ z => z.elim) (fun _ z => z.elim) h2
theorem new_tup {K : PySem.W.Frag} {B : Addr → Prop} {H : Hp} {p : Addr} {ds : List D} {vs : List V} (hp : H p = none) (h : Dens K B H ds vs) : RDen K B H (upd H p (.tup vs)) (.val (.tup ds)) (.ref p) :=
  ⟨p, vs, rfl, SqT.of upd_same, Dens.keep (O := fun _ => False) (fun a o e n _ => (same_new hp).keep a o e n) (fun _ z => z.elim) (fun _ z => z.elim) h⟩
theorem Dens.ofN {K : PySem.W.Frag} {O : List Nat} {Z N : Addr → Prop} {σ : L2.St} {H : Hp} {ds : List D} {vs : List V} (hN : ∀ b, N b → H b = none) (h : Dens K (Bd O Z σ) H ds vs) : Dens K (Bd O (Zu Z N) σ) H ds vs :=
  Dens.sub (fun a ⟨o, e⟩ z => by
    rcases z with (z | z) | z
    · exact .inl z
    · rw [hN a z] at e; cases e
    · exact .inr z) h
theorem DenRs.length {K : PySem.W.Frag} {O : List Nat} {Z N : Addr → Prop} {σ : L2.St} {H : Hp} : ∀ {rs : List R} {vs : List V}, DenRs K O Z N σ H rs vs → rs.length = vs.length
  | [], vs, h => by
    have e : vs = [] := h
    subst e
    rfl
  | r :: rs, vs, h => by
    obtain ⟨v, us, rfl, _, h2⟩ := h
    rw [List.length_cons, List.length_cons, DenRs.length h2]
theorem len_line {n : Nat} (h : decide (n ≤ 1000) = true) : n ≤ sizeLine := Nat.le_of_lt (small1000 (of_decide_eq_true h))
theorem g_tup {x1 : Nat} {fs : AF} (h : GA X O es fs) (hl : (decide (es.length ≤ 1000)) = true := by rfl) : GE X O (.Tuple es x1 pos) (e_tup fs) := by
  refine PE.w (pe_tup h.pa) fun σ H Q ⟨c, env, r, env', hr, he, q⟩ => ?_
  obtain ⟨⟨rs, env1⟩, e2, e3⟩ := Option.bind_eq_some_iff.mp he
  obtain ⟨ds, e4, e5⟩ := Option.bind_eq_some_iff.mp e3
  cases e5
  refine ⟨c, env, rs, _, hr, e2, fun N vs H1 q1 f1 d1 => ?_⟩
  have hlen : vs.length ≤ sizeLine := by
    rw [← d1.length, h.al _ _ _ e2]
    exact len_line hl
  refine ⟨hlen, fun p hp => ?_⟩
  have hd := d1.st hr f1 e4
  obtain ⟨N', q3, f3, d3⟩ := RDen.fin (N1 := N0) hr q1.drop.n0 (same_new hp) (sz_tup q1.sz hlen) (new_tup hp (Dens.ofN (fun _ z => z.elim) hd))
  exact q N' _ _ q3 f3 d3
theorem g_lst {fs : AF} (h : GA X O es fs) (hl : (decide (es.length ≤ 1000)) = true := by rfl) : GE X O (.List es pos) (e_lst fs) := by
  refine PE.w (pe_lst h.pa) fun σ H Q ⟨c, env, r, env', hr, he, q⟩ => ?_
  obtain ⟨⟨rs, env1⟩, e2, e3⟩ := Option.bind_eq_some_iff.mp he
  obtain ⟨ds, e4, e5⟩ := Option.bind_eq_some_iff.mp e3
  cases e5
  refine ⟨c, env, rs, _, hr, e2, fun N vs H1 q1 f1 d1 => ?_⟩
  have hlen : vs.length ≤ sizeLine := by
    rw [← d1.length, h.al _ _ _ e2]
    exact len_line hl
  refine ⟨hlen, fun p hp => ?_⟩
  have hd := d1.st hr f1 e4
  obtain ⟨N', q3, f3, d3⟩ := RDen.fin (N1 := N0) hr q1.drop.n0 (same_new hp) (sz_lst q1.sz hlen) (new_lst hp (Dens.ofN (fun _ z => z.elim) hd))
  exact q N' _ _ q3 f3 d3

/-! ### chains -/
theorem g_chain {c : Expr} {o o' : CmpOp} {p1 p2 : D → D → Option R} {fa fb fc : EF} (h1 : OpS X (compareOp o) p1) (h2 : OpS X (compareOp o') p2) (ha : GE X O a fa) (hb : GE X O b fb) (hc : GE X O c fc)
    (w : ∀ {r r' : R2} {ta tb tc : TE}, OpR X (compareOp o) r → OpR X (compareOp o') r' → PE X a ta → PE X b tb → PE X c tc → PE X e (tChain r r' ta tb tc)) : GE X O e (e_chain p1 p2 fa fb fc) := by
  obtain ⟨r, hr1, hs1⟩ := h1.ex
  obtain ⟨r', hr2, hs2⟩ := h2.ex
  refine PE.w (w hr1 hr2 ha hb hc) fun σ H Q ⟨c, env, r0, env', hr, he, q⟩ => ?_
  obtain ⟨⟨r1, env1⟩, e1, h⟩ := Option.bind_eq_some_iff.mp he
  obtain ⟨⟨r2, env2⟩, e2, h⟩ := Option.bind_eq_some_iff.mp h
  obtain ⟨x, e3, h⟩ := Option.bind_eq_some_iff.mp h
  obtain ⟨y, e4, h⟩ := Option.bind_eq_some_iff.mp h
  obtain ⟨z, e5, h⟩ := Option.bind_eq_some_iff.mp h
  refine ⟨c, env, r1, env1, hr, e1, fun N1 v H1 q1 f1 d1 => ⟨c.nu N1 O σ H, env1, r2, _, q1, e2, fun N2 w H2 q2 f2 d2 => ?_⟩⟩
  have q12 := hr.two q1 q2
  have f12 := fresh_two hr q1 f1 f2
  have d1' := d1.keep q1 q2 f2
  have d2' := d2.more
  refine hs1 _ H2 x y _ v w _ e5 (d1'.at q12 e3) (d2'.at q12 e4) q12.sz (bsome q12) fun u H3 k hz hd => ?_
  obtain ⟨N3, q3, f3, d3⟩ := hd.fin hr q12 k hz
  cases z with
  | own i => cases h
  | new d => cases h
  | val d =>
    cases d with
    | bl kb =>
      have eu : u = .bl kb := d3
      refine ⟨kb, eu, ?_⟩
      cases kb with
      | false =>
        cases h
        exact iteF (q N3 _ H3 q3 f3 rfl)
      | true =>
        obtain ⟨⟨r3, env3⟩, e6, h⟩ := Option.bind_eq_some_iff.mp h
        obtain ⟨y2, e7, h⟩ := Option.bind_eq_some_iff.mp h
        obtain ⟨w2, e8, h⟩ := Option.bind_eq_some_iff.mp h
        obtain ⟨z2, e9, h⟩ := Option.bind_eq_some_iff.mp h
        -- the second operand stands at H3
        have q3' : Rel X.K O (c.nu (fun b => N1 b ∨ N2 b) O σ H) env2 σ H3 := (q12.grow (N := N0) k hz (fun _ z => z.elim) fun _ z => z.elim).less fun a z => .inl z
        have d2b : DenR X.K O c.Z (fun b => N1 b ∨ N2 b) σ H3 r2 w := by
          have s2 : Rel X.K O ((c.nu (fun b => N1 b ∨ N2 b) O σ H).nu N0 O σ H2) env2 σ H3 := (q12.ext k hz).n0
          have := d2'.keep q12 s2 fun _ z => z.elim
          cases r2 with
          | val d => exact Den.sub (fun a _ z => by
              rcases z with (z | z) | z
              · exact .inl (.inl z)
              · exact .inl (.inr (.inl z))
              · exact .inr z) this
          | own i => exact this
          | new d =>
            obtain ⟨a, ea, na, ma⟩ := this
            refine ⟨a, ea, na.elim (fun z => z) fun z => z.elim, ma.sub (fun a _ z => by
              rcases z with (z | z) | z
              · exact .inl (.inl z)
              · exact .inl (.inr (.inl z))
              · exact .inr z)⟩
        refine iteT ⟨c.nu (fun b => N1 b ∨ N2 b) O σ H, env2, r3, env3, q3', e6, fun N4 w' H4 q4 f4 d4 => ?_⟩
        have q34 := hr.two q3' q4
        have d2c := d2b.keep q3' q4 f4
        refine hs2 _ H4 y2 w2 _ w w' _ e9 (d2c.at q34 e7) (d4.more.at q34 e8) q34.sz (bsome q34) fun u2 H5 k2 hz2 hd2 => ?_
        obtain ⟨N5, q5, f5, d5⟩ := hd2.fin hr q34 k2 hz2
        cases z2 with
        | own i => cases h
        | new d => cases h
        | val d =>
          cases d with
          | bl k2 =>
            cases h
            exact q N5 _ H5 q5 f5 d5
          | _ => cases h
    | _ => cases h

/-! ### calls of built-ins by name -/
theorem g_callF {f : Value} {op : List D → Option R} {fs : AF} (hc : CallS X f op) (ha : GA X O es fs) (w : ∀ {r : List V → Hp → VK → Prop} {t : TA}, CallR X f r → PA X es t → PE X e (tCB r t)) : GE X O e (e_call op fs) := by
  obtain ⟨r, hr1, hs1⟩ := hc.ex
  refine PE.w (w hr1 ha.pa) fun σ H Q ⟨c, env, r0, env', hr, he, q⟩ => ?_
  obtain ⟨⟨rs, env1⟩, e2, h⟩ := Option.bind_eq_some_iff.mp he
  obtain ⟨ds, e4, h⟩ := Option.bind_eq_some_iff.mp h
  obtain ⟨z, e5, h⟩ := Option.bind_eq_some_iff.mp h
  cases h
  refine ⟨c, env, rs, _, hr, e2, fun N1 vs H1 q1 f1 d1 => ?_⟩
  refine hs1 _ H1 ds _ vs Q e5 (d1.at q1 e4) q1.sz (bsome q1) fun u H3 k hz hd => ?_
  obtain ⟨N, q3, f3, d3⟩ := hd.fin hr q1 k hz
  exact q N u H3 q3 f3 d3
end
end Mini

/-! ## MStm -/
/-! Mini: statements, calls and defs over the model. -/
namespace Mini
open PySem PySem.Spec PyProof.Rows L2
variable [Tb]

/-! ### what a def promises -/
def Ex (H : Hp) : Addr → Prop := fun a => ∃ o, H a = some o
def spP (K : PySem.W.Frag) (F : List D → Option R) : Sp := fun vs H Q _ => ∃ ds r, ADens K N0 H ds vs ∧ SzH H ∧ LamX.Tabs Tb.T H ∧ F ds = some r ∧ ∀ u H', Same H H' → SzH H' → RDen K (Ex H) H H' r u → Q u H'
def spM (K : PySem.W.Frag) (G : D → List D → Option (R × D)) : Sp := fun vs H Q _ => ∃ p c ds us r c', vs = .ref p :: us ∧ MDen K (fun a => a = p) H p c ∧ Dens K (fun a => a = p) H ds us ∧ SzH H ∧ LamX.Tabs Tb.T H ∧ G c ds = some (r, c') ∧
  ∀ u H', But p H H' → SzH H' → MDen K (fun _ => True) H' p c' → RDen K (Ex H) H H' r u → Q u H'
theorem RDen.sub {K : PySem.W.Frag} {B B' : Addr → Prop} {H H' : Hp} {r : R} {u : V} (h : RDen K B H H' r u) (hB : ∀ a, B' a → B a) : RDen K B' H H' r u := by
  cases r with
  | val d => exact Den.sub (fun a _ z => hB a z) h
  | own i => exact h
  | new d =>
    obtain ⟨a, e, hn, hm⟩ := h
    exact ⟨a, e, hn, hm.sub fun b _ z => z.elim (fun z => .inl (hB b z)) .inr⟩
theorem ADen.sub {K : PySem.W.Frag} {B B' : Addr → Prop} {H : Hp} {d : D} {v : V} (h : ADen K B H d v) (hB : ∀ a, (∃ o, H a = some o) → B' a → B a) : ADen K B' H d v := by
  cases d with
  | lst ds => obtain ⟨a, e, hm⟩ := h; exact ⟨a, e, hm.sub hB⟩
  | dct ks ds => obtain ⟨a, e, hm⟩ := h; exact ⟨a, e, hm.sub hB⟩
  | _ => exact Den.sub hB h
theorem ADens.sub {K : PySem.W.Frag} {B B' : Addr → Prop} {H : Hp} (hB : ∀ a, (∃ o, H a = some o) → B' a → B a) : ∀ {ds : List D} {vs : List V}, ADens K B H ds vs → ADens K B' H ds vs
  | [], _, h => h
  | d :: ds, vs, h => by
    obtain ⟨v, us, e, h1, h2⟩ := h
    exact ⟨v, us, e, h1.sub hB, ADens.sub hB h2⟩
theorem ADens.length {K : PySem.W.Frag} {B : Addr → Prop} {H : Hp} : ∀ {ds : List D} {vs : List V}, ADens K B H ds vs → ds.length = vs.length
  | [], vs, h => by
    have e : vs = [] := h
    subst e
    rfl
  | d :: ds, vs, h => by
    obtain ⟨v, us, rfl, _, h2⟩ := h
    rw [List.length_cons, List.length_cons, ADens.length h2]
theorem ADens.get {K : PySem.W.Frag} {B : Addr → Prop} {H : Hp} : ∀ {ds : List D} {vs : List V} {i : Nat} {d : D}, ADens K B H ds vs → ds[i]? = some d → ∃ v, vs[i]? = some v ∧ ADen K B H d v
  | [], _, _, _, _, e => by simp at e
  | d :: ds, vs, 0, d', h, e => by
    obtain ⟨v, r, rfl, h1, _⟩ := h
    have e' : d = d' := by simpa using e
    subst e'
    exact ⟨v, rfl, h1⟩
  | d :: ds, vs, i + 1, d', h, e => by
    obtain ⟨v, r, rfl, _, h2⟩ := h
    obtain ⟨u, e1, e2⟩ := ADens.get (i := i) h2 (by simpa using e)
    exact ⟨u, by simpa using e1, e2⟩
theorem ADen.den {K : PySem.W.Frag} {B : Addr → Prop} {H : Hp} {d : D} {v : V} (h : ADen K N0 H d v) (hB : ∀ a, ¬ B a) : Den K B H d v := by
  have sb : ∀ a, (∃ o, H a = some o) → B a → N0 a := fun a _ z => (hB a z).elim
  cases d with
  | lst ds =>
    obtain ⟨a, rfl, hm⟩ := h
    exact (hm.sub sb).den (hB a)
  | dct ks ds =>
    obtain ⟨a, rfl, hm⟩ := h
    exact (hm.sub sb).den (hB a)
  | _ => exact Den.sub sb h
section
variable {X : Cx} {O : List Nat} {e : Expr} {es : List Expr}
theorem g_call {F : List D → Option R} {fs : AF} (w : ∀ {t : TA}, PA X es t → PE X e (tCall (spP X.K F) [] E0 t)) (ha : GA X O es fs) : GE X O e (e_call F fs) := by
  refine PE.w (w ha.pa) fun σ H Q ⟨c, env, r0, env', hr, he, q⟩ => ?_
  obtain ⟨⟨rs, env1⟩, e2, h⟩ := Option.bind_eq_some_iff.mp he
  obtain ⟨ds, e4, h⟩ := Option.bind_eq_some_iff.mp h
  obtain ⟨z, e5, h⟩ := Option.bind_eq_some_iff.mp h
  cases h
  refine ⟨c, env, rs, _, hr, e2, fun N1 vs H1 q1 f1 d1 => ?_⟩
  have hA := d1.at q1 e4
  rw [← List.append_nil vs] at hA
  refine ⟨ds, _, hA.sub fun _ _ z => z.elim, q1.sz, q1.tab, e5, fun u H3 k hz hd => ?_⟩
  obtain ⟨N, q3, f3, d3⟩ := (hd.sub fun a z => bsome q1 a z).fin hr q1 k hz
  exact q N u H3 q3 f3 d3
theorem DenR.atx {K : PySem.W.Frag} {O : List Nat} {c : Cc} {env1 : En} {σ : L2.St} {H H1 : Hp} {N : Addr → Prop} {r : R} {v : V} {d : D} {i : Nat} {p : Addr} (hi : i ∈ O) (hp : σ[i]? = some (some (.ref p)))
    (h : DenR K O c.Z N σ H1 r v) (r1 : Rel K O (c.nu N O σ H) env1 σ H1) (e : r.atx i env1 = some d) : Den K (fun a => a = p) H1 d v := by
  have ow : Ow O σ p := ⟨i, hi, hp⟩
  have hb : ∀ a, (∃ o, H1 a = some o) → a = p → Bd O (Zu c.Z N) σ a := fun a _ z => by subst z; exact .inr ow
  cases r with
  | val d' =>
    have e' : d' = d := Option.some.inj e
    subst e'
    exact Den.sub hb h
  | new d' =>
    have e' : d' = d := Option.some.inj e
    subst e'
    obtain ⟨a, rfl, hn, hm⟩ := h
    exact (hm.sub hb).den fun z => by
      subst z
      exact (r1.own a ow).2.2 (.inr hn)
  | own j =>
    unfold R.atx at e
    simp only at e
    split at e
    · cases e
    · rename_i hj
      obtain ⟨h0, h1⟩ := h
      obtain ⟨u, e1, h2⟩ := r1.slot j d e
      rw [h1] at e1; cases e1
      rcases h2 with ⟨_, a, rfl, hm⟩ | ⟨h2, _⟩
      · exact (hm.sub hb).den fun z => by
          subst z
          exact hj (r1.dist j i a h0 hi h1 hp)
      · exact absurd h0 h2
theorem DenRs.atx {K : PySem.W.Frag} {O : List Nat} {c : Cc} {env1 : En} {σ : L2.St} {H H1 : Hp} {N : Addr → Prop} {i : Nat} {p : Addr} (hi : i ∈ O) (hp : σ[i]? = some (some (.ref p))) (r1 : Rel K O (c.nu N O σ H) env1 σ H1) :
    ∀ {rs : List R} {vs : List V} {ds : List D}, DenRs K O c.Z N σ H1 rs vs → R.atxs i rs env1 = some ds → Dens K (fun a => a = p) H1 ds vs
  | [], _, ds, h, e => by
    have e' : [] = ds := Option.some.inj e
    subst e'
    exact h
  | r :: rs, vs, ds, h, e => by
    obtain ⟨v, us, rfl, h1, h2⟩ := h
    obtain ⟨d, e1, e2⟩ := Option.bind_eq_some_iff.mp e
    obtain ⟨ds', e3, e4⟩ := Option.bind_eq_some_iff.mp e2
    cases e4
    exact ⟨v, us, rfl, h1.atx hi hp r1 e1, DenRs.atx hi hp r1 h2 e3⟩
/-- the slot's thing, where it owns one -/
theorem Rel.ownAt {K : PySem.W.Frag} {O : List Nat} {c : Cc} {env : En} {σ : L2.St} {H : Hp} {i : Nat} {d : D} (r : Rel K O c env σ H) (hi : i ∈ O) (e : env.g i = some d) : ∃ p, σ[i]? = some (some (.ref p)) ∧ MDen K (Bd O c.Z σ) H p d := by
  obtain ⟨v, e1, h1⟩ := r.slot i d e
  rcases h1 with ⟨_, a, rfl, h1⟩ | ⟨h0, _⟩
  · exact ⟨a, e1, h1⟩
  · exact absurd hi h0
theorem g_callM {G : D → List D → Option (R × D)} {fs : AF} {e0 : Expr} (i : Nat) (hn : PE X e0 (tVar i)) (hi : i ∈ O) (w : ∀ {t : TA}, PA X (e0 :: es) t → PE X e (tCall (spM X.K G) [] E0 t)) (ha : GA X O es fs)
    (hs : starEach (e0 :: es) X.env = (false, eval e0 X.env) :: starEach es X.env := by rfl) : GE X O e (e_callM G i fs) := by
  refine PE.w (w (pa_cons hn ha.pa hs)) fun σ H Q ⟨c, env, r0, env', hr, he, q⟩ => ?_
  obtain ⟨c00, e00, h⟩ := Option.bind_eq_some_iff.mp he
  obtain ⟨⟨rs, env1⟩, e2, h⟩ := Option.bind_eq_some_iff.mp h
  obtain ⟨ds, e4, h⟩ := Option.bind_eq_some_iff.mp h
  obtain ⟨c0, e5, h⟩ := Option.bind_eq_some_iff.mp h
  obtain ⟨⟨z, c1⟩, e6, h⟩ := Option.bind_eq_some_iff.mp h
  cases h
  obtain ⟨p, hp, _⟩ := hr.ownAt hi e00
  refine ⟨.ref p, hp, c, env, rs, env1, hr, e2, fun N1 vs H1 q1 f1 d1 => ?_⟩
  obtain ⟨p', hp', hm⟩ := q1.ownAt hi e5
  rw [hp] at hp'
  cases hp'
  have ow : Ow O σ p := ⟨i, hi, hp⟩
  have hb : ∀ a, (∃ o, H1 a = some o) → a = p → Bd O (Zu c.Z N1) σ a := fun a _ z => by subst z; exact .inr ow
  show spM X.K G (.ref p :: vs ++ []) H1 Q E0
  rw [List.append_nil]
  refine ⟨p, c0, ds, vs, _, _, rfl, hm.sub hb, d1.atx hi hp q1 e4, q1.sz, q1.tab, e6, fun u H3 k hz hc hd => ?_⟩
  have q3 : Rel X.K O (c.nu N1 O σ H) (env1.p i c1) σ H3 := q1.upd hi hp k hz (hc.sub fun a _ z => trivial)
  have q3' : Rel X.K O (c.nw O σ H) (env1.p i c1) σ H3 := q3.drop
  have hd' := hd.sub fun a z => bsome q1 a z
  cases z with
  | val d => exact q N0 u H3 q3'.n0 (fun _ z => z.elim) (Den.sub (fun a _ z => by
      rcases z with (z | z) | z
      · exact .inl (.inl z)
      · exact z.elim
      · exact .inr z) hd')
  | own j => exact hd.elim
  | new d =>
    obtain ⟨a, ea, hn, hma⟩ := hd
    have hap : a ≠ p := fun z => by
      subst z
      obtain ⟨o, e, _⟩ := q1.mut _ ow
      rw [hn] at e; cases e
    have hma' : MDen X.K (fun b => Bd O (Zu c.Z N1) σ b ∨ b = a) H3 a d := hma.sub fun b _ z => z.elim (fun z => .inl (bsome q1 b z)) .inr
    -- the new thing stays clear of all that was there
    have q4 : Rel X.K O (c.nu (fun b => b = a) O σ H) (env1.p i c1) σ H3 := by
      have hbb : ∀ b, (∃ o, H1 b = some o) → Bd O (Zu (Zu c.Z N1) (fun b => b = a)) σ b → Bd O (Zu c.Z N1) σ b := fun b ⟨o, e⟩ z => by
        rcases z with (z | z) | z
        · exact .inl z
        · subst z; rw [hn] at e; cases e
        · exact .inr z
      have kk : Keeps (fun b => b = p) H1 H3 := k.keep
      have hO : ∀ b, b = p → ∃ o, H1 b = some o ∧ Mut (some o) := fun b e => by subst e; exact q1.mut _ ow
      have hB : ∀ b, b = p → Bd O (Zu (Zu c.Z N1) (fun b => b = a)) σ b := fun b e => by subst e; exact .inr ow
      have q5 : Rel X.K O (⟨Zu (Zu c.Z N1) (fun b => b = a), H, Ow O σ, c.S0⟩ : Cc) (env1.p i c1) σ H3 := by
        refine ⟨q3.len, fun j d' e => ?_, q3.dist, fun b hb => ?_, q3.frame, q3.old, fun b hb => ?_, q3.s0, q3.sz, q3.tab⟩
        · rcases En.g_p e with ⟨rfl, rfl, hl⟩ | ⟨hj, e⟩
          · exact ⟨.ref p, hp, .inl ⟨hi, p, rfl, hc.sub fun b _ z => trivial⟩⟩
          · obtain ⟨u', e1, h1⟩ := q1.slot j d' e
            refine ⟨u', e1, ?_⟩
            rcases h1 with ⟨h0, b, e2, h1⟩ | ⟨h0, h1⟩
            · refine .inl ⟨h0, b, e2, (h1.sub hbb).keep kk hO hB fun z => ?_⟩
              subst z
              subst e2
              exact hj (q1.dist j i _ h0 hi e1 hp)
            · exact .inr ⟨h0, (h1.sub hbb).keep kk hO hB⟩
        · obtain ⟨w1, w2, w3⟩ := q3.own b hb
          refine ⟨w1, w2, fun z => z.elim w3 fun z => ?_⟩
          subst z
          obtain ⟨o, e, _⟩ := q1.mut _ hb
          rw [hn] at e; cases e
        · rcases hb with hb | hb
          · exact q3.zs b hb
          · subst hb
            obtain ⟨o, e, _⟩ := hma.at
            exact ⟨o, e⟩
      exact q5.less fun b z => z.elim (fun z => .inl (.inl z)) .inr
    refine q (fun b => b = a) u H3 q4 (fun b e => by subst e; exact hr.none_back q1.drop hn) ⟨a, ea, rfl, hma'.sub fun b _ z => ?_⟩
    rcases z with (z | z) | z
    · exact .inl (.inl (.inl z))
    · exact .inr z
    · exact .inl (.inr z)

/-! ### methods that change an owned thing -/
structure MethS (X : Cx) (id : String) (op : D → List D → Option (R × D)) : Prop where
  ex : ∃ r : V → List V → Hp → VK → Prop, MtR X id r ∧ ∀ (B : Addr → Prop) (H : Hp) (p : Addr) (c : D) (ds : List D) (z : R) (c' : D) (us : List V) (Q : VK), op c ds = some (z, c') → MDen X.K B H p c → B p → Dens X.K B H ds us → SzH H →
    (∀ u H', (∀ a o, H a = some o → a ≠ p → H' a = some o) → SzH H' → MDen X.K B H' p c' → (∃ d, z = .val d ∧ Den X.K B H' d u) → Q u H') → r (.ref p) us H Q

theorem w_meth {op : D → List D → Option (R × D)} {i : Nat} {fs : AF} {σ : L2.St} {H : Hp} {Q : VK} {r : V → List V → Hp → VK → Prop} (hi : i ∈ O)
    (hs : ∀ (B : Addr → Prop) (H : Hp) (p : Addr) (c : D) (ds : List D) (z : R) (c' : D) (us : List V) (Q : VK), op c ds = some (z, c') → MDen X.K B H p c → B p → Dens X.K B H ds us → SzH H →
      (∀ u H', (∀ a o, H a = some o → a ≠ p → H' a = some o) → SzH H' → MDen X.K B H' p c' → (∃ d, z = .val d ∧ Den X.K B H' d u) → Q u H') → r (.ref p) us H Q)
    (h : tE X.K O (e_meth op i fs) σ H Q) : tBM X.K "list" r (tVar i) (tA X.K O fs) σ H Q := by
  obtain ⟨c, env, r0, env', hr, he, q⟩ := h
  obtain ⟨c00, e00, h⟩ := Option.bind_eq_some_iff.mp he
  obtain ⟨l00, e0l, h⟩ := Option.bind_eq_some_iff.mp h
  obtain ⟨⟨rs, env1⟩, e2, h⟩ := Option.bind_eq_some_iff.mp h
  obtain ⟨ds, e4, h⟩ := Option.bind_eq_some_iff.mp h
  obtain ⟨c0, e5, h⟩ := Option.bind_eq_some_iff.mp h
  obtain ⟨⟨z, c1⟩, e6, h⟩ := Option.bind_eq_some_iff.mp h
  cases h
  obtain ⟨p, hp, hm0⟩ := hr.ownAt hi e00
  have ty : tyV X.K "list" (.ref p) H := by
    cases c00 with
    | lst ds => obtain ⟨vs, h1, _⟩ := hm0; exact .inl ⟨rfl, _, SqL.of h1⟩
    | _ => cases e0l
  refine ⟨.ref p, hp, ty, c, env, rs, env1, hr, e2, fun N1 vs H1 q1 f1 d1 => ?_⟩
  obtain ⟨p', hp', hm⟩ := q1.ownAt hi e5
  rw [hp] at hp'
  cases hp'
  have ow : Ow O σ p := ⟨i, hi, hp⟩
  have hb : ∀ a, (∃ o, H1 a = some o) → Bd O c.Z σ a → Bd O (Zu c.Z N1) σ a := fun a _ z => z.elim (fun z => .inl (.inl z)) .inr
  refine hs (Bd O c.Z σ) H1 p c0 ds z c1 vs Q e6 (hm.sub hb) (.inr ow) (d1.st hr f1 e4) q1.sz fun u H3 k hz hc hd => ?_
  obtain ⟨d, rfl, hd⟩ := hd
  have q3 : Rel X.K O (c.nw O σ H) (env1.p i c1) σ H3 := q1.drop.upd hi hp (but_of hm k) hz hc
  exact q N0 u H3 q3.n0 (fun _ z => z.elim) (Den.sub (fun a _ z => by
      rcases z with (z | z) | z
      · exact .inl z
      · exact z.elim
      · exact .inr z) hd)
theorem g_meth {id : String} {op : D → List D → Option (R × D)} {fs : AF} {e0 : Expr} (i : Nat) (hm : MethS X id op) (hn : PE X e0 (tVar i)) (ha : GA X O es fs)
    (w : ∀ {r : V → List V → Hp → VK → Prop} {to : TE} {t : TA}, MtR X id r → PE X e0 to → PA X es t → PE X e (tBM X.K "list" r to t)) (hi : i ∈ O := by decide) : GE X O e (e_meth op i fs) := by
  obtain ⟨r, hr, hs⟩ := hm.ex
  exact PE.w (w hr hn ha.pa) fun σ H Q h => w_meth hi hs h
theorem g_meth0 {id : String} {op : D → List D → Option (R × D)} {e0 : Expr} (i : Nat) (hm : MethS X id op) (hn : PE X e0 (tVar i))
    (w : ∀ {r : V → List V → Hp → VK → Prop} {to : TE}, MtR X id r → PE X e0 to → PE X e (tBM0 X.K "list" r to)) (hi : i ∈ O := by decide) : GE X O e (e_meth op i a_nil) := by
  obtain ⟨r, hr, hs⟩ := hm.ex
  refine PE.w (w hr hn) fun σ H Q h => ?_
  obtain ⟨v, e1, ty, c, env, rs, env', q0, q1, q2⟩ := w_meth hi hs h
  cases q1
  exact ⟨v, e1, ty, q2 N0 [] H q0.self.n0 (fun _ z => z.elim) rfl⟩
end

/-! ### statements -/
def RetD (K : PySem.W.Frag) (O : List Nat) (c : Cc) (e : En) (σ : L2.St) (H : Hp) (r : R) (v : V) : Prop := Rel K O c e σ H ∧ match r with
  | .val d => Den K N0 H d v
  | .own i => i ∈ O ∧ σ[i]? = some (some v)
  | .new d => ∃ a, v = .ref a ∧ c.H0 a = none ∧ MDen K N0 H a d
def OutD (K : PySem.W.Frag) (O : List Nat) (c : Cc) (D : Ends) : Out → Prop
  | .nx e => ∀ σ H, Rel K O c e σ H → D.nx σ H
  | .rt r e => ∀ v σ H, RetD K O c e σ H r v → D.rt v H
  | .bk e => ∀ σ H, Rel K O c e σ H → D.bk σ H
  | .ct e => ∀ σ H, Rel K O c e σ H → D.ct σ H
def tS (K : PySem.W.Frag) (O : List Nat) (f : SF) : TS := fun D σ H => ∃ c env o, Rel K O c env σ H ∧ f env = some o ∧ OutD K O c D o
section
variable {X : Cx} {O : List Nat} {st : Stmt} {sts : List Stmt} {e : Expr} {pos : Pos}
abbrev GS (X : Cx) (O : List Nat) (st : Stmt) (f : SF) : Prop := PS X st (tS X.K O f)
abbrev GSs (X : Cx) (O : List Nat) (st : List Stmt) (f : SF) : Prop := PSs X st (tS X.K O f)
theorem PS.w {t t' : TS} (h : PS X st t) (w : ∀ D σ H, t' D σ H → t D σ H) : PS X st t' := ⟨fun pins s σ H D I q => h.run pins s σ H D I (w D σ H q)⟩
theorem PSs.w {t t' : TS} (h : PSs X sts t) (w : ∀ D σ H, t' D σ H → t D σ H) : PSs X sts t' := ⟨fun pins s σ H D I q => h.run pins s σ H D I (w D σ H q)⟩
theorem gs_nil : GSs X O [] s_nil := by
  refine PSs.w pss_nil fun D σ H ⟨c, env, o, hr, he, q⟩ => ?_
  cases he
  exact q σ H hr
theorem gs_cons {f g : SF} (h1 : GS X O st f) (h2 : GSs X O sts g) : GSs X O (st :: sts) (s_seq f g) := by
  refine PSs.w (pss_cons h1 h2) fun D σ H ⟨c, env, o, hr, he, q⟩ => ?_
  obtain ⟨o1, e1, e2⟩ := Option.bind_eq_some_iff.mp he
  refine ⟨c, env, o1, hr, e1, ?_⟩
  cases o1 with
  | nx e => exact fun σ' H' r' => ⟨c, e, o, r', e2, q⟩
  | rt r e => cases e2; exact q
  | bk e => cases e2; exact q
  | ct e => cases e2; exact q
theorem gs_one {f : SF} (h : GS X O st f) : GSs X O [st] f := pss_one h
/-- a value stored at a plain slot: w is ps_set, or a rule for a comprehension -/
theorem gs_set {i : Nat} {f : EF} {t : TE} (h : PS X st (tAsg t (gName i))) (w : ∀ σ H Q, tE X.K O f σ H Q → t σ H Q) (hi : i ∉ O := by decide) : GS X O st (s_set i f) := by
  refine PS.w h fun D σ H ⟨c, env, o, hr, he, q⟩ => ?_
  obtain ⟨⟨r, env1⟩, e1, h⟩ := Option.bind_eq_some_iff.mp he
  obtain ⟨d, e2, h⟩ := Option.bind_eq_some_iff.mp h
  cases h
  refine w σ H _ ⟨c, env, r, env1, hr, e1, fun N v H1 q1 f1 d1 => ?_⟩
  exact q _ _ ((hr.trans q1.drop).set hi (d1.st hr f1 e2))
theorem gs_setO {i : Nat} {f : EF} {t : TE} (h : PS X st (tAsg t (gName i))) (w : ∀ σ H Q, tE X.K O f σ H Q → t σ H Q) (hi : i ∈ O := by decide) (hi0 : i ≠ 0 := by decide) : GS X O st (s_setO i f) := by
  refine PS.w h fun D σ H ⟨c, env, o, hr, he, q⟩ => ?_
  obtain ⟨⟨r, env1⟩, e1, h⟩ := Option.bind_eq_some_iff.mp he
  obtain ⟨d, e2, h⟩ := Option.bind_eq_some_iff.mp h
  cases h
  refine w σ H _ ⟨c, env, r, env1, hr, e1, fun N v H1 q1 f1 d1 => ?_⟩
  cases r with
  | val d => cases e2
  | own j => cases e2
  | new d' =>
    cases e2
    obtain ⟨a, rfl, hn, hm⟩ := d1
    have q2 := q1.setO hi hi0 hn (f1 a hn) (fun z => by
      obtain ⟨o, e⟩ := hr.zs a z
      rw [f1 a hn] at e; cases e) hm
    exact q _ _ (hr.transO (f1 a hn) (q2.less fun _ z => .inl z))
theorem gs_ex {f : EF} {t : TE} (h : PS X st (tDrop t)) (w : ∀ σ H Q, tE X.K O f σ H Q → t σ H Q) : GS X O st (s_ex f) := by
  refine PS.w h fun D σ H ⟨c, env, o, hr, he, q⟩ => ?_
  obtain ⟨⟨r, env1⟩, e1, h⟩ := Option.bind_eq_some_iff.mp he
  cases h
  exact w σ H _ ⟨c, env, r, env1, hr, e1, fun N v H1 q1 f1 d1 => q _ _ (hr.trans q1.drop)⟩
theorem gs_ret {f : EF} (h : GE X O e f) : GS X O (.Return (some e) pos) (s_ret f) := by
  refine PS.w (ps_ret h) fun D σ H ⟨c, env, o, hr, he, q⟩ => ?_
  obtain ⟨⟨r, env1⟩, e1, h⟩ := Option.bind_eq_some_iff.mp he
  cases h
  refine ⟨c, env, r, env1, hr, e1, fun N v H1 q1 f1 d1 => q v σ H1 ⟨hr.trans q1.drop, ?_⟩⟩
  have sb : ∀ {B : Addr → Prop} a, (∃ o, H1 a = some o) → N0 a → B a := fun _ _ z => z.elim
  cases r with
  | val d => exact Den.sub sb d1
  | own i => exact d1
  | new d =>
    obtain ⟨a, ea, hn, hm⟩ := d1
    refine ⟨a, ea, ?_, hm.sub sb⟩
    cases hq : c.H0 a with
    | none => rfl
    | some o =>
      obtain ⟨o', e'⟩ := hr.old a o hq
      rw [f1 a hn] at e'; cases e'
theorem gs_retN : GS X O (.Return none pos) s_retN := by
  refine PS.w ps_retN fun D σ H ⟨c, env, o, hr, he, q⟩ => ?_
  cases he
  exact q _ σ H ⟨hr, rfl⟩
theorem gs_if {t : Expr} {a b : List Stmt} {ft : TF} {fa fb : SF} (ht : GT X O t ft) (ha : GSs X O a fa) (hb : GSs X O b fb) : GS X O (.If t a b pos) (s_if ft fa fb) := by
  refine PS.w (ps_if ht ha hb) fun D σ H ⟨c, env, o, hr, he, q⟩ => ?_
  obtain ⟨⟨k, env1⟩, e1, h⟩ := Option.bind_eq_some_iff.mp he
  refine ⟨c, env, k, env1, hr, e1, fun H1 q1 => ?_⟩
  cases k with
  | true => exact iteT ⟨c, env1, o, hr.trans q1, h, q⟩
  | false => exact iteF ⟨c, env1, o, hr.trans q1, h, q⟩
theorem gs_brk : GS X O (.Break pos) s_brk := by
  refine PS.w ps_break fun D σ H ⟨c, env, o, hr, he, q⟩ => ?_
  cases he
  exact q σ H hr
theorem gs_cnt : GS X O (.Continue pos) s_cnt := by
  refine PS.w ps_continue fun D σ H ⟨c, env, o, hr, he, q⟩ => ?_
  cases he
  exact q σ H hr
theorem gs_pass : GS X O (.Pass pos) s_nil := by
  refine PS.w ps_pass fun D σ H ⟨c, env, o, hr, he, q⟩ => ?_
  cases he
  exact q σ H hr
theorem gs_never : GS X O st s_never := by
  refine PS.w ps_never fun D σ H ⟨c, env, o, hr, he, q⟩ => ?_
  cases he
end
end Mini

/-! ## MLoop -/
/-! Mini: targets, loops, comprehensions over the model. -/
namespace Mini
open PySem PySem.Spec PyProof.Rows L2
variable [Tb]

/-! ### targets -/
def Sl (vs : List Nat) (σ σ' : L2.St) : Prop := σ'.length = σ.length ∧ ∀ j, j ∉ vs → σ'[j]? = σ[j]?
def tG (K : PySem.W.Frag) (O : List Nat) (vs : List Nat) (g : GF) : TG := fun v σ H Q => ∃ c env d env', Rel K O c env σ H ∧ Den K (Bd O c.Z σ) H d v ∧ g d env = some env' ∧
  ∀ σ', Rel K O c env' σ' H → Sl vs σ σ' → Q σ' H
def tGs (K : PySem.W.Frag) (O : List Nat) (vs : List Nat) (gs : List GF) : TGs := fun us σ H Q => ∃ c env ds env', Rel K O c env σ H ∧ Dens K (Bd O c.Z σ) H ds us ∧ tg_s gs ds env = some env' ∧
  ∀ σ', Rel K O c env' σ' H → Sl vs σ σ' → Q σ' H
section
variable {X : Cx} {O : List Nat} {tg : Expr} {tgs : List Expr} {vs ws : List Nat} {pos : Pos}
theorem PG.w {t t' : TG} (h : PG X tg t) (w : ∀ v σ H Q, t' v σ H Q → t v σ H Q) : PG X tg t' := ⟨fun pins s σ H v u Q I r q => h.run pins s σ H v u Q I r (w v σ H Q q)⟩
theorem PGs.w {t t' : TGs} (h : PGs X tgs t) (w : ∀ v σ H Q, t' v σ H Q → t v σ H Q) : PGs X tgs t' := ⟨fun pins s σ H v u Q I r q => h.run pins s σ H v u Q I r (w v σ H Q q)⟩
abbrev GG (X : Cx) (O : List Nat) (vs : List Nat) (tg : Expr) (g : GF) : Prop := PG X tg (tG X.K O vs g)
abbrev GGs (X : Cx) (O : List Nat) (vs : List Nat) (tgs : List Expr) (gs : List GF) : Prop := PGs X tgs (tGs X.K O vs gs)
theorem gg_n (i : Nat) (h : PG X tg (gName i)) (hi : i ∉ O := by decide) : GG X O [i] tg (tg_n i) := by
  refine PG.w h fun v σ H Q ⟨c, env, d, env', hr, hd, he, q⟩ => ?_
  cases he
  exact q _ (hr.set hi hd) ⟨List.length_set, fun j hj => List.getElem?_set_ne (fun z => hj (by rw [z]; exact List.mem_singleton.mpr rfl))⟩
theorem gg_nil : GGs X O [] [] [] := by
  refine PGs.w pgs_nil fun us σ H Q ⟨c, env, ds, env', hr, hd, he, q⟩ => ?_
  cases ds with
  | nil =>
    cases he
    exact ⟨hd, q σ hr ⟨rfl, fun _ _ => rfl⟩⟩
  | cons d ds => cases he
theorem Ow.same {σ σ' : L2.St} (h : Sl vs σ σ') (hv : ∀ j ∈ vs, j ∉ O) {a : Addr} : Ow O σ' a ↔ Ow O σ a := by
  constructor
  · rintro ⟨j, hj, e⟩
    exact ⟨j, hj, (h.2 j fun z => hv j z hj) ▸ e⟩
  · rintro ⟨j, hj, e⟩
    exact ⟨j, hj, (h.2 j fun z => hv j z hj).trans e⟩
theorem gg_cons {g : GF} {gs : List GF} (h1 : GG X O vs tg g) (h2 : GGs X O ws tgs gs) (hv : ∀ j ∈ vs, j ∉ O := by decide)
    (hs : (assignEach (tg :: tgs) X.env).map (·.2) = assign tg X.env :: (assignEach tgs X.env).map (·.2) := by rfl) : GGs X O (vs ++ ws) (tg :: tgs) (g :: gs) := by
  refine PGs.w (pgs_cons h1 h2 hs) fun us σ H Q ⟨c, env, ds, env', hr, hd, he, q⟩ => ?_
  cases ds with
  | nil => cases he
  | cons d ds =>
    obtain ⟨v, r, rfl, hd1, hd2⟩ := hd
    obtain ⟨env1, e1, e2⟩ := Option.bind_eq_some_iff.mp he
    refine ⟨v, r, rfl, c, env, d, env1, hr, hd1, e1, fun σ1 q1 s1 => ⟨c, env1, ds, env', q1, Dens.sub (fun a _ z => z.elim .inl fun z => .inr ((Ow.same s1 hv).mp z)) hd2, e2, fun σ2 q2 s2 => ?_⟩⟩
    exact q σ2 q2 ⟨s2.1.trans s1.1, fun j hj => (s2.2 j fun z => hj (List.mem_append_right _ z)).trans (s1.2 j fun z => hj (List.mem_append_left _ z))⟩
theorem gg_t {es : List Expr} {k n : Nat} {gs : List GF} (h : GGs X O vs es gs) (w : ∀ {t : TGs}, PGs X es t → PG X tg (gTup X.K n t)) (hl : gs.length = n := by rfl) : GG X O vs tg (tg_t gs) := by
  refine PG.w (w h) fun v σ H Q ⟨c, env, d, env', hr, hd, he, q⟩ => ?_
  cases d with
  | tup ds =>
    obtain ⟨a, us, e, h1, h2⟩ := hd
    refine ⟨a, us, e, h1, ?_, c, env, ds, env', hr, h2, he, q⟩
    rw [← h2.length, ← hl]
    have len : ∀ (gs : List GF) (ds : List D) (e e' : En), tg_s gs ds e = some e' → ds.length = gs.length := by
      intro gs
      induction gs with
      | nil =>
        intro ds e e' h
        cases ds with
        | nil => rfl
        | cons d ds => cases h
      | cons g gs ih =>
        intro ds e e' h
        cases ds with
        | nil => cases h
        | cons d ds =>
          obtain ⟨e1, _, h2⟩ := Option.bind_eq_some_iff.mp h
          rw [List.length_cons, List.length_cons, ih ds e1 e' h2]
    exact len _ _ _ _ he
  | _ => cases he
/-- target = value, of any form -/
theorem gs_tgt {st : Stmt} {g : GF} {f : EF} {t : TE} {tg' : TG} (h : PS X st (tAsg t tg')) (w : ∀ σ H Q, tE X.K O f σ H Q → t σ H Q) (wg : ∀ v σ H Q, tG X.K O vs g v σ H Q → tg' v σ H Q) : GS X O st (s_tgt g f) := by
  refine PS.w h fun D σ H ⟨c, env, o, hr, he, q⟩ => ?_
  obtain ⟨⟨r, env1⟩, e1, h⟩ := Option.bind_eq_some_iff.mp he
  obtain ⟨d, e2, h⟩ := Option.bind_eq_some_iff.mp h
  obtain ⟨env2, e3, h⟩ := Option.bind_eq_some_iff.mp h
  cases h
  refine w σ H _ ⟨c, env, r, env1, hr, e1, fun N v H1 q1 f1 d1 => ?_⟩
  exact wg v σ H1 _ ⟨c, env1, d, env2, hr.trans q1.drop, d1.st hr f1 e2, e3, fun σ' q2 _ => q σ' H1 q2⟩
end

/-! ### what is walked -/
def ItD (K : PySem.W.Frag) (O : List Nat) (Z : Addr → Prop) (σ : L2.St) (H1 : Hp) (J : It) (ds : List D) : Prop :=
  ds.length ≤ sizeLine ∧ ∀ H', Keeps (Ow O σ) H1 H' → J.stop ds.length H' ∧
    ∀ i d, ds[i]? = some d → J.go i H' ∧ ∀ x H3, J.yld i H' x H3 → Same H' H3 ∧ (SzH H' → SzH H3) ∧ Den K (fun a => Bd O Z σ a ∨ H1 a = none) H3 d x
def tI (K : PySem.W.Frag) (O : List Nat) (it : IF) : TI := fun σ H R => ∃ c env ds env1, Rel K O c env σ H ∧ it env = some (ds, env1) ∧ ∀ J H1, Rel K O (c.nw O σ H) env1 σ H1 → ItD K O c.Z σ H1 J ds → R J H1
theorem RetD.trans {K : PySem.W.Frag} {O : List Nat} {c : Cc} {env1 e : En} {σ1 σ : L2.St} {H1 H : Hp} {r : R} {v : V} (r1 : Rel K O c env1 σ1 H1) (h : RetD K O (c.nw O σ1 H1) e σ H r v) : RetD K O c e σ H r v := by
  refine ⟨r1.trans h.1, ?_⟩
  cases r with
  | val d => exact h.2
  | own i => exact h.2
  | new d =>
    obtain ⟨a, ea, hn, hm⟩ := h.2
    refine ⟨a, ea, ?_, hm⟩
    cases hq : c.H0 a with
    | none => rfl
    | some o =>
      obtain ⟨o', e'⟩ := r1.old a o hq
      have hn' : H1 a = none := hn
      rw [hn'] at e'; cases e'
section
variable {X : Cx} {O : List Nat} {tg iter : Expr} {body : List Stmt} {vs : List Nat} {pos : Pos}
theorem w_for {it : IF} {g : GF} {b : SF} {D : Ends} {σ : L2.St} {H : Hp} (h : tS X.K O (s_for it g b) D σ H) : tFor (tI X.K O it) (tG X.K O vs g) (tS X.K O b) D σ H := by
  obtain ⟨c, env, o, hr, he, q⟩ := h
  obtain ⟨⟨ds, env1⟩, e1, h⟩ := Option.bind_eq_some_iff.mp he
  refine ⟨c, env, ds, env1, hr, e1, fun J H1 q1 hJ => ?_⟩
  have q1' : Rel X.K O c env1 σ H1 := hr.trans q1
  refine ⟨fun i m σ' H' => m = ds.length - i ∧ i ≤ ds.length ∧ ∃ env', Rel X.K O (c.nw O σ H1) env' σ' H' ∧ forLoop g b (ds.drop i) env' = some o, ⟨ds.length, by simp, Nat.zero_le _, env1, q1'.self, h⟩, ?_⟩
  rintro i m σ' H' ⟨rfl, hi, env', r', hl⟩
  obtain ⟨hJ1, hJ2⟩ := hJ
  obtain ⟨hst, hgo⟩ := hJ2 H' r'.keeps
  by_cases hlt : i < ds.length
  · obtain ⟨d, hd⟩ : ∃ d, ds[i]? = some d := ⟨_, List.getElem?_eq_getElem hlt⟩
    have hdrop : ds.drop i = d :: ds.drop (i + 1) := by
      rw [List.drop_eq_getElem_cons hlt]
      rw [List.getElem?_eq_getElem hlt] at hd
      rw [Option.some.inj hd]
    rw [hdrop] at hl
    obtain ⟨e2, he2, hl⟩ := Option.bind_eq_some_iff.mp hl
    obtain ⟨o2, he3, hl⟩ := Option.bind_eq_some_iff.mp hl
    obtain ⟨hgo1, hgo2⟩ := hgo i d hd
    refine .inr ⟨hgo1, fun σ'' H'' => ∃ env'', Rel X.K O (c.nw O σ H1) env'' σ'' H'' ∧ forLoop g b (ds.drop (i + 1)) env'' = some o, fun σ'' H'' hn => ⟨ds.length - (i + 1), by omega, rfl, hlt, hn⟩, fun x H3 hy => ?_⟩
    obtain ⟨k3, z3, d3⟩ := hgo2 x H3 hy
    have r3 : Rel X.K O (c.nw O σ H1) env' σ' H3 := (r'.grow (N := N0) k3 (z3 r'.sz) (fun _ z => z.elim) fun _ z => z.elim).less fun a z => .inl z
    refine ⟨c.nw O σ H1, env', d, e2, r3, Den.sub (fun a _ z => ?_) d3, he2, fun σ2 r2 _ => ⟨c.nw O σ H1, e2, o2, r2, he3, ?_⟩⟩
    · rcases z with z | z
      · exact .inl (.inl z)
      · rcases (r'.own a z).2.1 with w | w
        · exact .inr w
        · exact .inl (.inr w)
    · cases o2 with
      | nx e3 => exact fun σ4 H4 r4 => ⟨e3, r4, hl⟩
      | ct e3 => exact fun σ4 H4 r4 => ⟨e3, r4, hl⟩
      | bk e3 =>
        cases hl
        exact fun σ4 H4 r4 => q σ4 H4 (q1'.trans r4)
      | rt r e3 =>
        cases hl
        exact fun v σ4 H4 r4 => q v σ4 H4 (r4.trans q1')
  · have hi' : i = ds.length := by omega
    subst hi'
    rw [List.drop_length] at hl
    cases hl
    exact .inl ⟨hst, q _ _ (q1'.trans r')⟩
theorem gs_for {it : IF} {g : GF} {b : SF} (hi : PI X tg iter (tI X.K O it)) (hg : GG X O vs tg g) (hb : GSs X O body b) (hp : PassesOwn (model X.prog X.w) X.A X.env X.xe := by exact PassesOwn.never) (hc : X.calm = true := by rfl)
    (hs : ∀ x, foldedSetIterable iter X.env x = pure x := by intro _; rfl) : GS X O (.For tg iter body [] pos) (s_for it g b) :=
  PS.w (ps_for hp hc hi hg hb hs) fun D σ H h => w_for h
theorem gs_while {t : Expr} {ft : TF} {b : SF} (ht : GT X O t ft) (hb : GSs X O body b) (hp : PassesOwn (model X.prog X.w) X.A X.env X.xe := by exact PassesOwn.never) : GS X O (.While t body [] pos) (s_while ft b) := by
  refine PS.w (ps_while hp ht hb) fun D σ H ⟨c, env, o, hr, he, q⟩ => ?_
  refine ⟨fun m σ' H' => ∃ env', Rel X.K O c env' σ' H' ∧ whileLoop ft b m env' = some o, ⟨fuel, env, hr, he⟩, ?_⟩
  rintro m σ' H' ⟨env', r', hl⟩
  cases m with
  | zero => cases hl
  | succ m =>
    obtain ⟨⟨k, env1⟩, e1, hl⟩ := Option.bind_eq_some_iff.mp hl
    refine ⟨c, env', k, env1, r', e1, fun H1 q1 => ?_⟩
    have r1 := r'.trans q1
    cases k with
    | false =>
      cases hl
      exact iteF (q _ _ r1)
    | true =>
      obtain ⟨o2, e2, hl⟩ := Option.bind_eq_some_iff.mp hl
      refine iteT ⟨fun σ'' H'' => ∃ env'', Rel X.K O c env'' σ'' H'' ∧ whileLoop ft b m env'' = some o, fun σ'' H'' hn => ⟨m, Nat.lt_succ_self m, hn⟩, c, env1, o2, r1, e2, ?_⟩
      cases o2 with
      | nx e3 => exact fun σ4 H4 r4 => ⟨e3, r4, hl⟩
      | ct e3 => exact fun σ4 H4 r4 => ⟨e3, r4, hl⟩
      | bk e3 => cases hl; exact fun σ4 H4 r4 => q σ4 H4 r4
      | rt r e3 => cases hl; exact fun v σ4 H4 r4 => q v σ4 H4 r4
end
end Mini

/-! ## MComp -/
/-! Mini: comprehensions; a def's body keeps its promise. -/
namespace Mini
open PySem PySem.Spec PyProof.Rows L2
variable [Tb]

theorem wipe_get {σ : L2.St} {j : Nat} : ∀ {vs : List Nat}, (L2.wipe σ vs)[j]? = if j ∈ vs then (σ[j]?).map fun _ => none else σ[j]?
  | [] => by simp [L2.wipe]
  | v :: vs => by
    unfold L2.wipe
    rw [List.getElem?_set]
    have ih := wipe_get (σ := σ) (j := j) (vs := vs)
    by_cases h : v = j
    · subst h
      rw [if_pos rfl, if_pos List.mem_cons_self]
      by_cases hl : v < σ.length
      · rw [if_pos (by rw [wipe_length]; exact hl), List.getElem?_eq_getElem hl]
        rfl
      · rw [if_neg (by rw [wipe_length]; exact hl), List.getElem?_eq_none (by omega)]
        rfl
    · rw [if_neg h, ih]
      have : (j ∈ v :: vs) ↔ j ∈ vs := by
        rw [List.mem_cons]
        exact ⟨fun z => z.elim (fun z => absurd z.symm h) (fun z => z), .inr⟩
      by_cases hj : j ∈ vs
      · rw [if_pos hj, if_pos (this.mpr hj)]
      · rw [if_neg hj, if_neg fun z => hj (this.mp z)]
theorem En.wipe_length (e : En) : ∀ vs : List Nat, (e.wipe vs).length = e.length
  | [] => rfl
  | v :: vs => by unfold En.wipe; rw [List.length_set, En.wipe_length e vs]
theorem En.wipe_g {e : En} {j : Nat} {d : D} : ∀ {vs : List Nat}, (e.wipe vs).g j = some d → e.g j = some d ∧ j ∉ vs
  | [], h => ⟨h, by simp⟩
  | v :: vs, h => by
    unfold En.wipe En.g at h
    by_cases hj : v = j
    · subst hj
      by_cases hl : v < (e.wipe vs).length
      · rw [List.getElem?_set_self hl] at h; cases h
      · rw [List.getElem?_eq_none (by simpa using hl)] at h; cases h
    · rw [List.getElem?_set_ne hj] at h
      obtain ⟨h1, h2⟩ := En.wipe_g (vs := vs) h
      exact ⟨h1, by simp only [List.mem_cons, not_or]; exact ⟨fun z => hj z.symm, h2⟩⟩
theorem En.back_length (o e : En) : ∀ vs : List Nat, (En.back o e vs).length = e.length
  | [] => rfl
  | v :: vs => by unfold En.back; rw [List.length_set, En.back_length o e vs]
theorem En.back_g {o e : En} {j : Nat} {d : D} : ∀ {vs : List Nat}, (En.back o e vs).g j = some d → (j ∈ vs ∧ o.g j = some d) ∨ (j ∉ vs ∧ e.g j = some d)
  | [], h => .inr ⟨by simp, h⟩
  | v :: vs, h => by
    unfold En.back En.g at h
    by_cases hj : v = j
    · subst hj
      by_cases hl : v < (En.back o e vs).length
      · rw [List.getElem?_set_self hl] at h
        exact .inl ⟨List.mem_cons_self, h⟩
      · rw [List.getElem?_eq_none (by simpa using hl)] at h; cases h
    · rw [List.getElem?_set_ne hj] at h
      rcases En.back_g (vs := vs) h with ⟨h1, h2⟩ | ⟨h1, h2⟩
      · exact .inl ⟨List.mem_cons_of_mem _ h1, h2⟩
      · exact .inr ⟨by simp only [List.mem_cons, not_or]; exact ⟨fun z => hj z.symm, h1⟩, h2⟩
section
variable {K : PySem.W.Frag} {O : List Nat} {c : Cc} {env env1 env2 : En} {σ : L2.St} {H H1 H' : Hp} {Z N : Addr → Prop} {H0 : Hp} {Pm : Addr → Prop} {S0 : Option (Option V)} {vs : List Nat}
theorem Ow.wipe (hv : ∀ j ∈ vs, j ∉ O) {a : Addr} : Ow O (L2.wipe σ vs) a ↔ Ow O σ a := by
  constructor
  · rintro ⟨j, hj, e⟩
    refine ⟨j, hj, ?_⟩
    rw [wipe_get, if_neg fun z => hv j z hj] at e
    exact e
  · rintro ⟨j, hj, e⟩
    refine ⟨j, hj, ?_⟩
    rw [wipe_get, if_neg fun z => hv j z hj]
    exact e
theorem Rel.wipe (r : Rel K O ⟨Z, H0, Pm, S0⟩ env σ H) (hv : ∀ j ∈ vs, j ∉ O) : Rel K O ⟨Z, H0, Pm, S0⟩ (env.wipe vs) (L2.wipe σ vs) H := by
  have hb : ∀ a, (∃ o, H a = some o) → Bd O Z (L2.wipe σ vs) a → Bd O Z σ a := fun a _ z => z.elim .inl fun z => .inr ((Ow.wipe hv).mp z)
  have nv : ∀ {j}, j ∉ vs → (L2.wipe σ vs)[j]? = σ[j]? := fun {j} h => by rw [wipe_get, if_neg h]
  refine ⟨by rw [En.wipe_length, wipe_length]; exact r.len, fun j d e => ?_, fun j k a hj hk e1 e2 => ?_, fun a h => r.own a ((Ow.wipe hv).mp h), r.frame, r.old, r.zs, fun h => (nv fun z => hv 0 z h).trans (r.s0 h), r.sz, r.tab⟩
  · obtain ⟨e1, hj⟩ := En.wipe_g e
    obtain ⟨v, e2, h⟩ := r.slot j d e1
    refine ⟨v, (nv hj).trans e2, ?_⟩
    rcases h with ⟨h0, a, e3, h⟩ | ⟨h0, h⟩
    · exact .inl ⟨h0, a, e3, h.sub hb⟩
    · exact .inr ⟨h0, h.sub hb⟩
  · exact r.dist j k a hj hk ((nv fun z => hv j z hj).symm.trans e1) ((nv fun z => hv k z hk).symm.trans e2)
/-- the block's names as they were -/
theorem Rel.back (r0 : Rel K O c env1 σ H1) (r : Rel K O (c.nu N O σ H1) env2 (L2.wipe σ vs) H) (hN : ∀ b, N b → H1 b = none) (hv : ∀ j ∈ vs, j ∉ O) : Rel K O (c.nu N O σ H1) (En.back env1 env2 vs) σ H := by
  have hb : ∀ a, (∃ o, H a = some o) → Bd O (Zu c.Z N) σ a → Bd O (Zu c.Z N) (L2.wipe σ vs) a := fun a _ z => z.elim .inl fun z => .inr ((Ow.wipe hv).mpr z)
  have nv : ∀ {j}, j ∉ vs → (L2.wipe σ vs)[j]? = σ[j]? := fun {j} h => by rw [wipe_get, if_neg h]
  have k : Keeps (Ow O σ) H1 H := r.frame
  refine ⟨by rw [En.back_length, r.len, wipe_length], fun j d e => ?_, fun j k a hj hk e1 e2 => ?_, fun a h => r.own a ((Ow.wipe hv).mpr h), r.frame, r.old, r.zs, fun h => (nv fun z => hv 0 z h).symm.trans (r.s0 h), r.sz, r.tab⟩
  · rcases En.back_g e with ⟨h1, h2⟩ | ⟨h1, h2⟩
    · obtain ⟨v, e2, h⟩ := r0.slot j d h2
      refine ⟨v, e2, ?_⟩
      rcases h with ⟨h0, _⟩ | ⟨h0, h⟩
      · exact absurd h0 (hv j h1)
      · refine .inr ⟨h0, Den.keep k r0.mut (fun a z => .inr z) (Den.sub (fun a ⟨o, e⟩ z => ?_) h)⟩
        rcases z with (z | z) | z
        · exact .inl z
        · rw [hN a z] at e; cases e
        · exact .inr z
    · obtain ⟨v, e2, h⟩ := r.slot j d h2
      refine ⟨v, (nv h1).symm.trans e2, ?_⟩
      rcases h with ⟨h0, a, e3, h⟩ | ⟨h0, h⟩
      · exact .inl ⟨h0, a, e3, h.sub hb⟩
      · exact .inr ⟨h0, h.sub hb⟩
  · exact r.dist j k a hj hk ((nv fun z => hv j z hj).trans e1) ((nv fun z => hv k z hk).trans e2)
/-- a thing of Z has changed -/
theorem Rel.updZ {p : Addr} {o' : HO} (r : Rel K O ⟨Z, H0, Pm, S0⟩ env σ H) (hp : Z p) (m : ∃ xs, H p = some (.lst xs)) (h0 : H0 p = none) (hz : SzH (L2.upd H p o')) : Rel K O ⟨Z, H0, Pm, S0⟩ env σ (L2.upd H p o') := by
  have kk : Keeps (fun a => a = p) H (L2.upd H p o') := fun a o e _ n => by rw [upd_ne n]; exact e
  have hO : ∀ a, a = p → ∃ o, H a = some o ∧ Mut (some o) := fun a e => by subst e; obtain ⟨xs, m⟩ := m; exact ⟨_, m, trivial⟩
  have hB : ∀ a, a = p → Bd O Z σ a := fun a e => by subst e; exact .inl hp
  have no : ∀ a, Ow O σ a → a ≠ p := fun a h z => (r.own a h).2.2 (by rw [z]; exact hp)
  refine ⟨r.len, fun j d e => ?_, r.dist, fun a h => ?_, fun a o e nt n => ?_, fun a o e => ?_, fun a h => ?_, r.s0, hz, fun x hx => TabS.but (p := p) (t := r.tab x hx) (fun a o e n => by rw [upd_ne n]; exact e) (m.elim fun xs m => ⟨_, m, trivial, fun c q z => by unfold LamX.CodeO at z; cases z⟩)⟩
  · obtain ⟨v, e1, h⟩ := r.slot j d e
    refine ⟨v, e1, ?_⟩
    rcases h with ⟨h1, a, e2, h⟩ | ⟨h1, h⟩
    · subst e2
      exact .inl ⟨h1, a, rfl, h.keep kk hO hB (no a ⟨j, h1, e1⟩)⟩
    · exact .inr ⟨h1, h.keep kk hO hB⟩
  · obtain ⟨⟨o, e, m⟩, q2, q3⟩ := r.own a h
    exact ⟨⟨o, by rw [upd_ne (no a h)]; exact e, m⟩, q2, q3⟩
  · have e' : H0 a = some o := e
    have : a ≠ p := fun z => by subst z; rw [h0] at e'; cases e'
    rw [upd_ne this]
    exact r.frame a o e nt n
  · by_cases ha : a = p
    · subst ha; exact ⟨_, upd_same⟩
    · rw [upd_ne ha]; exact r.old a o e
  · by_cases ha : a = p
    · subst ha; exact ⟨_, upd_same⟩
    · rw [upd_ne ha]; exact r.zs a h
end

section
variable {X : Cx} {O : List Nat} {vs : List Nat}
theorem wipe_eq {σ σ' : L2.St} (hs : Sl vs σ σ') : L2.wipe σ' vs = L2.wipe σ vs := by
  obtain ⟨hl, h⟩ := hs
  apply List.ext_getElem?
  intro j
  rw [wipe_get, wipe_get]
  by_cases hj : j ∈ vs
  · rw [if_pos hj, if_pos hj]
    by_cases h1 : j < σ.length
    · rw [List.getElem?_eq_getElem h1, List.getElem?_eq_getElem (by omega)]
      rfl
    · rw [List.getElem?_eq_none (by omega), List.getElem?_eq_none (by omega)]
  · rw [if_neg hj, if_neg hj, h j hj]
theorem wipe_wipe {σ : L2.St} : L2.wipe (L2.wipe σ vs) vs = L2.wipe σ vs := by
  apply List.ext_getElem?
  intro j
  rw [wipe_get, wipe_get]
  by_cases hj : j ∈ vs
  · rw [if_pos hj, if_pos hj]
    cases σ[j]? <;> rfl
  · rw [if_neg hj, if_neg hj]
theorem w_lc {it : IF} {g : GF} {t : TF} {f : EF} {σ : L2.St} {H : Hp} {Q : VK} (hv : ∀ j ∈ vs, j ∉ O) (h : tE X.K O (e_lc it g t f vs) σ H Q) : tLc (tI X.K O it) (tG X.K O vs g) (tT X.K O t) (tE X.K O f) vs σ H Q := by
  obtain ⟨c, env, r, env', hr, he, q⟩ := h
  obtain ⟨⟨ds, env1⟩, e1, h⟩ := Option.bind_eq_some_iff.mp he
  obtain ⟨⟨ys, env2⟩, e2, h⟩ := Option.bind_eq_some_iff.mp h
  cases h
  refine ⟨c, env, ds, env1, hr, e1, fun J H1 q1 hJ L hL => ?_⟩
  have q1' : Rel X.K O c env1 σ H1 := hr.trans q1
  have hN : ∀ b, b = L → H1 b = none := fun b e => by subst e; exact hL
  -- what a turn finds
  let c3 : Cc := ⟨Zu c.Z (fun b => b = L), H1, Ow O σ, c.S0⟩
  let B : Addr → Prop := Bd O (Zu c.Z (fun b => b = L)) σ
  have hBw : ∀ a, Bd O c3.Z (L2.wipe σ vs) a → B a := fun a z => z.elim .inl fun z => .inr ((Ow.wipe hv).mp z)
  have hBw' : ∀ a, B a → Bd O c3.Z (L2.wipe σ vs) a := fun a z => z.elim .inl fun z => .inr ((Ow.wipe hv).mpr z)
  have r0 : Rel X.K O c3 (env1.wipe vs) (L2.wipe σ vs) (upd H1 L (.lst [])) := by
    have := (q1'.self).grow (N := fun b => b = L) (same_new hL) (sz_lst q1.sz (show ([] : List V).length ≤ sizeLine from Nat.zero_le _)) hN fun b e => by subst e; exact ⟨_, upd_same⟩
    exact this.wipe hv
  refine ⟨fun i m H' => m = ds.length - i ∧ i ≤ ds.length ∧ ∃ acc done rest e', H' L = some (.lst acc) ∧ done ++ rest = ys ∧ lcLoop g t f vs (ds.drop i) e' = some (rest, env2) ∧ Dens X.K B H' done acc ∧ acc.length ≤ i ∧ Rel X.K O c3 e' (L2.wipe σ vs) H',
    ⟨ds.length, by simp, Nat.zero_le _, [], [], ys, _, upd_same, rfl, e2, rfl, Nat.le_refl _, r0⟩, ?_⟩
  rintro i m H' ⟨rfl, hi, acc, done, rest, e', hA, hys, hl, hd, hal, r'⟩
  have kp : Keeps (Ow O σ) H1 H' := r'.frame
  obtain ⟨hJ1, hJ2⟩ := hJ
  obtain ⟨hst, hgo⟩ := hJ2 H' kp
  by_cases hlt : i < ds.length
  · obtain ⟨d, hd1⟩ : ∃ d, ds[i]? = some d := ⟨_, List.getElem?_eq_getElem hlt⟩
    have hdrop : ds.drop i = d :: ds.drop (i + 1) := by
      rw [List.drop_eq_getElem_cons hlt]
      rw [List.getElem?_eq_getElem hlt] at hd1
      rw [Option.some.inj hd1]
    rw [hdrop] at hl
    obtain ⟨e3, he3, hl⟩ := Option.bind_eq_some_iff.mp hl
    obtain ⟨⟨k, e4⟩, he4, hl⟩ := Option.bind_eq_some_iff.mp hl
    obtain ⟨hgo1, hgo2⟩ := hgo i d hd1
    refine .inr ⟨hgo1, fun H'' => ∃ acc done rest e', H'' L = some (.lst acc) ∧ done ++ rest = ys ∧ lcLoop g t f vs (ds.drop (i + 1)) e' = some (rest, env2) ∧ Dens X.K B H'' done acc ∧ acc.length ≤ i + 1 ∧ Rel X.K O c3 e' (L2.wipe σ vs) H'',
      fun H'' hn => ⟨ds.length - (i + 1), by omega, rfl, hlt, hn⟩, fun x H3 hy => ?_⟩
    obtain ⟨k3, z3, d3⟩ := hgo2 x H3 hy
    have r3 : Rel X.K O c3 e' (L2.wipe σ vs) H3 := (r'.grow (N := N0) k3 (z3 r'.sz) (fun _ z => z.elim) fun _ z => z.elim).less fun a z => .inl z
    have hden : Den X.K (Bd O c3.Z (L2.wipe σ vs)) H3 d x := Den.sub (fun a _ z => by
      rcases hBw a z with (z | z) | z
      · exact .inl (.inl z)
      · subst z; exact .inr hL
      · exact .inl (.inr z)) d3
    refine ⟨c3, e', d, e3, r3, hden, he3, fun σ2 r2 s2 => ?_⟩
    have hw2 : L2.wipe σ2 vs = L2.wipe σ vs := (wipe_eq s2).trans wipe_wipe
    have ow2 : ∀ a, Ow O σ2 a ↔ Ow O σ a := fun a => (Ow.same s2 hv).trans (Ow.wipe hv)
    have nL : ∀ {e4 : En} {H4 : Hp}, Rel X.K O c3 e4 σ2 H4 → ¬ Ow O σ2 L := fun r z => (r.own L z).2.2 (.inr rfl)
    have hA3 : H3 L = some (.lst acc) := k3.keep L _ hA ntL
    have dd3 : Dens X.K B H3 done acc := Dens.keep (O := fun _ => False) (fun a o e n _ => k3.keep a o e n) (fun _ z => z.elim) (fun _ z => z.elim) hd
    -- the list as it stands behind an evaluation
    have along : ∀ {e4 : En} {c4 : Cc} {N4 : Addr → Prop} {H4 H5 : Hp} {e5 : En}, H4 L = some (.lst acc) → Dens X.K B H4 done acc → Rel X.K O c3 e4 σ2 H4 → Rel X.K O (c3.nu N4 O σ2 H4) e5 σ2 H5 → H5 L = some (.lst acc) ∧ Dens X.K B H5 done acc :=
      fun {e4 c4 N4 H4 H5 e5} hA4 hd4 r4 r5 => ⟨r5.frame L _ hA4 ntL (nL r4), Dens.keep (O := Ow O σ2) r5.frame r4.mut (fun a z => .inr ((ow2 a).mp z)) hd4⟩
    refine ⟨hw2, c3, e3, k, e4, r2, he4, fun H5 q5 => ?_⟩
    obtain ⟨hA5, hd5⟩ := along (c4 := c3) (N4 := N0) hA3 dd3 r2 q5.n0
    have r5 : Rel X.K O c3 e4 σ2 H5 := r2.trans q5
    cases k with
    | false =>
      refine iteF ⟨acc, done, rest, _, hA5, hys, hl, hd5, by omega, ?_⟩
      have := r5.wipe hv
      rw [hw2] at this
      exact this
    | true =>
      obtain ⟨⟨r, e6⟩, he6, hl⟩ := Option.bind_eq_some_iff.mp hl
      obtain ⟨y, hy6, hl⟩ := Option.bind_eq_some_iff.mp hl
      obtain ⟨⟨rest', e7⟩, he7, hl⟩ := Option.bind_eq_some_iff.mp hl
      cases hl
      refine iteT ⟨c3, e4, r, e6, r5, he6, fun N6 v H6 q6 f6 d6 => ?_⟩
      obtain ⟨hA6, hd6⟩ := along (c4 := c3) (N4 := N6) hA5 hd5 r5 q6
      have hz6 : acc.length < sizeLine := by omega
      have r6 : Rel X.K O c3 e6 σ2 H6 := r5.trans q6.drop
      have dy : Den X.K (Bd O c3.Z σ2) H6 y v := d6.st r5 f6 hy6
      have kk : Keeps (fun a => a = L) H6 (upd H6 L (.lst (acc ++ [v]))) := fun a o e _ n => by rw [upd_ne n]; exact e
      have hO : ∀ a, a = L → ∃ o, H6 a = some o ∧ Mut (some o) := fun a e => by subst e; exact ⟨_, hA6, trivial⟩
      have hB : ∀ a, a = L → B a := fun a e => .inl (.inr e)
      have hzz : SzH (upd H6 L (.lst (acc ++ [v]))) := sz_lst r6.sz (by rw [List.length_append]; exact hz6)
      refine ⟨acc, hA6, hz6, acc ++ [v], done ++ [y], rest', _, upd_same, by rw [List.append_assoc]; exact hys, he7, ?_, by rw [List.length_append]; exact Nat.succ_le_succ hal, ?_⟩
      · refine Dens.append (Dens.keep kk hO hB hd6) ⟨v, [], rfl, Den.keep kk hO hB (Den.sub (fun a _ z => ?_) dy), rfl⟩
        rcases z with z | z
        · exact .inl z
        · exact .inr ((ow2 a).mpr z)
      · have := (r6.updZ (p := L) (o' := .lst (acc ++ [v])) (.inr rfl) ⟨_, hA6⟩ hL hzz).wipe hv
        rw [hw2] at this
        exact this
  · have hi' : i = ds.length := by omega
    subst hi'
    rw [List.drop_length] at hl
    cases hl
    rw [List.append_nil] at hys
    subst hys
    refine .inl ⟨hst, ?_⟩
    have q2 : Rel X.K O (c.nu (fun b => b = L) O σ H1) (En.back env1 env2 vs) σ H' := q1'.back (c := c) (N := fun b => b = L) r' hN hv
    have q3 : Rel X.K O (c.nu (fun b => b = L) O σ H) (En.back env1 env2 vs) σ H' := hr.tr q1 q2
    exact q (fun b => b = L) (.ref L) H' q3 (fun b e => hr.none_back q1 (hN b e)) ⟨L, rfl, rfl, acc, hA, hd⟩

/-- [elt for target in iter if ..] as a value: w is pe_lc, filled -/
theorem g_lc {e : Expr} {it : IF} {g : GF} {t : TF} {f : EF} (h : PE X e (tLc (tI X.K O it) (tG X.K O vs g) (tT X.K O t) (tE X.K O f) vs)) (hv : ∀ j ∈ vs, j ∉ O := by decide) : GE X O e (e_lc it g t f vs) :=
  PE.w h fun σ H Q q => w_lc hv q
theorem PTs.w {ifs : List Expr} {t t' : TT} (h : PTs X ifs t) (w : ∀ σ H Q, t' σ H Q → t σ H Q) : PTs X ifs t' := ⟨fun pins s σ H Q I q => h.run pins s σ H Q I (w σ H Q q)⟩
theorem g_yes : PTs X [] (tT X.K O t_yes) := by
  refine PTs.w pts_nil fun σ H Q ⟨c, env, k, env', hr, he, q⟩ => ?_
  cases he
  exact q H hr.self

/-! ### what a comprehension or a for walks -/
theorem PI.w {tg iter : Expr} {t t' : TI} (h : PI X tg iter t) (w : ∀ σ H R, t' σ H R → t σ H R) : PI X tg iter t' := ⟨fun pins s σ H R I q => h.run pins s σ H R I (w σ H R q)⟩
end

/-! ### a def's body keeps its promise -/
section
variable {P : Program} {w : World} {K : PySem.W.Frag} {mg : Str → Option Value} {base : Heap} {O : List Nat}
theorem g_start {ds : List D} {k : Nat} {i : Nat} {d : D} (h : En.g (ds.map some ++ List.replicate k none) i = some d) : ds[i]? = some d := by
  unfold En.g at h
  by_cases hi : i < ds.length
  · rw [List.getElem?_append_left (by rw [List.length_map]; exact hi), List.getElem?_map] at h
    cases hq : ds[i]? with
    | none => rw [hq] at h; cases h
    | some d' => rw [hq] at h; exact h
  · rw [List.getElem?_append_right (by rw [List.length_map]; omega), List.getElem?_replicate] at h
    split at h <;> cases h
theorem start_get {N : List Str} {vs : List V} {i : Nat} {v : V} (h : vs[i]? = some v) : (start N vs)[i]? = some (some v) := by
  unfold L2.start
  have hi : i < vs.length := by
    rcases Nat.lt_or_ge i vs.length with h' | h'
    · exact h'
    · rw [List.getElem?_eq_none h'] at h; cases h
  rw [List.getElem?_append_left (by rw [List.length_map]; exact hi), List.getElem?_map, h]
  rfl
theorem start_ow {N : List Str} {vs : List V} {a : Addr} (h : Ow O (start N vs) a) : ∃ i, i ∈ O ∧ vs[i]? = some (.ref a) := by
  obtain ⟨i, hi, e⟩ := h
  refine ⟨i, hi, ?_⟩
  unfold L2.start at e
  by_cases hl : i < vs.length
  · rw [List.getElem?_append_left (by rw [List.length_map]; exact hl), List.getElem?_map] at e
    cases hq : vs[i]? with
    | none => rw [hq] at e; cases e
    | some v => rw [hq] at e; cases e; rfl
  · rw [List.getElem?_append_right (by rw [List.length_map]; omega), List.getElem?_replicate] at e
    split at e <;> cases e
theorem Fun.okC {x qual : Str} {st : Stmt} {f : Addr} {fd : FuncData} {N ps : List Str} {k : Nat} {sp : Sp} (F : Fun K x qual st f fd) (S : FnScope N ps (defScope st)) (hl : ∀ vs H Q E, sp vs H Q E → vs.length = ps.length)
    (hb : ∀ (cdv : Value) (A : Around) (outer : List Env) (s : Shared) (H : Hp) (vs : List V) (Q : VK) (E : XK), fd.code = cdv → Room k (A.deeper (envOfC qual (defScope st) s.heap.objs.size f cdv)) → sp vs H Q E →
      ∃ t, PSs (cxOf CX0 P w K mg base N qual (defScope st) f cdv A outer s H E).nox (defBody st) t ∧ t ⟨fun _ H' => Q .non H', Q, fun _ _ => False, fun _ _ => False⟩ (start N vs) H) : FnOk P w K mg base CX0 (k + 1) f fd ps sp := by
  obtain ⟨oc, od, kV, doc, pm, an, cdv, ct, osl, e, lk, hcd⟩ := F.ex
  subst e
  refine fn_of lk hcd S hl fun A outer s H vs Q E hr h1 => ?_
  obtain ⟨t, h2, q⟩ := hb cdv A outer s H vs Q E rfl hr h1
  exact ⟨t, h2.nox, q⟩
theorem fn_ok {x qual : Str} {st : Stmt} {f : Addr} {fd : FuncData} {N ps : List Str} {k m n : Nat} {b : SF} (F : Fun K x qual st f fd) (S : FnScope N ps (defScope st)) (hO : (O.all fun i => decide (m ≤ i)) = true) (hm : ps.length = m) (hn : N.length = n) (hmn : m ≤ n)
    (hb : ∀ (cdv : Value) (A : Around) (outer : List Env) (s : Shared) (H : Hp) (E : XK), fd.code = cdv → Room k (A.deeper (envOfC qual (defScope st) s.heap.objs.size f cdv)) →
      GSs (cxOf CX0 P w K mg base N qual (defScope st) f cdv A outer s H E).nox O (defBody st) b) : FnOk P w K mg base CX0 (k + 1) f fd ps (spP K (fn m n b)) := by
  have hlen : ∀ {ds : List D} {r : R}, fn m n b ds = some r → ds.length = m := fun {ds r} h => by
    unfold fn at h
    split at h
    · assumption
    · cases h
  refine Fun.okC F S (fun vs H Q E h => ?_) (fun cdv A outer s H vs Q E hc hr h => ?_)
  · obtain ⟨ds, r, h1, _, _, h2, _⟩ := h
    rw [← h1.length, hlen h2, hm]
  · obtain ⟨ds, r, h1, hz, ht, h2, q⟩ := h
    have hl := hlen h2
    refine ⟨_, hb cdv A outer s H E hc hr, ?_⟩
    unfold fn at h2
    rw [if_pos hl] at h2
    obtain ⟨o, e1, e2⟩ := Option.bind_eq_some_iff.mp h2
    have nOw : ∀ a, ¬ Ow O (start N vs) a := fun a z => by
      obtain ⟨i, hi, e⟩ := start_ow z
      have h3 := of_decide_eq_true (List.all_eq_true.mp hO i hi)
      have h4 : i < vs.length := by
        rcases Nat.lt_or_ge i vs.length with h' | h'
        · exact h'
        · rw [List.getElem?_eq_none h'] at e; cases e
      rw [← h1.length, hl] at h4
      omega
    let c : Cc := ⟨N0, H, N0, (start N vs)[0]?⟩
    have nB : ∀ a, ¬ Bd O N0 (start N vs) a := fun a z => z.elim (fun z => z) (nOw a)
    have r0 : Rel K O c (ds.map some ++ List.replicate (n - m) none) (start N vs) H := by
      refine ⟨?_, fun i d e => ?_, fun i j a hi _ e _ => (nOw a ⟨i, hi, e⟩).elim, fun a z => (nOw a z).elim, fun a o e _ _ => e, fun a o e => ⟨o, e⟩, fun a z => z.elim, fun _ => rfl, hz, ht⟩
      · unfold L2.start
        rw [List.length_append, List.length_append, List.length_map, List.length_map, List.length_replicate, List.length_replicate, ← h1.length, hl, hn]
      · have e' := g_start e
        obtain ⟨v, e3, h3⟩ := h1.get e'
        have hi : i < m := by
          rw [← hl]
          rcases Nat.lt_or_ge i ds.length with h' | h'
          · exact h'
          · rw [List.getElem?_eq_none h'] at e'; cases e'
        refine ⟨v, start_get e3, .inr ⟨fun z => ?_, h3.den nB⟩⟩
        have := of_decide_eq_true (List.all_eq_true.mp hO i z)
        omega
    refine ⟨c, _, o, r0, e1, ?_⟩
    have fin1 : ∀ {e : En} {σ : L2.St} {H' : Hp}, Rel K O c e σ H' → Same H H' := fun r => ⟨fun a o e n => r.frame a o e n fun z => z, r.old, fun _ => r.tab⟩
    cases o with
    | nx e =>
      cases e2
      intro σ' H' r'
      exact q _ H' (fin1 r') r'.sz rfl
    | bk e => cases e2
    | ct e => cases e2
    | rt r0 e =>
      intro v σ' H' ⟨r', hv⟩
      refine q v H' (fin1 r') r'.sz ?_
      cases r0 with
      | val d =>
        have e2 : (if d.flat = true then some (R.val d) else none) = some r := e2
        split at e2
        · rename_i hf
          cases e2
          exact Den.flat hf hv
        · cases e2
      | new d =>
        have e2 : (if d.flatIn = true then some (R.new d) else none) = some r := e2
        split at e2
        · rename_i hf
          cases e2
          obtain ⟨a, ea, hn, hm⟩ := hv
          exact ⟨a, ea, hn, hm.flat hf⟩
        · cases e2
      | own i =>
        obtain ⟨d, e3, e4⟩ := Option.bind_eq_some_iff.mp e2
        split at e4
        · rename_i hf
          cases e4
          obtain ⟨p, hp, hm⟩ := r'.ownAt hv.1 e3
          have hvp : v = .ref p := by
            have := hv.2
            rw [hp] at this
            cases this
            rfl
          refine ⟨p, hvp, ?_, hm.flat hf⟩
          rcases (r'.own p ⟨i, hv.1, hp⟩).2.1 with z | z
          · exact z
          · exact z.elim
        · cases e4

theorem fnM_ok {x qual : Str} {st : Stmt} {f : Addr} {fd : FuncData} {N ps : List Str} {k m n : Nat} {b : SF} (F : Fun K x qual st f fd) (S : FnScope N ps (defScope st)) (hO : (O.all fun i => decide (i = 0) || decide (m ≤ i)) = true) (h0O : 0 ∈ O) (hm : ps.length = m) (hn : N.length = n) (hmn : m ≤ n)
    (hb : ∀ (cdv : Value) (A : Around) (outer : List Env) (s : Shared) (H : Hp) (E : XK), fd.code = cdv → Room k (A.deeper (envOfC qual (defScope st) s.heap.objs.size f cdv)) →
      GSs (cxOf CX0 P w K mg base N qual (defScope st) f cdv A outer s H E).nox O (defBody st) b) : FnOk P w K mg base CX0 (k + 1) f fd ps (spM K (fnM m n b)) := by
  have hlen : ∀ {p : D} {ds : List D} {r : R × D}, fnM m n b p ds = some r → ds.length + 1 = m := fun {p ds r} h => by
    unfold fnM at h
    split at h
    · assumption
    · cases h
  refine Fun.okC F S (fun vs H Q E h => ?_) (fun cdv A outer s H vs Q E hc hr h => ?_)
  · obtain ⟨p, c, ds, us, r, c', rfl, _, h1, _, _, h2, _⟩ := h
    rw [List.length_cons, ← h1.length, hlen h2, hm]
  · obtain ⟨p, pc, ds, us, r, pc', rfl, hpm, h1, hz, ht, h2, q⟩ := h
    have hl := hlen h2
    refine ⟨_, hb cdv A outer s H E hc hr, ?_⟩
    unfold fnM at h2
    rw [if_pos hl] at h2
    obtain ⟨o, e1, e2⟩ := Option.bind_eq_some_iff.mp h2
    have hOw : ∀ a, Ow O (start N (.ref p :: us)) a → a = p := fun a z => by
      obtain ⟨i, hi, e⟩ := start_ow z
      have h3 := List.all_eq_true.mp hO i hi
      rw [Bool.or_eq_true, decide_eq_true_eq, decide_eq_true_eq] at h3
      rcases h3 with rfl | h3
      · cases e; rfl
      · have h4 : i < (V.ref p :: us).length := by
          rcases Nat.lt_or_ge i (V.ref p :: us).length with h' | h'
          · exact h'
          · rw [List.getElem?_eq_none h'] at e; cases e
        rw [List.length_cons, ← h1.length, hl] at h4
        omega
    let c : Cc := ⟨N0, H, fun a => a = p, some (some (.ref p))⟩
    have hBd : ∀ a, (∃ o, H a = some o) → Bd O N0 (start N (.ref p :: us)) a → a = p := fun a _ z => z.elim (fun z => z.elim) (hOw a)
    have hp0 : (start N (.ref p :: us))[0]? = some (some (.ref p)) := start_get rfl
    have r0 : Rel K O c (some pc :: (ds.map some ++ List.replicate (n - m) none)) (start N (.ref p :: us)) H := by
      refine ⟨?_, fun i d e => ?_, fun i j a hi hj ei ej => ?_, fun a z => ?_, fun a o e _ _ => e, fun a o e => ⟨o, e⟩, fun a z => z.elim, fun _ => hp0, hz, ht⟩
      · unfold L2.start
        rw [List.length_cons, List.length_append, List.length_append, List.length_map, List.length_map, List.length_replicate, List.length_replicate, List.length_cons, ← h1.length, hn]
        omega
      · cases i with
        | zero =>
          cases e
          exact ⟨.ref p, hp0, .inl ⟨h0O, p, rfl, hpm.sub hBd⟩⟩
        | succ i =>
          have e' : ds[i]? = some d := g_start (k := n - m) e
          obtain ⟨v, e3, h3⟩ := h1.get e'
          have hi : i + 1 < m := by
            rw [← hl]
            rcases Nat.lt_or_ge i ds.length with h' | h'
            · omega
            · rw [List.getElem?_eq_none h'] at e'; cases e'
          refine ⟨v, start_get e3, .inr ⟨fun z => ?_, h3.sub hBd⟩⟩
          have h4 := List.all_eq_true.mp hO (i + 1) z
          rw [Bool.or_eq_true, decide_eq_true_eq, decide_eq_true_eq] at h4
          omega
      · have slot0 : ∀ i, i ∈ O → (start N (.ref p :: us))[i]? = some (some (.ref a)) → i = 0 := fun i hi ei => by
          have h3 := List.all_eq_true.mp hO i hi
          rw [Bool.or_eq_true, decide_eq_true_eq, decide_eq_true_eq] at h3
          rcases h3 with h3 | h3
          · exact h3
          · exfalso
            unfold L2.start at ei
            rw [List.getElem?_append_right (by rw [List.length_map, List.length_cons, ← h1.length, hl]; exact h3), List.getElem?_replicate] at ei
            split at ei <;> cases ei
        rw [slot0 i hi ei, slot0 j hj ej]
      · rw [hOw a z]
        exact ⟨hpm.at, .inr rfl, fun z => z⟩
    refine ⟨c, _, o, r0, e1, ?_⟩
    have fin1 : ∀ {e : En} {σ : L2.St} {H' : Hp}, Rel K O c e σ H' → But p H H' := fun r => ⟨r.frame, fun a o e _ => r.old a o e, fun _ => r.tab⟩
    -- the slot 0 stays the parameter's
    have pot : ∀ {e : En} {σ : L2.St} {H' : Hp} {d : D}, Rel K O c e σ H' → e.g 0 = some d → d.flatIn = true → MDen K (fun _ => True) H' p d := fun {e σ H' d} r e0 hf => by
      obtain ⟨p', hp', hm⟩ := r.ownAt h0O e0
      have := r.s0 h0O
      rw [hp'] at this
      cases this
      exact hm.flat hf
    cases o with
    | nx e =>
      obtain ⟨d, e3, e4⟩ := Option.bind_eq_some_iff.mp e2
      split at e4
      · rename_i hf
        cases e4
        intro σ' H' r'
        exact q _ H' (fin1 r') r'.sz (pot r' e3 hf) rfl
      · cases e4
    | bk e => cases e2
    | ct e => cases e2
    | rt r0 e =>
      obtain ⟨r1, e5, e6⟩ := Option.bind_eq_some_iff.mp e2
      obtain ⟨d0, e3, e4⟩ := Option.bind_eq_some_iff.mp e6
      split at e4
      · rename_i hf0
        cases e4
        intro v σ' H' ⟨r', hv⟩
        refine q v H' (fin1 r') r'.sz (pot r' e3 hf0) ?_
        cases r0 with
        | val d =>
          have e5 : (if d.flat = true then some (R.val d) else none) = some r := e5
          split at e5
          · rename_i hf
            cases e5
            exact Den.flat hf hv
          · cases e5
        | new d =>
          have e5 : (if d.flatIn = true then some (R.new d) else none) = some r := e5
          split at e5
          · rename_i hf
            cases e5
            obtain ⟨a, ea, hn, hm⟩ := hv
            exact ⟨a, ea, hn, hm.flat hf⟩
          · cases e5
        | own i =>
          have e5 : (if i = 0 then none else (e.g i).bind fun d => if d.flatIn = true then some (R.new d) else none) = some r := e5
          split at e5
          · cases e5
          · rename_i hi0
            obtain ⟨d, e7, e8⟩ := Option.bind_eq_some_iff.mp e5
            split at e8
            · rename_i hf
              cases e8
              obtain ⟨p2, hp2, hm⟩ := r'.ownAt hv.1 e7
              have hvp : v = .ref p2 := by
                have := hv.2
                rw [hp2] at this
                cases this
                rfl
              refine ⟨p2, hvp, ?_, hm.flat hf⟩
              rcases (r'.own p2 ⟨i, hv.1, hp2⟩).2.1 with z | z
              · exact z
              · exfalso
                have z' : p2 = p := z
                subst z'
                exact hi0 (r'.dist i 0 _ hv.1 h0O hp2 (r'.s0 h0O))
            · cases e8
      · cases e4
end
end Mini

/-! ## MOps -/
/-! Mini: operations by values over the model. -/
namespace Mini
open PySem PySem.Spec PyProof.Rows L2
variable [Tb]

theorem sz_eq : SZ = sizeLine := by rw [sizeLine_eq, sz_val]
theorem int?_e {d : D} {i : Int} (h : d.int? = some i) : d = .int i := by cases d <;> first | (cases h; rfl) | cases h
theorem bl?_e {d : D} {i : Bool} (h : d.bl? = some i) : d = .bl i := by cases d <;> first | (cases h; rfl) | cases h
theorem str?_e {d : D} {i : Str} (h : d.str? = some i) : d = .str i := by cases d <;> first | (cases h; rfl) | cases h
theorem tup?_e {d : D} {i : List D} (h : d.tup? = some i) : d = .tup i := by cases d <;> first | (cases h; rfl) | cases h
theorem lst?_e {d : D} {i : List D} (h : d.lst? = some i) : d = .lst i := by cases d <;> first | (cases h; rfl) | cases h
theorem ty?_e {d : D} {i : String} (h : d.ty? = some i) : d = .ty i := by cases d <;> first | (cases h; rfl) | cases h
theorem guardR_e {c : Bool} {r z : R} (h : guardR c r = some z) : c = true ∧ z = r := by
  unfold guardR at h
  split at h
  · rename_i hc; exact ⟨hc, (Option.some.inj h).symm⟩
  · cases h
section
variable {X : Cx}
/-- two ints under c, a value that hangs on them alone -/
theorem ops_ii {f : Value → Value → Sem Value} {C : Int → Int → Prop} {c : Int → Int → Bool} {g : Int → Int → V} {gd : Int → Int → D} (h : OpR X f (rI C g)) (hc : ∀ a b, c a b = true → C a b) (hg : ∀ B H a b, Den X.K B H (gd a b) (g a b)) : OpS X f (o_ii c gd) := by
  refine ⟨_, h, fun B H x y z v w Q e ax ay hz hB q => ?_⟩
  obtain ⟨a, e1, e⟩ := Option.bind_eq_some_iff.mp e
  obtain ⟨b, e2, e⟩ := Option.bind_eq_some_iff.mp e
  obtain ⟨e3, rfl⟩ := guardR_e e
  cases int?_e e1
  cases int?_e e2
  exact ⟨a, b, ax, ay, hc a b e3, q _ H (Same.refl H) hz (hg B H a b)⟩
theorem ops_ii0 {f : Value → Value → Sem Value} {g : Int → Int → V} {gd : Int → Int → D} (h : OpR X f (rI0 g)) (hg : ∀ B H a b, Den X.K B H (gd a b) (g a b)) : OpS X f (o_ii always gd) := by
  refine ⟨_, h, fun B H x y z v w Q e ax ay hz hB q => ?_⟩
  obtain ⟨a, e1, e⟩ := Option.bind_eq_some_iff.mp e
  obtain ⟨b, e2, e⟩ := Option.bind_eq_some_iff.mp e
  obtain ⟨e3, rfl⟩ := guardR_e e
  cases int?_e e1
  cases int?_e e2
  exact ⟨a, b, ax, ay, q _ H (Same.refl H) hz (hg B H a b)⟩
theorem s_sub : OpS X (binaryOp .Sub) o_sub := ops_ii0 op_sub fun _ _ _ _ => rfl
theorem s_mulI : OpS X (binaryOp .Mult) o_mulI := ops_ii op_mul (fun a b h => by
  rw [mulOk_def] at h
  unfold mulOk0 at h
  simp only [Bool.or_eq_true, Bool.and_eq_true, decide_eq_true_eq] at h
  exact h) fun _ _ _ _ => rfl
theorem s_fdiv : OpS X (binaryOp .FloorDiv) o_fdiv := ops_ii op_fdiv (fun a b h => show 0 < b ∧ b < 1073741824 from of_decide_eq_true ((fdOk_def b).symm.trans h)) fun _ _ _ _ => rfl
theorem s_mod : OpS X (binaryOp .Mod) o_mod := ops_ii op_mod (fun a b h => of_decide_eq_true h) fun _ _ _ _ => rfl
theorem op_powW : OpR X (binaryOp .Pow) (rI (fun i j => 0 ≤ j ∧ j ≤ 1000 ∧ i.natAbs < 2 ^ 1000) fun i j => .int (i ^ j.toNat)) := opI fun i j _ _ _ _ _ hc q => by
  refine pow_int hc.1 ?_ q
  have hb : Builtin.Int.intBits i ≤ 1001 := by
    have b : ∀ x : Int, Builtin.Int.intBits x ≤ x.natAbs.log2 + 1 := fun x => by
      unfold Builtin.Int.intBits
      split <;> omega
    have h2 := b i
    have h3 : i.natAbs.log2 < 1000 := PySem.Flt.log2_lt_of (by decide) hc.2.2
    omega
  have h1 := hc.1
  have h2 := hc.2.1
  have h3 : (Builtin.Int.intBits i : Int) * j ≤ 1001 * 1000 := Int.mul_le_mul (by omega) h2 h1 (by decide)
  exact Int.le_trans h3 (by decide)
theorem s_pow : OpS X (binaryOp .Pow) o_pow := ops_ii op_powW (fun a b h => of_decide_eq_true ((powOk_def a b).symm.trans h)) fun _ _ _ _ => rfl
theorem s_lt : OpS X (compareOp .Lt) o_lt := ops_ii0 op_lt fun _ _ _ _ => rfl
theorem s_le : OpS X (compareOp .LtE) o_le := ops_ii0 op_le fun _ _ _ _ => rfl
theorem s_gt : OpS X (compareOp .Gt) o_gt := ops_ii0 op_gt fun _ _ _ _ => rfl
theorem s_ge : OpS X (compareOp .GtE) o_ge := ops_ii0 op_ge fun _ _ _ _ => rfl
theorem s_neg : UnS X (unaryOp .USub) o_neg := by
  refine ⟨_, un_neg, fun B H x z v Q e ax hz hB q => ?_⟩
  obtain ⟨a, e1, e⟩ := Option.bind_eq_some_iff.mp e
  cases e
  cases int?_e e1
  exact ⟨a, ax, q _ H (Same.refl H) hz rfl⟩
theorem non_e {d : D} (h : d.isNon = true) : d = .non := by cases d <;> first | rfl | cases h
theorem den_non {K : PySem.W.Frag} {B : Addr → Prop} {H : Hp} {d : D} {v : V} (h : ADen K B H d v) : decide (v = .non) = d.isNon := by
  cases d with
  | non => rw [show v = .non from h]; rfl
  | bl b => rw [show v = .bl b from h]; rfl
  | int b => rw [show v = .int b from h]; rfl
  | str b => rw [show v = .str b from h]; rfl
  | ty b => rw [show v = .ty b from h]; rfl
  | tup ds => obtain ⟨a, vs, rfl, _⟩ := h; rfl
  | lst ds => obtain ⟨a, rfl, _⟩ := h; rfl
  | scr ds => obtain ⟨a, vs, rfl, _⟩ := h; rfl
  | dct ks ds => obtain ⟨a, rfl, _⟩ := h; rfl
theorem s_isN : OpS X (compareOp .Is) o_isN := by
  refine ⟨_, op_isN, fun B H x y z v w Q e ax ay hz hB q => ?_⟩
  obtain ⟨e3, rfl⟩ := guardR_e e
  cases non_e e3
  refine ⟨ay, ?_⟩
  rw [den_non ax]
  exact q _ H (Same.refl H) hz rfl
theorem s_notN : OpS X (compareOp .IsNot) o_notN := by
  refine ⟨_, op_notN, fun B H x y z v w Q e ax ay hz hB q => ?_⟩
  obtain ⟨e3, rfl⟩ := guardR_e e
  cases non_e e3
  refine ⟨ay, ?_⟩
  rw [den_non ax]
  exact q _ H (Same.refl H) hz rfl
theorem s_isB : OpS X (compareOp .Is) o_isB := by
  refine ⟨_, op_isBl, fun B H x y z v w Q e ax ay hz hB q => ?_⟩
  obtain ⟨a, e1, e⟩ := Option.bind_eq_some_iff.mp e
  obtain ⟨b, e2, e⟩ := Option.bind_eq_some_iff.mp e
  cases e
  cases bl?_e e1
  cases bl?_e e2
  exact ⟨a, b, ax, ay, q _ H (Same.refl H) hz rfl⟩
theorem s_notB : OpS X (compareOp .IsNot) o_notB := by
  refine ⟨_, op_notBl, fun B H x y z v w Q e ax ay hz hB q => ?_⟩
  obtain ⟨a, e1, e⟩ := Option.bind_eq_some_iff.mp e
  obtain ⟨b, e2, e⟩ := Option.bind_eq_some_iff.mp e
  cases e
  cases bl?_e e1
  cases bl?_e e2
  exact ⟨a, b, ax, ay, q _ H (Same.refl H) hz rfl⟩
theorem s_add : OpS X (binaryOp .Add) o_add := by
  refine ⟨_, op_add.or (op_add_str.or (op_catA.or op_cat)), fun B H x y z v w Q e ax ay hz hB q => ?_⟩
  cases x with
  | int a =>
    obtain ⟨b, e1, e⟩ := Option.bind_eq_some_iff.mp e
    cases e
    cases int?_e e1
    exact .inl ⟨a, b, ax, ay, q _ H (Same.refl H) hz rfl⟩
  | str a =>
    obtain ⟨b, e1, e⟩ := Option.bind_eq_some_iff.mp e
    obtain ⟨e2, rfl⟩ := guardR_e e
    cases str?_e e1
    exact .inr (.inl ⟨a, b, ax, ay, by rw [← sz_eq]; exact of_decide_eq_true e2, q _ H (Same.refl H) hz rfl⟩)
  | tup a =>
    obtain ⟨b, e1, e⟩ := Option.bind_eq_some_iff.mp e
    obtain ⟨e2, rfl⟩ := guardR_e e
    cases tup?_e e1
    obtain ⟨p, xs, rfl, hp, hx⟩ := ax
    obtain ⟨r, ys, rfl, hr, hy⟩ := ay
    have hl : xs.length + ys.length ≤ sizeLine := by rw [← sz_eq, ← hx.length, ← hy.length]; exact of_decide_eq_true e2
    refine .inr (.inr (.inl ⟨p, r, xs, ys, rfl, rfl, hp, hr, hl, fun e0 => ?_, fun _ e0 => ?_, fun _ _ p hn => ?_⟩))
    · subst e0
      have e0 : a = [] := List.eq_nil_of_length_eq_zero hx.length
      subst e0
      exact q _ H (Same.refl H) hz ⟨r, ys, rfl, hr, hy⟩
    · subst e0
      have e0 : b = [] := List.eq_nil_of_length_eq_zero hy.length
      subst e0
      rw [List.append_nil] at q
      exact q _ H (Same.refl H) hz ⟨p, xs, rfl, hp, hx⟩
    · exact q _ _ (same_new hn) (sz_tup hz (by rw [List.length_append]; exact hl)) (new_tup hn (hx.append hy))
  | lst a =>
    obtain ⟨b, e1, e⟩ := Option.bind_eq_some_iff.mp e
    obtain ⟨e2, rfl⟩ := guardR_e e
    cases lst?_e e1
    obtain ⟨p, rfl, xs, hp, hx⟩ := ax
    obtain ⟨r, rfl, ys, hr, hy⟩ := ay
    have hl : xs.length + ys.length ≤ sizeLine := by rw [← sz_eq, ← hx.length, ← hy.length]; exact of_decide_eq_true e2
    refine .inr (.inr (.inr ⟨p, r, xs, ys, rfl, rfl, hp, hr, hl, fun p hn => ?_⟩))
    exact q _ _ (same_new hn) (sz_lst hz (by rw [List.length_append]; exact hl)) (new_lst hn (hx.append hy))
  | _ => cases e
theorem Dens.rep {K : PySem.W.Frag} {B : Addr → Prop} {H : Hp} {ds : List D} {vs : List V} (h : Dens K B H ds vs) : ∀ k : Nat, Dens K B H (List.replicate k ds).flatten (List.replicate k vs).flatten
  | 0 => rfl
  | k + 1 => by
    rw [List.replicate_succ, List.replicate_succ, List.flatten_cons, List.flatten_cons]
    exact h.append (Dens.rep h k)
theorem rep_len {α : Type} (l : List α) : ∀ k : Nat, (List.replicate k l).flatten.length = l.length * k
  | 0 => by simp
  | k + 1 => by rw [List.replicate_succ, List.flatten_cons, List.length_append, rep_len l k, Nat.mul_succ, Nat.add_comm]
theorem s_mul : OpS X (binaryOp .Mult) o_mul := by
  obtain ⟨r0, h0, h1⟩ := (s_mulI (X := X)).ex
  refine ⟨_, h0.or op_rep, fun B H x y z v w Q e ax ay hz hB q => ?_⟩
  cases x with
  | lst a =>
    obtain ⟨k, e1, e⟩ := Option.bind_eq_some_iff.mp e
    obtain ⟨e2, rfl⟩ := guardR_e e
    cases int?_e e1
    obtain ⟨p, rfl, xs, hp, hx⟩ := ax
    rw [Bool.and_eq_true] at e2
    obtain ⟨k1, k2⟩ := i64_e e2.1
    have k3 := of_decide_eq_true e2.2
    have hl : xs.length * k.toNat ≤ sizeLine := by rw [← sz_eq, ← hx.length]; exact k3
    refine .inr ⟨p, k, xs, rfl, ay, hp, k1, k2, hl, fun p hn => ?_⟩
    exact q _ _ (same_new hn) (sz_lst hz (by rw [rep_len]; exact hl)) (new_lst hn (hx.rep _))
  | _ => exact .inl (h1 B H _ y z v w Q e ax ay hz hB q)

/-! ### subscripts -/
theorem ix_get {a : List D} {xs : List V} {i : Int} {j : Nat} {d : D} {K : PySem.W.Frag} {B : Addr → Prop} {H : Hp} (hx : Dens K B H a xs) (h1 : ixP a.length i = some j) (h2 : a[j]? = some d) : ∃ v, atI xs i = some v ∧ Den K B H d v := by
  obtain ⟨v, e, hv⟩ := hx.get h2
  refine ⟨v, ?_, hv⟩
  unfold atI ixN
  unfold ixP at h1
  rw [hx.length] at h1
  rw [h1]
  exact e
theorem s_ix : IxS X o_ix := by
  refine ⟨_, (ix_list (X := X)).or ix_tup, fun B H x y z v w Q e ax ay hz hB q => ?_⟩
  cases x with
  | tup a =>
    obtain ⟨i, e1, e⟩ := Option.bind_eq_some_iff.mp e
    obtain ⟨j, e2, e⟩ := Option.bind_eq_some_iff.mp e
    obtain ⟨d, e3, e⟩ := Option.bind_eq_some_iff.mp e
    cases e
    cases int?_e e1
    obtain ⟨p, xs, rfl, hp, hx⟩ := ax
    obtain ⟨v, e4, hv⟩ := ix_get hx e2 e3
    exact .inr ⟨p, xs, i, v, rfl, ay, hp, e4, q _ H (Same.refl H) hz hv⟩
  | lst a =>
    obtain ⟨i, e1, e⟩ := Option.bind_eq_some_iff.mp e
    obtain ⟨j, e2, e⟩ := Option.bind_eq_some_iff.mp e
    obtain ⟨d, e3, e⟩ := Option.bind_eq_some_iff.mp e
    cases e
    cases int?_e e1
    obtain ⟨p, rfl, xs, hp, hx⟩ := ax
    obtain ⟨v, e4, hv⟩ := ix_get hx e2 e3
    exact .inl ⟨p, xs, i, v, rfl, ay, SqL.of hp, e4, q _ H (Same.refl H) hz hv⟩
  | scr a =>
    obtain ⟨i, e1, e⟩ := Option.bind_eq_some_iff.mp e
    obtain ⟨j, e2, e⟩ := Option.bind_eq_some_iff.mp e
    obtain ⟨d, e3, e⟩ := Option.bind_eq_some_iff.mp e
    cases e
    cases int?_e e1
    obtain ⟨p, xs, rfl, hp, hx⟩ := ax
    obtain ⟨v, e4, hv⟩ := ix_get hx e2 e3
    exact .inl ⟨p, xs, i, v, rfl, ay, hp.sq, e4, q _ H (Same.refl H) hz hv⟩
  | _ => cases e
/-- o[i] = v at an owned list -/
theorem gs_setix {i : Nat} {e0 k v : Expr} {pos tpos : Pos} {fk fv : EF} {O : List Nat} (hn : PE X e0 (tVar i)) (hk : GE X O k fk) (hv : GE X O v fv) (w : ∀ {to ti te : TE}, PE X e0 to → PE X k ti → PE X v te → PS X (.Assign [.Subscript e0 k tpos] v pos) (tAsg te (gSub to ti rSetL)))
    (hi : i ∈ O := by decide) : GS X O (.Assign [.Subscript e0 k tpos] v pos) (s_setix st_list i fk fv) := by
  refine PS.w (w hn hk hv) fun D σ H ⟨c, env, o, hr, he, q⟩ => ?_
  obtain ⟨⟨r1, env1⟩, e1, h⟩ := Option.bind_eq_some_iff.mp he
  obtain ⟨d, e2, h⟩ := Option.bind_eq_some_iff.mp h
  obtain ⟨c00, e00, h⟩ := Option.bind_eq_some_iff.mp h
  obtain ⟨⟨r2, env2⟩, e3, h⟩ := Option.bind_eq_some_iff.mp h
  obtain ⟨x, e4, h⟩ := Option.bind_eq_some_iff.mp h
  obtain ⟨c0, e5, h⟩ := Option.bind_eq_some_iff.mp h
  obtain ⟨c1, e6, h⟩ := Option.bind_eq_some_iff.mp h
  cases h
  obtain ⟨a, e7, e6⟩ := Option.bind_eq_some_iff.mp e6
  obtain ⟨n, e8, e6⟩ := Option.bind_eq_some_iff.mp e6
  obtain ⟨j, e9, e6⟩ := Option.bind_eq_some_iff.mp e6
  cases e6
  cases lst?_e e7
  cases int?_e e8
  refine ⟨c, env, r1, env1, hr, e1, fun N1 u H1 q1 f1 d1 => ?_⟩
  have r1' : Rel X.K O c env1 σ H1 := hr.trans q1.drop
  have dv : Den X.K (Bd O c.Z σ) H1 d u := d1.st hr f1 e2
  obtain ⟨p, hp, _⟩ := r1'.ownAt hi e00
  refine ⟨.ref p, hp, c, env1, r2, env2, r1', e3, fun N2 y H2 q2 f2 d2 => ?_⟩
  obtain ⟨p', hp', hm⟩ := q2.ownAt hi e5
  rw [hp] at hp'
  cases hp'
  have ow : Ow O σ p := ⟨i, hi, hp⟩
  obtain ⟨vs, hH2, hvs⟩ := hm
  have hy : y = .int n := d2.at q2 e4
  have hix : ixN vs.length n = some j := by
    rw [← hvs.length]
    exact e9
  refine ⟨p, vs, n, j, rfl, hy, hH2, hix, ?_⟩
  have r2' : Rel X.K O c env2 σ H2 := r1'.trans q2.drop
  have dv2 : Den X.K (Bd O c.Z σ) H2 d u := Den.keep q2.frame r1'.mut (fun a z => .inr z) dv
  have kk : Keeps (fun b => b = p) H2 (upd H2 p (.lst (vs.set j u))) := fun b o e _ n => by rw [upd_ne n]; exact e
  have hO : ∀ b, b = p → ∃ o, H2 b = some o ∧ Mut (some o) := fun b e => by subst e; exact ⟨_, hH2, trivial⟩
  have hB : ∀ b, b = p → Bd O c.Z σ b := fun b e => by subst e; exact .inr ow
  have hb : ∀ a, (∃ o, H2 a = some o) → Bd O c.Z σ a → Bd O (Zu c.Z N2) σ a := fun a _ z => z.elim (fun z => .inl (.inl z)) .inr
  have hz : SzH (upd H2 p (.lst (vs.set j u))) := sz_lst r2'.sz (by rw [List.length_set]; exact (r2'.sz p vs).1 (.inl hH2))
  exact q _ _ (r2'.upd hi hp (but_of (B := Bd O c.Z σ) (d := .lst a) ⟨vs, hH2, Dens.sub hb hvs⟩ fun b o e n => by rw [upd_ne n]; exact e) hz ⟨_, upd_same, Dens.keep kk hO hB ((Dens.sub hb hvs).set j dv2)⟩)

/-! ### slices -/
def tP (K : PySem.W.Frag) (O : List Nat) (f : PF) : TO := fun σ H Q => ∃ c env l env', Rel K O c env σ H ∧ f env = some (l, env') ∧ ∀ H', Rel K O (c.nw O σ H) env' σ H' → Q l H'
abbrev GP (X : Cx) (O : List Nat) (e : Option Expr) (f : PF) : Prop := PO X e (tP X.K O f)
theorem PO.w {e : Option Expr} {t t' : TO} (h : PO X e t) (w : ∀ σ H Q, t' σ H Q → t σ H Q) : PO X e t' := ⟨fun pins s σ H Q I q => h.run pins s σ H Q I (w σ H Q q)⟩
theorem gp_no {O : List Nat} : GP X O none p_no := by
  refine PO.w po_none fun σ H Q ⟨c, env, l, env', hr, he, q⟩ => ?_
  cases he
  exact q H hr.self
theorem gp_e {O : List Nat} {e : Expr} {f : EF} (h : GE X O e f) : GP X O (some e) (p_e f) := by
  refine PO.w (po_some h) fun σ H Q ⟨c, env, l, env', hr, he, q⟩ => ?_
  obtain ⟨⟨r1, env1⟩, e1, h⟩ := Option.bind_eq_some_iff.mp he
  obtain ⟨x, e2, h⟩ := Option.bind_eq_some_iff.mp h
  obtain ⟨i, e3, h⟩ := Option.bind_eq_some_iff.mp h
  cases h
  cases int?_e e3
  exact ⟨c, env, r1, _, hr, e1, fun N v H1 q1 f1 d1 => ⟨i, d1.at q1 e2, q H1 q1.drop⟩⟩
theorem sIx_eq (n d : Nat) (o : Option Int) : HT.sIx n d o = sIxP n d o := by
  cases o with
  | none => rfl
  | some v =>
    have h := HT.clip_eq v n d
    unfold sIxP
    simp only
    split at h <;> rename_i hv
    · rw [if_pos hv]; omega
    · rw [if_neg hv]; omega
theorem cut_len (xs : List D) (lo hi : Option Int) : (cutP xs lo hi).length ≤ xs.length := by
  unfold cutP
  rw [List.length_take, List.length_drop]
  omega
theorem Dens.cut {K : PySem.W.Frag} {B : Addr → Prop} {H : Hp} {ds : List D} {vs : List V} (h : Dens K B H ds vs) (lo hi : Option Int) : Dens K B H (cutP ds lo hi) (cutV vs lo hi) := by
  unfold cutP cutV
  rw [sIx_eq, sIx_eq, h.length]
  exact (h.drop _).take _
theorem g_cut {O : List Nat} {a : Expr} {lo hi : Option Expr} {pos p2 : Pos} {fa : EF} {fl fh : PF} (ha : GE X O a fa) (hl : GP X O lo fl) (hh : GP X O hi fh) : GE X O (.Subscript a (.Slice lo hi none p2) pos) (e_cut fa fl fh) := by
  refine PE.w (pe_slice ((sl_list (X := X)).or sl_tupA) ha hl hh) fun σ H Q ⟨c, env, r0, env', hr, he, q⟩ => ?_
  obtain ⟨⟨r1, env1⟩, e1, h⟩ := Option.bind_eq_some_iff.mp he
  obtain ⟨⟨l, env2⟩, e2, h⟩ := Option.bind_eq_some_iff.mp h
  obtain ⟨⟨u, env3⟩, e3, h⟩ := Option.bind_eq_some_iff.mp h
  obtain ⟨x, e4, h⟩ := Option.bind_eq_some_iff.mp h
  obtain ⟨z, e5, h⟩ := Option.bind_eq_some_iff.mp h
  cases h
  refine ⟨c, env, r1, env1, hr, e1, fun N1 v H1 q1 f1 d1 => ⟨c.nu N1 O σ H, env1, l, env2, q1, e2, fun H2 q2 => ⟨c.nu N1 O σ H, env2, u, env3, q1.trans q2, e3, fun H3 q3 => ?_⟩⟩⟩
  have q23 : Rel X.K O ((c.nu N1 O σ H).nw O σ H1) env3 σ H3 := q2.trans q3
  have q13 : Rel X.K O (c.nu N1 O σ H) env3 σ H3 := q1.trans q23
  have d3 : DenR X.K O c.Z N1 σ H3 r1 v := by
    have := d1.keep q1 q23.n0 fun _ z => z.elim
    have sb : ∀ a, (∃ o, H3 a = some o) → Bd O (Zu c.Z N1) σ a → Bd O (Zu c.Z fun b => N1 b ∨ N0 b) σ a := fun a _ z => by
      rcases z with (z | z) | z
      · exact .inl (.inl z)
      · exact .inl (.inr (.inl z))
      · exact .inr z
    cases r1 with
    | val d => exact Den.sub sb this
    | own i => exact this
    | new d =>
      obtain ⟨a, ea, na, ma⟩ := this
      exact ⟨a, ea, na.elim (fun z => z) fun z => z.elim, ma.sub sb⟩
  have ax := d3.at q13 e4
  have fin : ∀ u H4, Same H3 H4 → SzH H4 → RDen X.K (Bd O (Zu c.Z N1) σ) H3 H4 r0 u → Q u H4 := fun u H4 k hz hd => by
    obtain ⟨N, q5, f5, d5⟩ := hd.fin hr q13 k hz
    exact q N u H4 q5 f5 d5
  cases x with
  | tup a =>
    cases e5
    obtain ⟨p, xs, rfl, hp, hx⟩ := ax
    have hlx : xs.length ≤ sizeLine := by
      rcases hp with hp | ⟨o, its, n, _, _, _, h1, h2⟩
      · exact (q13.sz p xs).2 hp
      · rw [h2.length]; simpa using h1
    refine .inr ⟨p, xs, rfl, hp, fun hw => ?_, fun _ p2 hn => fin _ _ (same_new hn) (sz_tup q13.sz (Nat.le_trans (cutV_length _ _ _) hlx)) (new_tup hn (hx.cut _ _))⟩
    have e6 : cutP a l u = a := by
      unfold cutP
      rw [sIx_eq, sIx_eq, ← hx.length] at hw
      rw [hw.1, hw.2, List.drop_zero, Nat.sub_zero, List.take_length]
    refine fin _ H3 (Same.refl _) q13.sz ?_
    rw [e6]
    exact ⟨p, xs, rfl, hp, hx⟩
  | lst a =>
    cases e5
    obtain ⟨p, rfl, xs, hp, hx⟩ := ax
    refine .inl ⟨p, xs, rfl, SqL.of hp, fun p2 hn => fin _ _ (same_new hn) (sz_lst q13.sz (Nat.le_trans (cutV_length _ _ _) ((q13.sz p xs).1 (.inl hp)))) (new_lst hn (hx.cut _ _))⟩
  | scr a =>
    cases e5
    obtain ⟨p, xs, rfl, hp, hx⟩ := ax
    have hl : xs.length ≤ sizeLine := by
      rcases hp with ⟨o, hp⟩ | ⟨o, its, n, _, _, _, _, h1, h2⟩
      · exact (q13.sz p xs).1 (.inr ⟨o, hp⟩)
      · rw [h2.length]; simpa using h1
    refine .inl ⟨p, xs, rfl, hp.sq, fun p2 hn => fin _ _ (same_new hn) (sz_lst q13.sz (Nat.le_trans (cutV_length _ _ _) hl)) (new_lst hn (hx.cut _ _))⟩
  | _ => cases e5

/-! ### built-ins -/
theorem sqt_len {K : PySem.W.Frag} {H : Hp} {p : Addr} {xs : List V} (hz : SzH H) (hp : SqT K H p xs) : xs.length ≤ sizeLine := by
  rcases hp with hp | ⟨o, its, n, _, _, _, h1, h2⟩
  · exact (hz p xs).2 hp
  · rw [h2.length]; simpa using h1
/-- a rule of one argument -/
theorem adens1 {K : PySem.W.Frag} {B : Addr → Prop} {H : Hp} {d : D} {vs : List V} (h : ADens K B H [d] vs) : ∃ v, vs = [v] ∧ ADen K B H d v := by
  obtain ⟨v, us, rfl, h1, h2⟩ := h
  have e : us = [] := h2
  subst e
  exact ⟨v, rfl, h1⟩
theorem adens2 {K : PySem.W.Frag} {B : Addr → Prop} {H : Hp} {d d' : D} {vs : List V} (h : ADens K B H [d, d'] vs) : ∃ v v', vs = [v, v'] ∧ ADen K B H d v ∧ ADen K B H d' v' := by
  obtain ⟨v, us, rfl, h1, h2⟩ := h
  obtain ⟨v', rfl, h3⟩ := adens1 h2
  exact ⟨v, v', rfl, h1, h3⟩
theorem b_len : CallS X (.builtin "len") o_len := by
  refine ⟨_, call_len_seq, fun B H ds z vs Q e a hz hB q => ?_⟩
  unfold o_len at e
  split at e <;> first | (cases e; done) | skip
  · obtain ⟨v, rfl, p, xs, rfl, hp, hx⟩ := adens1 a
    cases e
    refine ⟨p, xs, rfl, .inr hp, q _ H (Same.refl H) hz ?_⟩
    show _ = V.int _
    rw [hx.length]
  · obtain ⟨v, rfl, p, rfl, xs, hp, hx⟩ := adens1 a
    cases e
    refine ⟨p, xs, rfl, .inl (SqL.of hp), q _ H (Same.refl H) hz ?_⟩
    show _ = V.int _
    rw [hx.length]
  · obtain ⟨v, rfl, p, xs, rfl, hp, hx⟩ := adens1 a
    cases e
    refine ⟨p, xs, rfl, .inl hp.sq, q _ H (Same.refl H) hz ?_⟩
    show _ = V.int _
    rw [hx.length]
theorem b_abs : CallS X (.builtin "abs") o_abs := by
  refine ⟨_, call_abs, fun B H ds z vs Q e a hz hB q => ?_⟩
  unfold o_abs at e
  split at e <;> first | (cases e; done) | skip
  obtain ⟨v, rfl, h⟩ := adens1 a
  cases e
  have h : v = .int _ := h
  subst h
  exact ⟨_, rfl, q _ H (Same.refl H) hz rfl⟩
theorem b_int : CallS X (.type "int") o_int := by
  refine ⟨_, call_int1, fun B H ds z vs Q e a hz hB q => ?_⟩
  unfold o_int at e
  split at e <;> first | (cases e; done) | skip
  · obtain ⟨v, rfl, h⟩ := adens1 a
    cases e
    have h : v = .int _ := h
    subst h
    exact .inl ⟨_, rfl, q _ H (Same.refl H) hz rfl⟩
  · obtain ⟨v, rfl, h⟩ := adens1 a
    cases e
    have h : v = .bl _ := h
    subst h
    exact .inr ⟨_, rfl, q _ H (Same.refl H) hz rfl⟩
theorem b_isi : CallS X (.builtin "isinstance") o_isi := by
  refine ⟨_, call_isi, fun B H ds z vs Q e a hz hB q => ?_⟩
  unfold o_isi at e
  split at e <;> first | (cases e; done) | skip
  rename_i x y
  obtain ⟨n, e1, e⟩ := Option.bind_eq_some_iff.mp e
  obtain ⟨e2, rfl⟩ := guardR_e e
  cases ty?_e e1
  obtain ⟨v, w, rfl, h1, h2⟩ := adens2 a
  have h2 : w = .ty n := h2
  subst h2
  rw [Bool.and_eq_true] at e2
  have hn : n ∈ kinds4 := by simpa using e2.2
  have fin : Q (.bl (x.isK n)) H := q _ H (Same.refl H) hz rfl
  have cls : ClsV (.ty n) (.type n) := .ty n
  simp only [kinds4, List.mem_cons, List.mem_nil_iff, or_false] at hn
  cases x with
  | tup ds =>
    obtain ⟨p, xs, rfl, hp, hx⟩ := h1
    have ty : TyX X.K H (.ref p) (.type "tuple") := by
      rcases hp with (hp | ⟨o, hp⟩) | ⟨o, its, n, h, h', _⟩
      · exact .base (.tup hp)
      · exact .fTuple hp
      · exact .kTuple h h'
    refine ⟨_, _, _, _, _, rfl, cls, ty, ?_, fin⟩
    rcases hn with rfl | rfl | rfl | rfl | rfl <;> (refine kit_ty ?_; simp only [D.isK]; decide +kernel)
  | lst ds =>
    obtain ⟨p, rfl, xs, hp, hx⟩ := h1
    refine ⟨_, _, _, _, _, rfl, cls, .base (.lst hp), ?_, fin⟩
    rcases hn with rfl | rfl | rfl | rfl | rfl <;> (refine kit_ty ?_; simp only [D.isK]; decide +kernel)
  | int i =>
    have h1 : v = .int i := h1
    subst h1
    refine ⟨_, _, _, _, _, rfl, cls, .base (.int i), ?_, fin⟩
    rcases hn with rfl | rfl | rfl | rfl | rfl <;> (refine kit_ty ?_; simp only [D.isK]; decide +kernel)
  | bl i =>
    have h1 : v = .bl i := h1
    subst h1
    refine ⟨_, _, _, _, _, rfl, cls, .base (.bl i), ?_, fin⟩
    rcases hn with rfl | rfl | rfl | rfl | rfl <;> (refine kit_ty ?_; simp only [D.isK]; decide +kernel)
  | str i =>
    have h1 : v = .str i := h1
    subst h1
    refine ⟨_, _, _, _, _, rfl, cls, .base (.str i), ?_, fin⟩
    rcases hn with rfl | rfl | rfl | rfl | rfl <;> (refine kit_ty ?_; simp only [D.isK]; decide +kernel)
  | non =>
    have h1 : v = .non := h1
    subst h1
    refine ⟨_, _, _, _, _, rfl, cls, .base .non, ?_, fin⟩
    rcases hn with rfl | rfl | rfl | rfl | rfl <;> (refine kit_ty ?_; simp only [D.isK]; decide +kernel)
  | _ => cases e2.1
theorem b_tuple : CallS X (.type "tuple") o_tuple := by
  refine ⟨_, call_tuple_of, fun B H ds z vs Q e a hz hB q => ?_⟩
  unfold o_tuple at e
  split at e <;> first | (cases e; done) | skip
  · obtain ⟨v, rfl, p, rfl, xs, hp, hx⟩ := adens1 a
    cases e
    exact ⟨p, xs, rfl, .inl ⟨SqL.of hp, fun p2 hn => q _ _ (same_new hn) (sz_tup hz ((hz p xs).1 (.inl hp))) (new_tup hn hx)⟩⟩
  · obtain ⟨v, rfl, p, xs, rfl, hp, hx⟩ := adens1 a
    cases e
    exact ⟨p, xs, rfl, .inr ⟨hp, q _ H (Same.refl H) hz ⟨p, xs, rfl, hp, hx⟩⟩⟩
theorem b_list : CallS X (.type "list") o_list := by
  refine ⟨_, call_list_of, fun B H ds z vs Q e a hz hB q => ?_⟩
  unfold o_list at e
  split at e <;> first | (cases e; done) | skip
  · obtain ⟨v, rfl, p, rfl, xs, hp, hx⟩ := adens1 a
    cases e
    exact ⟨p, xs, rfl, .inl (SqL.of hp), fun p2 hn => q _ _ (same_new hn) (sz_lst hz ((hz p xs).1 (.inl hp))) (new_lst hn hx)⟩
  · obtain ⟨v, rfl, p, xs, rfl, hp, hx⟩ := adens1 a
    cases e
    exact ⟨p, xs, rfl, .inr hp, fun p2 hn => q _ _ (same_new hn) (sz_lst hz (sqt_len hz hp)) (new_lst hn hx)⟩
theorem bls?_e {K : PySem.W.Frag} {B : Addr → Prop} {H : Hp} : ∀ {ds : List D} {bs : List Bool} {vs : List V}, D.bls? ds = some bs → Dens K B H ds vs → vs = bs.map V.bl
  | [], bs, vs, e, h => by
    cases e
    exact h
  | d :: ds, bs, vs, e, h => by
    obtain ⟨b, e1, e⟩ := Option.bind_eq_some_iff.mp e
    obtain ⟨bs', e2, e⟩ := Option.bind_eq_some_iff.mp e
    cases e
    cases bl?_e e1
    obtain ⟨v, us, rfl, h1, h2⟩ := h
    have h1 : v = .bl b := h1
    rw [List.map_cons, ← bls?_e e2 h2, h1]
theorem ints?_e {K : PySem.W.Frag} {B : Addr → Prop} {H : Hp} : ∀ {ds : List D} {bs : List Int} {vs : List V}, D.ints? ds = some bs → Dens K B H ds vs → vs = bs.map V.int
  | [], bs, vs, e, h => by
    cases e
    exact h
  | d :: ds, bs, vs, e, h => by
    obtain ⟨b, e1, e⟩ := Option.bind_eq_some_iff.mp e
    obtain ⟨bs', e2, e⟩ := Option.bind_eq_some_iff.mp e
    cases e
    cases int?_e e1
    obtain ⟨v, us, rfl, h1, h2⟩ := h
    have h1 : v = .int b := h1
    rw [List.map_cons, ← ints?_e e2 h2, h1]
theorem b_all (hc : X.calm = true) : CallS X (.builtin "all") o_all := by
  refine ⟨_, cr_all hc, fun B H ds z vs Q e a hz hB q => ?_⟩
  unfold o_all at e
  split at e <;> first | (cases e; done) | skip
  obtain ⟨l, e1, e⟩ := Option.bind_eq_some_iff.mp e
  obtain ⟨bs, e2, e⟩ := Option.bind_eq_some_iff.mp e
  cases e
  cases lst?_e e1
  obtain ⟨v, rfl, p, rfl, xs, hp, hx⟩ := adens1 a
  have := bls?_e e2 hx
  subst this
  exact ⟨p, bs, rfl, SqL.of hp, q _ H (Same.refl H) hz rfl⟩
theorem b_any (hc : X.calm = true) : CallS X (.builtin "any") o_any := by
  refine ⟨_, cr_any hc, fun B H ds z vs Q e a hz hB q => ?_⟩
  unfold o_any at e
  split at e <;> first | (cases e; done) | skip
  obtain ⟨l, e1, e⟩ := Option.bind_eq_some_iff.mp e
  obtain ⟨bs, e2, e⟩ := Option.bind_eq_some_iff.mp e
  cases e
  cases lst?_e e1
  obtain ⟨v, rfl, p, rfl, xs, hp, hx⟩ := adens1 a
  have := bls?_e e2 hx
  subst this
  exact ⟨p, bs, rfl, SqL.of hp, q _ H (Same.refl H) hz rfl⟩
end
end Mini

/-! ## MIter -/
/-! Mini: what is walked. -/
namespace Mini
open PySem PySem.Spec PyProof.Rows L2
variable [Tb]
section
variable {K : PySem.W.Frag} {O : List Nat} {Z : Addr → Prop} {env : En} {σ : L2.St} {H H1 : Hp} {c : Cc} {N : Addr → Prop}
theorem den_old {d : D} {v : V} {B : Addr → Prop} (h : Den K B H1 d v) : Den K (fun a => B a ∨ H1 a = none) H1 d v :=
  Den.sub (fun a ⟨o, e⟩ z => z.elim (fun z => z) fun z => by rw [z] at e; cases e) h
theorem dens_old {ds : List D} {vs : List V} {B : Addr → Prop} (h : Dens K B H1 ds vs) : Dens K (fun a => B a ∨ H1 a = none) H1 ds vs :=
  Dens.sub (fun a ⟨o, e⟩ z => z.elim (fun z => z) fun z => by rw [z] at e; cases e) h
/-- a tuple's items -/
theorem it_tup {a : Addr} {ds : List D} {vs : List V} (r : Rel K O c env σ H1) (ha : SqT K H1 a vs) (h : Dens K (Bd O Z σ) H1 ds vs) (hz : vs.length ≤ sizeLine) : ItD K O Z σ H1 (Itt K a) ds := by
  refine ⟨by rw [h.length]; exact hz, fun H' k => ?_⟩
  have ha' : SqT K H' a vs := SqT.keepT k r.mut ha
  have h' : Dens K (fun a => Bd O Z σ a ∨ H1 a = none) H' ds vs := Dens.keep k r.mut (fun a z => .inl (.inr z)) (dens_old h)
  refine ⟨⟨vs, ha', by rw [← h.length]; exact Nat.le_refl _⟩, fun i d hd => ?_⟩
  obtain ⟨v, e1, e2⟩ := h'.get hd
  refine ⟨⟨vs, v, ha', e1⟩, fun x H3 hy => ?_⟩
  obtain ⟨rfl, hy⟩ := hy
  have := hy vs ha'
  rw [e1] at this
  cases this
  exact ⟨Same.refl _, fun z => z, e2⟩
theorem it_lst {a : Addr} {ds : List D} {vs : List V} (r : Rel K O c env σ H1) (ha : H1 a = some (.lst vs)) (nO : ¬ Ow O σ a) (h : Dens K (Bd O Z σ) H1 ds vs) (hz : vs.length ≤ sizeLine) : ItD K O Z σ H1 (Itl K a) ds := by
  refine ⟨by rw [h.length]; exact hz, fun H' k => ?_⟩
  have ha' : H' a = some (.lst vs) := k a _ ha ntL nO
  have h' : Dens K (fun a => Bd O Z σ a ∨ H1 a = none) H' ds vs := Dens.keep k r.mut (fun a z => .inl (.inr z)) (dens_old h)
  refine ⟨⟨vs, SqL.of ha', by rw [← h.length]; exact Nat.le_refl _⟩, fun i d hd => ?_⟩
  obtain ⟨v, e1, e2⟩ := h'.get hd
  refine ⟨⟨vs, v, SqL.of ha', e1⟩, fun x H3 hy => ?_⟩
  obtain ⟨rfl, hy⟩ := hy
  have := hy vs (SqL.of ha')
  rw [e1] at this
  cases this
  exact ⟨Same.refl _, fun z => z, e2⟩
theorem rngL_get {lo : Int} {n i : Nat} {d : D} (h : (rngL lo n)[i]? = some d) : i < n ∧ d = .int (lo + (i : Nat)) := by
  unfold rngL at h
  rw [List.getElem?_map] at h
  rcases Nat.lt_or_ge i n with hi | hi
  · rw [List.getElem?_range hi] at h
    exact ⟨hi, (Option.some.inj h).symm⟩
  · rw [List.getElem?_eq_none (by rw [List.length_range]; exact hi)] at h
    cases h
theorem rngL_len (lo : Int) (n : Nat) : (rngL lo n).length = n := by
  unfold rngL
  rw [List.length_map, List.length_range]
theorem it_rng {lo : Int} {n : Nat} (hn : n ≤ sizeLine) : ItD K O Z σ H1 (Itr lo n) (rngL lo n) := by
  refine ⟨by rw [rngL_len]; exact hn, fun H' k => ⟨by rw [rngL_len]; exact Nat.le_refl _, fun i d hd => ?_⟩⟩
  obtain ⟨h1, rfl⟩ := rngL_get hd
  refine ⟨h1, fun x H3 hy => ?_⟩
  obtain ⟨rfl, rfl⟩ := hy
  exact ⟨Same.refl _, fun z => z, rfl⟩
/-- what R.seq? reads -/
theorem DenR.seq {r : R} {v : V} {ds : List D} {H0 : Hp} {env1 : En} (h : DenR K O c.Z N σ H1 r v) (r0 : Rel K O c env σ H0) (f : ∀ b, N b → H0 b = none) (r1 : Rel K O (c.nu N O σ H0) env1 σ H1) (e : r.seq? = some ds) :
    ∃ a vs, v = .ref a ∧ Dens K (Bd O c.Z σ) H1 ds vs ∧ vs.length ≤ sizeLine ∧ ((SqT K H1 a vs ∧ (r = .val (.tup ds))) ∨ (H1 a = some (.lst vs) ∧ ¬ Ow O σ a ∧ r ≠ .val (.tup ds))) := by
  have sb : ∀ a, (∃ o, H1 a = some o) → Bd O c.Z σ a → Bd O (Zu c.Z N) σ a := fun a _ z => z.elim (fun z => .inl (.inl z)) .inr
  cases r with
  | own i => cases e
  | val d =>
    cases d with
    | tup xs =>
      cases e
      obtain ⟨a, vs, e1, h1, h2⟩ := h
      exact ⟨a, vs, e1, Dens.sub sb h2, sqt_len r1.sz h1, .inl ⟨h1, rfl⟩⟩
    | lst xs =>
      cases e
      obtain ⟨a, vs, e1, h0, h1, h2⟩ := h
      exact ⟨a, vs, e1, Dens.sub sb h2, (r1.sz a vs).1 (.inl h1), .inr ⟨h1, (fun z => h0 (.inr z)), (fun z => by cases z)⟩⟩
    | _ => cases e
  | new d =>
    obtain ⟨a, e1, hn, hm⟩ := h
    cases d with
    | lst xs =>
      cases e
      obtain ⟨vs, h1, h2⟩ := hm
      exact ⟨a, vs, e1, Dens.sub sb h2, (r1.sz a vs).1 (.inl h1), .inr ⟨h1, (fun z => (r1.own a z).2.2 (.inr hn)), (fun z => by cases z)⟩⟩
    | tup xs => exact hm.elim
    | _ => cases e
end
section
variable {X : Cx} {O : List Nat} {tg e : Expr} {es : List Expr}
theorem pi_e {f : EF} (h : GE X O e f) : PI X tg e (tI X.K O (it_e f)) := by
  refine ⟨fun pins s σ H R I ⟨c, env, ds, env1, hr, he, q⟩ => ?_⟩
  obtain ⟨⟨r, env2⟩, e1, h2⟩ := Option.bind_eq_some_iff.mp he
  obtain ⟨ds', e2, h2⟩ := Option.bind_eq_some_iff.mp h2
  cases h2
  by_cases ht : r = .val (.tup ds)
  · refine (pi_tup h).run pins s σ H R I ⟨c, env, r, env2, hr, e1, fun N v H1 q1 f1 d1 => ?_⟩
    obtain ⟨a, vs, rfl, hd, hz, ⟨ha, _⟩ | ⟨ha, nO⟩⟩ := d1.seq hr f1 q1 e2
    · exact ⟨a, rfl, ⟨vs, ha⟩, q _ _ q1.drop (it_tup q1 ha hd hz)⟩
    · exact absurd ht nO.2
  · refine (pi_list h).run pins s σ H R I ⟨c, env, r, env2, hr, e1, fun N v H1 q1 f1 d1 => ?_⟩
    obtain ⟨a, vs, rfl, hd, hz, ⟨_, ht'⟩ | ⟨ha, nO, _⟩⟩ := d1.seq hr f1 q1 e2
    · exact absurd ht' ht
    · exact ⟨a, rfl, ⟨vs, SqL.of ha⟩, q _ _ q1.drop (it_lst q1 ha nO hd hz)⟩

/-! ### ranges -/
theorem gi_r1 {a : Expr} {f : EF} (h : GE X O a f) (w : ∀ {t : TA}, PA X [a] t → PI X tg e (iRng1 t)) (hs : starEach [a] X.env = (false, eval a X.env) :: starEach [] X.env := by rfl) : PI X tg e (tI X.K O (it_r1 f)) := by
  have ha : GA X O [a] (a_cons f a_nil) := g_cons h g_nil hs
  refine PI.w (w ha.pa) fun σ H R ⟨c, env, ds, env1, hr, he, q⟩ => ?_
  obtain ⟨⟨r, env2⟩, e1, h2⟩ := Option.bind_eq_some_iff.mp he
  obtain ⟨d, e2, h2⟩ := Option.bind_eq_some_iff.mp h2
  obtain ⟨j, e3, h2⟩ := Option.bind_eq_some_iff.mp h2
  split at h2
  · rename_i hj
    cases h2
    cases int?_e e3
    refine ⟨c, env, [r], env2, hr, by unfold a_cons a_nil; rw [e1]; rfl, fun N vs H1 q1 f1 d1 => ?_⟩
    obtain ⟨v, us, rfl, d2, d3⟩ := d1
    have d3 : us = [] := d3
    subst d3
    have hv : v = .int j := d2.at q1 e2
    subst hv
    obtain ⟨j1, j2⟩ := rngOk_e hj.1
    exact ⟨j, rfl, j1, j2, q _ _ q1.drop (it_rng (by rw [← sz_eq]; rw [sz_val]; have := le24_e hj.2; omega))⟩
  · cases h2
theorem gi_r2 {a b : Expr} {fa fb : EF} (ha : GE X O a fa) (hb : GE X O b fb) (w : ∀ {t : TA}, PA X [a, b] t → PI X tg e (iRng2 t)) (hs : starEach [a, b] X.env = (false, eval a X.env) :: starEach [b] X.env := by rfl)
    (hs2 : starEach [b] X.env = (false, eval b X.env) :: starEach [] X.env := by rfl) : PI X tg e (tI X.K O (it_r2 fa fb)) := by
  have hA : GA X O [a, b] (a_cons fa (a_cons fb a_nil)) := g_cons ha (g_cons hb g_nil hs2) hs
  refine PI.w (w hA.pa) fun σ H R ⟨c, env, ds, env1, hr, he, q⟩ => ?_
  obtain ⟨⟨r, env2⟩, e1, h2⟩ := Option.bind_eq_some_iff.mp he
  obtain ⟨⟨r', env3⟩, e1', h2⟩ := Option.bind_eq_some_iff.mp h2
  obtain ⟨d, e2, h2⟩ := Option.bind_eq_some_iff.mp h2
  obtain ⟨d', e2', h2⟩ := Option.bind_eq_some_iff.mp h2
  obtain ⟨i, e3, h2⟩ := Option.bind_eq_some_iff.mp h2
  obtain ⟨j, e3', h2⟩ := Option.bind_eq_some_iff.mp h2
  split at h2
  · rename_i hj
    cases h2
    cases int?_e e3
    cases int?_e e3'
    have e1' : fb env2 = some (r', env3) := e1'
    refine ⟨c, env, [r, r'], env3, hr, by simp only [a_cons, a_nil, e1, e1', Option.bind_some], fun N vs H1 q1 f1 d1 => ?_⟩
    obtain ⟨v, us, rfl, d2, v', us', rfl, d3, d4⟩ := d1
    have d4 : us' = [] := d4
    subst d4
    have hv : v = .int i := d2.at q1 e2
    have hv' : v' = .int j := d3.at q1 e2'
    subst hv hv'
    obtain ⟨i1, i2⟩ := rngOk_e hj.1
    obtain ⟨j1, j2⟩ := rngOk_e hj.2.1
    exact ⟨i, j, rfl, ⟨i1, i2, j1, j2⟩, q _ _ q1.drop (it_rng (by rw [← sz_eq]; rw [sz_val]; have := le24_e hj.2.2; omega))⟩
  · cases h2

/-! ### enumerate -/
theorem enum_no (h : Value.type "tuple_iterator" = Value.type "tuple") : False := by
  injection h with h
  exact absurd h (by decide)
theorem enum_no2 (h : Value.type "enumerate" = Value.type "tuple") : False := by
  injection h with h
  exact absurd h (by decide)
/-- over a tuple: each item in a new pair -/
def IteT (K : PySem.W.Frag) (a : Addr) : It :=
  ⟨fun i H => ∃ (xs : List V) (x : V), SqT K H a xs ∧ xs[i]? = some x, fun i H v H' => ∃ T x, v = .ref T ∧ H T = none ∧ H' = upd H T (.tup [.int (i : Nat), x]) ∧ ∀ xs, SqT K H a xs → xs[i]? = some x,
   fun i H => ∃ xs : List V, SqT K H a xs ∧ xs.length = i⟩
theorem turn_enumT {P : Program} {w : World} {K : PySem.W.Frag} {elts : List Expr} {kk : Nat} {tpos : Pos} (a e it : Addr) :
    Turn P w K (.Tuple elts kk tpos) (IteT K a) [e, it] e (fun i h => (∃ old, IsEnum h e it ((i : Nat) : Int) old) ∧ h.IsTupleIter it a i ∧ e ≠ it) := by
  have two : ∀ {b : Addr}, b ∈ [e, it] → b = e ∨ b = it := fun {b} hb => by simpa using hb
  refine ⟨by simp, fun i h st b hb => ?_, fun i h h' st k => ?_, ?_, ?_, fun A i s Q E st h => ?_⟩
  · obtain ⟨⟨old, he⟩, ⟨o, ho, hc, hd⟩, _⟩ := st
    rcases two hb with z | z
    · exact ⟨_, by rw [z]; exact he, fun v q => by cases q⟩
    · exact ⟨o, by rw [z]; exact ho, fun v q => by rw [hd] at q; cases q⟩
  · obtain ⟨⟨old, he⟩, hi, hne⟩ := st
    exact ⟨⟨old, k e (by simp) _ he⟩, hi.at fun o q => k it (by simp) o q, hne⟩
  · intro X hP hw hK hc i pins s σ H E I hf st hg
    subst hP
    subst hw
    subst hK
    obtain ⟨⟨old, he⟩, hit, hne⟩ := st
    obtain ⟨xs, x, hq, hx⟩ := hg
    obtain ⟨its, rv, p, hz⟩ := I.tuple hq
    obtain ⟨u, hu, ru⟩ := rv.get hx
    have hel : e < s.heap.objs.size := Heap.lt_size he
    have hil : it < s.heap.objs.size := (hit.elim fun _ q => Heap.lt_size q.1)
    have hai : a ≠ it := fun z => by
      obtain ⟨o, ho, hc1, _⟩ := hit
      obtain ⟨o', ho', hc2, _⟩ := p
      rw [z, ho] at ho'
      cases ho'
      rw [hc1] at hc2
      exact enum_no hc2
    have hae : a ≠ e := fun z => by
      obtain ⟨o', ho', hc2, _⟩ := p
      rw [z] at ho'
      have he' : s.heap.get? e = some _ := he
      rw [he'] at ho'
      cases ho'
      exact enum_no2 hc2
    have hef : e ∉ [it, a] := fun z => by
      simp only [List.mem_cons, List.mem_nil_iff, or_false] at z
      exact z.elim hne fun z => hae z.symm
    have hlt : i < its.toArray.size := by
      rcases Nat.lt_or_ge i its.length with h' | h'
      · simpa using h'
      · rw [List.getElem?_eq_none h'] at hu; cases hu
    refine wpAny_pyNext_enum_itemC (Draws.tuple (A := X.A.in1) (I.ok.hd hc) it a hai its.toArray) he ⟨hit, p⟩ hlt hne hef fun y h' tk hy ho hit' hT hsz hk => ?_
    have hy' : y = u := by
      have hy : its.toArray[i]? = some y := hy
      rw [List.getElem?_toArray, hu] at hy
      exact (Option.some.inj hy).symm
    subst hy'
    refine ⟨_, rfl, wpAny_letOwnedTupleGo_enum (s := { s with heap := h', toks := tk + 1 }) ho fun h'' he' sb => ?_⟩
    have hT2 := (sb.2 _ (Nat.ne_of_gt hel)).trans hT
    have new : ObjOk X.prog X.w (upd H s.heap.objs.size (.tup [.int (i : Nat), x])) h'' s.heap.objs.size (.tup [.int (i : Nat), x]) := by
      refine ⟨by show 2 ≤ sizeLine; decide, [.int i tk, y], .cons ⟨_, rfl⟩ (.cons ru .nil), ?_⟩
      exact ⟨_, hT2, rfl, _, rfl⟩
    have I1 : Inv X pins σ (upd H s.heap.objs.size (.tup [.int (i : Nat), x])) { s with heap := h'', toks := tk + 1 } := by
      refine I.turnedNew (ch := [e, it]) (fun b ob hb q => ?_) hf (Nat.le_refl _) new
      have n1 : b ≠ e := fun z => hb (by simp [z])
      have n2 : b ≠ it := fun z => hb (by simp [z])
      exact (sb.2 b n1).trans (hk b ob n1 n2 q)
    refine ⟨.ref s.heap.objs.size, _, I1, rfl, ⟨_, x, rfl, I.hok.fresh (Nat.le_refl _), rfl, fun ys hy => by rw [I.tuple_inj hy hq]; exact hx⟩, ⟨⟨y, ?_⟩, ?_, hne⟩, fun b hb => ?_⟩
    · have e1 : ((i + 1 : Nat) : Int) = (i : Int) + 1 := by omega
      rw [e1]
      exact he'
    · exact hit'.1.at fun o q => (sb.2 it (Ne.symm hne)).trans q
    · have hb' : b < s.heap.objs.size := (two hb).elim (fun z => by rw [z]; exact hel) fun z => by rw [z]; exact hil
      rw [upd_ne (Nat.ne_of_lt hb')]
      exact (hf b hb).1
  · intro X hP hw hK hc i pins s σ H E I hf st hg
    subst hP
    subst hw
    subst hK
    obtain ⟨⟨old, he⟩, hit, hne⟩ := st
    obtain ⟨xs, hq, hx⟩ := hg
    obtain ⟨its, rv, p, hz⟩ := I.tuple hq
    have hai : a ≠ it := fun z => by
      obtain ⟨o, ho, hc1, _⟩ := hit
      obtain ⟨o', ho', hc2, _⟩ := p
      rw [z, ho] at ho'
      cases ho'
      rw [hc1] at hc2
      exact enum_no hc2
    have hi : i = its.toArray.size := by
      rw [List.size_toArray, ← rv.length]
      exact hx.symm
    obtain ⟨f0, f1, f2, f3, f4, f5⟩ := hf it (by simp)
    have D := Draws.tuple (prog := X.prog) (w := X.w) (A := X.A.in1) (I.ok.hd hc) it a hai its.toArray
    refine wpAny_pyNext_enum_endD D he ⟨by rw [← hi]; exact hit, p⟩ fun h' eb => ⟨rfl, ?_⟩
    exact I.turned (t' := s.toks) (fun b o hb q => eb b o hb q) f0 f1 f3 f4 f5
  · obtain ⟨⟨_, he⟩, _⟩ := st
    exact wpAny_pyIter_enum he h
end
end Mini

/-! ## MIter2 -/
/-! Mini: enumerate, zip. -/
namespace PySem
open Sem (wp)
set_option maxHeartbeats 1000000 in
theorem mini_enum1 {v : Value} {o : Obj} {W : Heap → Prop} (B : Begins v o W) :
    Meets (Builtin.«enumerate.__new__» ⟨[.type "enumerate", v], []⟩) (fun _ R s => W s.heap ∧
      R (.ok (.ret (.ref (s.heap.push o).objs.size))) { s with heap := (s.heap.push o).push { cls := .type "enumerate", data := .fields #[.none, .bool false, .ref s.heap.objs.size, rawInt 0, .none, .none] } }) := by
  refine .of_wp fun prog w A R s ⟨h1, h⟩ => ?_
  obtain ⟨hp, g, d, tk, os⟩ := s
  have hsub := sub_enumerate
  have q1 : ∀ {A' : Around} {E Q : Value → Shared → Prop}, Q (.ref hp.objs.size) ⟨hp.push o, g, d, tk, os⟩ → wpAny (model prog w) A' (pyIter v) Q E ⟨hp, g, d, tk, os⟩ := fun q => B.iter prog w _ _ _ _ h1 q
  wp_walk using q1
  refine wpAny_stack_any fun st => wpAny_pure ?_
  split
  · rename_i c _ _ _ _ _
    cases (c == Value.type "enumerate") <;> (wp_walk using q1; exact ⟨_, rfl, h⟩)
  · (wp_walk using q1; exact ⟨_, rfl, h⟩)
/-- enumerate(v): two new things -/
theorem mini_enum {prog : Program} {w : World} {A : Around} {E : Value → Shared → Prop} {s : Shared} {v : Value} {o : Obj} {W : Heap → Prop} {Q : Value → Shared → Prop} (B : Begins v o W) (h1 : W s.heap)
    (h : ∀ h', IsEnum h' (s.heap.objs.size + 1) s.heap.objs.size 0 .none → h'.get? s.heap.objs.size = some o → (∀ b o, s.heap.get? b = some o → h'.get? b = some o) → Q (.ref (s.heap.objs.size + 1)) { s with heap := h' }) :
    wpAny (model prog w) A (call (.type "enumerate") [v]) Q E s := by
  refine callType_new F.called_enumerate (by decide) (F.typeCall_enumerate_1 _) (F.newCall_enumerate_1 _) (fun obj => F.args_object_init_2 obj _) F.entry_enumerate_new (mini_enum1 B) ⟨h1, ?_⟩
  have hz : (s.heap.push o).objs.size = s.heap.objs.size + 1 := Heap.size_push ..
  have he := Heap.get?_push_size (s.heap.push o) (o := { cls := .type "enumerate", data := .fields #[.none, .bool false, .ref s.heap.objs.size, rawInt 0, .none, .none] }) rfl
  rw [hz] at he
  show _ ∧ _
  rw [hz]
  exact ⟨⟨_, he, rfl⟩, h _ he (Heap.get?_push_of_some _ (Heap.get?_push_size _ B.free)) fun b o x => Heap.get?_push_of_some _ (Heap.get?_push_of_some _ x)⟩
end PySem
namespace Mini
open PySem PySem.Spec PyProof.Rows L2
variable [Tb]
section
variable {X : Cx} {O : List Nat} {e a b : Expr}
def iEnumT (K : PySem.W.Frag) (ta : TA) : TI := fun σ H R => ta σ H fun vs H1 => ∃ a xs, vs = [.ref a] ∧ SqT K H1 a xs ∧ R (IteT K a) H1
theorem pi_enumT {ta : TA} {p pos tpos : Pos} {elts : List Expr} {kk : Nat} (hg : Gl X "enumerate") (hm : X.mg "enumerate" = none) (ha : PA X [e] ta) (hs : starEach [e] X.env = [(false, eval e X.env)] := by rfl) :
    PI X (.Tuple elts kk tpos) (.Call (.Name "enumerate" p) [e] [] pos) (iEnumT X.K ta) := by
  refine ⟨fun pins s σ H R I h => Call_ (ld_blt I hg hm boot_enumerate (PyProof.Rows.callWith_type1 (thn (ha.run pos pins s σ H _ I h) fun us s1 ⟨vs, H1, I1, r1, q1⟩ => ?_) hs rfl))⟩
  obtain ⟨a, xs, ex, hq, q⟩ := q1
  subst ex
  rw [Vals.ref1 r1]
  obtain ⟨its, rv, p', hz⟩ := I1.tuple hq
  refine mini_enum (begins_tuple a its.toArray) p' fun h' he hit hk => wpAny_pyIter_enum he ?_
  have I2 : Inv X pins σ H1 { s1 with heap := h' } := I1.kept (t' := s1.toks) hk
  refine ⟨s1.heap.objs.size + 1, [s1.heap.objs.size + 1, s1.heap.objs.size], _, _, H1, rfl, I2, turn_enumT a (s1.heap.objs.size + 1) s1.heap.objs.size, ⟨⟨.none, he⟩, ⟨_, hit, rfl, rfl⟩, Nat.succ_ne_self _⟩, fun b hb => ?_, q⟩
  have hle : s1.heap.objs.size ≤ b := by
    simp only [List.mem_cons, List.mem_nil_iff, or_false] at hb
    rcases hb with z | z
    · rw [z]; exact Nat.le_succ _
    · rw [z]; exact Nat.le_refl _
  exact I1.fpOk hle (I1.hok.fresh hle)
theorem enumFrom_len : ∀ (ds : List D) (n : Nat), (enumFrom n ds).length = ds.length
  | [], _ => rfl
  | d :: ds, n => by unfold enumFrom; rw [List.length_cons, List.length_cons, enumFrom_len ds]
theorem enumFrom_get : ∀ {ds : List D} {n i : Nat} {d : D}, (enumFrom n ds)[i]? = some d → ∃ x, ds[i]? = some x ∧ d = .tup [.int (n + i : Nat), x]
  | [], _, _, _, h => by cases h
  | x :: ds, n, 0, d, h => ⟨x, rfl, by rw [Nat.add_zero]; exact (Option.some.inj h).symm⟩
  | x :: ds, n, i + 1, d, h => by
    obtain ⟨y, h1, h2⟩ := enumFrom_get (ds := ds) (n := n + 1) (i := i) (d := d) h
    exact ⟨y, h1, by rw [h2, Nat.add_right_comm]; rfl⟩
section
variable {K : PySem.W.Frag} {Z : Addr → Prop} {env : En} {σ : L2.St} {H1 : Hp} {c : Cc}
/-- a new pair at a turn -/
theorem new_pair {H' : Hp} {T : Addr} {B : Addr → Prop} {ds : List D} {vs : List V} (hT : H' T = none) (h : Dens K B H' ds vs) (hl : vs.length ≤ sizeLine) :
    Same H' (upd H' T (.tup vs)) ∧ (SzH H' → SzH (upd H' T (.tup vs))) ∧ Den K B (upd H' T (.tup vs)) (.tup ds) (.ref T) :=
  ⟨same_new hT, fun z => sz_tup z hl, T, vs, rfl, SqT.of upd_same, Dens.keep (O := fun _ => False) (fun a o e n _ => (same_new hT).keep a o e n) (fun _ z => z.elim) (fun _ z => z.elim) h⟩
theorem it_enumT {a : Addr} {ds : List D} {vs : List V} (r : Rel K O c env σ H1) (ha : SqT K H1 a vs) (h : Dens K (Bd O Z σ) H1 ds vs) (hz : vs.length ≤ sizeLine) : ItD K O Z σ H1 (IteT K a) (enumFrom 0 ds) := by
  refine ⟨by rw [enumFrom_len, h.length]; exact hz, fun H' k => ?_⟩
  have ha' : SqT K H' a vs := SqT.keepT k r.mut ha
  have h' : Dens K (fun a => Bd O Z σ a ∨ H1 a = none) H' ds vs := Dens.keep k r.mut (fun a z => .inl (.inr z)) (dens_old h)
  refine ⟨⟨vs, ha', by rw [enumFrom_len, ← h.length]⟩, fun i d hd => ?_⟩
  obtain ⟨x, hx, rfl⟩ := enumFrom_get hd
  obtain ⟨v, e1, e2⟩ := h'.get hx
  refine ⟨⟨vs, v, ha', e1⟩, fun y H3 hy => ?_⟩
  obtain ⟨T, x', rfl, hT, rfl, hy⟩ := hy
  have := hy vs ha'
  rw [e1] at this
  cases this
  rw [Nat.zero_add]
  exact new_pair hT ⟨_, [_], rfl, rfl, _, [], rfl, e2, rfl⟩ (by show 2 ≤ sizeLine; decide)
theorem it_enumL {a : Addr} {ds : List D} {vs : List V} (r : Rel K O c env σ H1) (ha : H1 a = some (.lst vs)) (nO : ¬ Ow O σ a) (h : Dens K (Bd O Z σ) H1 ds vs) (hz : vs.length ≤ sizeLine) : ItD K O Z σ H1 (Ite K a) (enumFrom 0 ds) := by
  refine ⟨by rw [enumFrom_len, h.length]; exact hz, fun H' k => ?_⟩
  have ha' : H' a = some (.lst vs) := k a _ ha ntL nO
  have h' : Dens K (fun a => Bd O Z σ a ∨ H1 a = none) H' ds vs := Dens.keep k r.mut (fun a z => .inl (.inr z)) (dens_old h)
  refine ⟨⟨vs, SqL.of ha', by rw [enumFrom_len, ← h.length]; exact Nat.le_refl _⟩, fun i d hd => ?_⟩
  obtain ⟨x, hx, rfl⟩ := enumFrom_get hd
  obtain ⟨v, e1, e2⟩ := h'.get hx
  refine ⟨⟨vs, v, SqL.of ha', e1⟩, fun y H3 hy => ?_⟩
  obtain ⟨T, x', rfl, hT, rfl, hy⟩ := hy
  have := hy vs (SqL.of ha')
  rw [e1] at this
  cases this
  rw [Nat.zero_add]
  exact new_pair hT ⟨_, [_], rfl, rfl, _, [], rfl, e2, rfl⟩ (by show 2 ≤ sizeLine; decide)
theorem zipD_get : ∀ {as bs : List D} {i : Nat} {d : D}, (zipD as bs)[i]? = some d → ∃ x y, as[i]? = some x ∧ bs[i]? = some y ∧ d = .tup [x, y]
  | [], _, _, _, h => by simp [zipD] at h
  | _ :: _, [], _, _, h => by simp [zipD] at h
  | a :: as, b :: bs, 0, d, h => ⟨a, b, rfl, rfl, (Option.some.inj h).symm⟩
  | a :: as, b :: bs, i + 1, d, h => zipD_get (as := as) (bs := bs) (i := i) (d := d) h
theorem zipD_len : ∀ (as bs : List D), (zipD as bs).length = min as.length bs.length
  | [], _ => by simp [zipD]
  | _ :: _, [] => by simp [zipD]
  | a :: as, b :: bs => by
    unfold zipD
    rw [List.length_cons, List.length_cons, List.length_cons, zipD_len as bs]
    omega
theorem it_zipT {a b : Addr} {ds es : List D} {vs us : List V} (r : Rel K O c env σ H1) (ha : SqT K H1 a vs) (hb : SqT K H1 b us) (h : Dens K (Bd O Z σ) H1 ds vs) (g : Dens K (Bd O Z σ) H1 es us) (hz : vs.length ≤ sizeLine) : ItD K O Z σ H1 (RZ.ItzT K a b) (zipD ds es) := by
  refine ⟨by rw [zipD_len, h.length]; omega, fun H' k => ?_⟩
  have ha' : SqT K H' a vs := SqT.keepT k r.mut ha
  have hb' : SqT K H' b us := SqT.keepT k r.mut hb
  have h' : Dens K (fun a => Bd O Z σ a ∨ H1 a = none) H' ds vs := Dens.keep k r.mut (fun a z => .inl (.inr z)) (dens_old h)
  have g' : Dens K (fun a => Bd O Z σ a ∨ H1 a = none) H' es us := Dens.keep k r.mut (fun a z => .inl (.inr z)) (dens_old g)
  refine ⟨⟨vs, us, ha', hb', by rw [zipD_len, ← h.length, ← g.length]; omega⟩, fun i d hd => ?_⟩
  obtain ⟨x, y, hx, hy, rfl⟩ := zipD_get hd
  obtain ⟨v, e1, e2⟩ := h'.get hx
  obtain ⟨u, e3, e4⟩ := g'.get hy
  refine ⟨⟨vs, us, v, u, ha', hb', e1, e3⟩, fun z H3 hz => ?_⟩
  obtain ⟨T, x', y', rfl, hT, rfl, q1, q2⟩ := hz
  have q1 := q1 vs ha'
  have q2 := q2 us hb'
  rw [e1] at q1
  rw [e3] at q2
  cases q1
  cases q2
  exact new_pair hT ⟨_, [_], rfl, e2, _, [], rfl, e4, rfl⟩ (by show 2 ≤ sizeLine; decide)
theorem it_zipL {a b : Addr} {ds es : List D} {vs us : List V} (r : Rel K O c env σ H1) (ha : H1 a = some (.lst vs)) (hb : H1 b = some (.lst us)) (na : ¬ Ow O σ a) (nb : ¬ Ow O σ b) (h : Dens K (Bd O Z σ) H1 ds vs) (g : Dens K (Bd O Z σ) H1 es us) (hz : vs.length ≤ sizeLine) :
    ItD K O Z σ H1 (Itz K a b) (zipD ds es) := by
  refine ⟨by rw [zipD_len, h.length]; omega, fun H' k => ?_⟩
  have ha' : SqL K H' a vs := SqL.of (k a _ ha ntL na)
  have hb' : SqL K H' b us := SqL.of (k b _ hb ntL nb)
  have h' : Dens K (fun a => Bd O Z σ a ∨ H1 a = none) H' ds vs := Dens.keep k r.mut (fun a z => .inl (.inr z)) (dens_old h)
  have g' : Dens K (fun a => Bd O Z σ a ∨ H1 a = none) H' es us := Dens.keep k r.mut (fun a z => .inl (.inr z)) (dens_old g)
  refine ⟨⟨vs, us, ha', hb', by rw [zipD_len, ← h.length, ← g.length]; omega⟩, fun i d hd => ?_⟩
  obtain ⟨x, y, hx, hy, rfl⟩ := zipD_get hd
  obtain ⟨v, e1, e2⟩ := h'.get hx
  obtain ⟨u, e3, e4⟩ := g'.get hy
  refine ⟨⟨vs, us, v, u, ha', hb', e1, e3⟩, fun z H3 hz => ?_⟩
  obtain ⟨T, x', y', rfl, hT, rfl, q1, q2⟩ := hz
  have q1 := q1 vs ha'
  have q2 := q2 us hb'
  rw [e1] at q1
  rw [e3] at q2
  cases q1
  cases q2
  exact new_pair hT ⟨_, [_], rfl, e2, _, [], rfl, e4, rfl⟩ (by show 2 ≤ sizeLine; decide)
end
theorem gi_enum {f : EF} {tg ex : Expr} (h : GE X O a f) (wL : ∀ {t : TA}, PA X [a] t → PI X tg ex (iEnum X.K t)) (wT : ∀ {t : TA}, PA X [a] t → PI X tg ex (iEnumT X.K t)) (hs : starEach [a] X.env = (false, eval a X.env) :: starEach [] X.env := by rfl) : PI X tg ex (tI X.K O (it_enum f)) := by
  have ha : GA X O [a] (a_cons f a_nil) := g_cons h g_nil hs
  refine ⟨fun pins s σ H R I ⟨c, env, ds, env1, hr, he, q⟩ => ?_⟩
  obtain ⟨⟨r, env2⟩, e1, h2⟩ := Option.bind_eq_some_iff.mp he
  obtain ⟨ds', e2, h2⟩ := Option.bind_eq_some_iff.mp h2
  cases h2
  have eA : a_cons f a_nil env = some ([r], env2) := by simp only [a_cons, a_nil, e1, Option.bind_some]
  by_cases ht : r = .val (.tup ds')
  · refine (wT ha.pa).run pins s σ H R I ⟨c, env, [r], env2, hr, eA, fun N us H1 q1 f1 d1 => ?_⟩
    obtain ⟨v, us, rfl, d2, d3⟩ := d1
    have d3 : us = [] := d3
    subst d3
    obtain ⟨p, vs, rfl, hd, hz, ⟨ha, _⟩ | ⟨ha, nO, nt⟩⟩ := d2.seq hr f1 q1 e2
    · exact ⟨p, vs, rfl, ha, q _ _ q1.drop (it_enumT q1 ha hd hz)⟩
    · exact absurd ht nt
  · refine (wL ha.pa).run pins s σ H R I ⟨c, env, [r], env2, hr, eA, fun N us H1 q1 f1 d1 => ?_⟩
    obtain ⟨v, us, rfl, d2, d3⟩ := d1
    have d3 : us = [] := d3
    subst d3
    obtain ⟨p, vs, rfl, hd, hz, ⟨_, ht'⟩ | ⟨ha, nO, _⟩⟩ := d2.seq hr f1 q1 e2
    · exact absurd ht' ht
    · exact ⟨p, vs, rfl, SqL.of ha, q _ _ q1.drop (it_enumL q1 ha nO hd hz)⟩
theorem gi_zip {fa fb : EF} {tg ex : Expr} (hA : GE X O a fa) (hB : GE X O b fb) (w : ∀ {t : TA}, PA X [a, b] t → PI X tg ex (RZ.iZipA X.K t)) (hs : starEach [a, b] X.env = (false, eval a X.env) :: starEach [b] X.env := by rfl)
    (hs2 : starEach [b] X.env = (false, eval b X.env) :: starEach [] X.env := by rfl) : PI X tg ex (tI X.K O (it_zip fa fb)) := by
  have ha : GA X O [a, b] (a_cons fa (a_cons fb a_nil)) := g_cons hA (g_cons hB g_nil hs2) hs
  refine PI.w (w ha.pa) fun σ H R ⟨c, env, ds, env1, hr, he, q⟩ => ?_
  obtain ⟨⟨r, env2⟩, e1, h2⟩ := Option.bind_eq_some_iff.mp he
  obtain ⟨⟨r', env3⟩, e1', h2⟩ := Option.bind_eq_some_iff.mp h2
  have e1' : fb env2 = some (r', env3) := e1'
  refine ⟨c, env, [r, r'], env3, hr, by simp only [a_cons, a_nil, e1, e1', Option.bind_some], fun N us H1 q1 f1 d1 => ?_⟩
  obtain ⟨v, us, rfl, d2, v', us', rfl, d3, d4⟩ := d1
  have d4 : us' = [] := d4
  subst d4
  -- both sequences
  have go : ∀ {x y : List D}, r.seq? = some x → r'.seq? = some y → (r = .val (.tup x) ↔ r' = .val (.tup y)) → ds = zipD x y → env1 = env3 → ∃ p t xs ys, [v, v'] = [.ref p, .ref t] ∧ ((SqL X.K H1 p xs ∧ SqL X.K H1 t ys ∧ R (Itz X.K p t) H1) ∨ (SqT X.K H1 p xs ∧ SqT X.K H1 t ys ∧ R (RZ.ItzT X.K p t) H1)) := by
    intro x y s1 s2 hk hds he3
    subst hds
    subst he3
    obtain ⟨p, vs, rfl, hd, hz, hA⟩ := d2.seq hr f1 q1 s1
    obtain ⟨t, ws, rfl, hd', hz', hA'⟩ := d3.seq hr f1 q1 s2
    refine ⟨p, t, vs, ws, rfl, ?_⟩
    rcases hA with ⟨ha, e⟩ | ⟨ha, nO, ne⟩
    · rcases hA' with ⟨hb, e'⟩ | ⟨hb, nO', ne'⟩
      · exact .inr ⟨ha, hb, q _ _ q1.drop (it_zipT q1 ha hb hd hd' hz)⟩
      · exact absurd (hk.mp e) ne'
    · rcases hA' with ⟨hb, e'⟩ | ⟨hb, nO', ne'⟩
      · exact absurd (hk.mpr e') ne
      · exact .inl ⟨SqL.of ha, SqL.of hb, q _ _ q1.drop (it_zipL q1 ha hb nO nO' hd hd' hz)⟩
  simp only at h2
  split at h2 <;> first | (cases h2; done) | skip
  · cases h2; exact go rfl rfl ⟨fun _ => rfl, fun _ => rfl⟩ rfl rfl
  · cases h2; exact go rfl rfl ⟨(fun z => by cases z), (fun z => by cases z)⟩ rfl rfl
  · cases h2; exact go rfl rfl ⟨(fun z => by cases z), (fun z => by cases z)⟩ rfl rfl
  · cases h2; exact go rfl rfl ⟨(fun z => by cases z), (fun z => by cases z)⟩ rfl rfl
  · cases h2; exact go rfl rfl ⟨(fun z => by cases z), (fun z => by cases z)⟩ rfl rfl
end
end Mini

/-! ## MOps2 -/
/-! Mini: == and in of data, max, min, sum, methods. -/
namespace Mini
open PySem PySem.Spec PyProof.Rows L2
variable [Tb]

/-! ### data as PyData -/
mutual
def D.py : D → PyData
  | .non => .none
  | .bl b => .bool b
  | .int i => .int i
  | .str x => .str x
  | .tup ds => .tuple (D.pys ds)
  | .lst ds => .list (D.pys ds)
  | .scr _ => .none
  | .dct _ _ => .none
  | .ty _ => .none
def D.pys : List D → List PyData
  | [] => []
  | d :: ds => D.py d :: D.pys ds
end
section
variable {K : PySem.W.Frag} {B : Addr → Prop} {H : Hp}
mutual
theorem Den.dp : ∀ {d : D} {k : Nat} {v : V}, D.pyOk d k = true → Den K B H d v → Dp K H v d.py
  | .non, _, v, _, h => by rw [show v = .non from h]; exact .non
  | .bl b, _, v, _, h => by rw [show v = .bl b from h]; exact .bl b
  | .int b, _, v, _, h => by rw [show v = .int b from h]; exact .int b
  | .str b, _, v, _, h => by rw [show v = .str b from h]; exact .str b
  | .tup ds, 0, v, f, h => by simp [D.pyOk] at f
  | .tup ds, k + 1, v, f, h => by
    obtain ⟨a, vs, e, h1, h2⟩ := h
    subst e
    exact .tup h1 (Dens.dp (k := k) (by simpa [D.pyOk] using f) h2)
  | .lst ds, 0, v, f, h => by simp [D.pyOk] at f
  | .lst ds, k + 1, v, f, h => by
    obtain ⟨a, vs, e, _, h1, h2⟩ := h
    subst e
    exact .lst (SqL.of h1) (Dens.dp (k := k) (by simpa [D.pyOk] using f) h2)
  | .scr ds, _, v, f, h => by simp [D.pyOk] at f
  | .dct ks ds, _, v, f, h => by simp [D.pyOk] at f
  | .ty n, _, v, f, h => by simp [D.pyOk] at f
theorem Dens.dp : ∀ {ds : List D} {k : Nat} {vs : List V}, D.pyOks ds k = true → Dens K B H ds vs → DpAll K H vs (D.pys ds)
  | [], _, vs, _, h => by
    have e : vs = [] := h
    subst e
    exact .nil
  | d :: ds, k, vs, f, h => by
    obtain ⟨v, r, e, h1, h2⟩ := h
    subst e
    have f' : D.pyOk d k = true ∧ D.pyOks ds k = true := by simpa [D.pyOks] using f
    exact .cons (Den.dp f'.1 h1) (Dens.dp f'.2 h2)
end
theorem ADen.dp {d : D} {k : Nat} {v : V} (f : D.pyOk d k = true) (h : ADen K B H d v) : Dp K H v d.py := by
  cases d with
  | lst ds =>
    cases k with
    | zero => simp [D.pyOk] at f
    | succ k =>
      obtain ⟨a, rfl, vs, h1, h2⟩ := h
      exact .lst (SqL.of h1) (Dens.dp (k := k) (by simpa [D.pyOk] using f) h2)
  | dct ks ds => simp [D.pyOk] at f
  | _ => exact Den.dp (B := B) f h
end
mutual
theorem py_ok : ∀ (d : D) (k : Nat), D.pyOk d k = true → d.py.canLay0 = true ∧ d.py.depth ≤ k
  | .non, _, _ => ⟨by simp [D.py, PyData.canLay0], by simp [D.py, PyData.depth]⟩
  | .bl _, _, _ => ⟨by simp [D.py, PyData.canLay0], by simp [D.py, PyData.depth]⟩
  | .int _, _, _ => ⟨by simp [D.py, PyData.canLay0], by simp [D.py, PyData.depth]⟩
  | .str x, _, f => ⟨by
      have f' : strFine x = true := by simpa [D.pyOk] using f
      simp only [D.py, PyData.canLay0]
      exact f', by simp [D.py, PyData.depth]⟩
  | .tup ds, 0, f => by simp [D.pyOk] at f
  | .tup ds, k + 1, f => by
    obtain ⟨h1, h2⟩ := pys_ok ds k (by simpa [D.pyOk] using f)
    exact ⟨by simpa [D.py, PyData.canLay0] using h1, by simp only [D.py, PyData.depth]; omega⟩
  | .lst ds, 0, f => by simp [D.pyOk] at f
  | .lst ds, k + 1, f => by
    obtain ⟨h1, h2⟩ := pys_ok ds k (by simpa [D.pyOk] using f)
    exact ⟨by simpa [D.py, PyData.canLay0] using h1, by simp only [D.py, PyData.depth]; omega⟩
  | .scr _, _, f => by simp [D.pyOk] at f
  | .dct _ _, _, f => by simp [D.pyOk] at f
  | .ty _, _, f => by simp [D.pyOk] at f
theorem pys_ok : ∀ (ds : List D) (k : Nat), D.pyOks ds k = true → PyData.canLayAll0 (D.pys ds) = true ∧ PyData.depthAll (D.pys ds) ≤ k
  | [], _, _ => ⟨by simp [D.pys, PyData.canLayAll0], by simp [D.pys, PyData.depthAll]⟩
  | d :: ds, k, f => by
    have f' : D.pyOk d k = true ∧ D.pyOks ds k = true := by simpa [D.pyOks] using f
    obtain ⟨h1, h2⟩ := py_ok d k f'.1
    obtain ⟨h3, h4⟩ := pys_ok ds k f'.2
    exact ⟨by simp [D.pys, PyData.canLayAll0, h1, h3], by simp only [D.pys, PyData.depthAll]; omega⟩
end
theorem shaped_of {d : D} {k : Nat} (hk : k ≤ 64) (f : D.pyOk d k = true) : SeqAt.shaped d.py = true := by
  obtain ⟨h1, h2⟩ := py_ok d k f
  unfold SeqAt.shaped
  rw [h1, decide_eq_true (Nat.le_trans h2 hk)]
  rfl
mutual
theorem eqv_py : ∀ (x y : D) (k l : Nat), D.pyOk x k = true → D.pyOk y l = true → PyData.eqv x.py y.py = D.eqv x y
  | .non, y, _, l, _, g => by cases y <;> first | (simp [D.pyOk] at g; done) | simp [D.py, D.eqv, PyData.eqv]
  | .bl a, y, _, l, _, g => by cases y <;> first | (simp [D.pyOk] at g; done) | simp [D.py, D.eqv, PyData.eqv]
  | .int i, y, _, l, _, g => by cases y <;> first | (simp [D.pyOk] at g; done) | simp [D.py, D.eqv, PyData.eqv]
  | .str x, y, _, l, _, g => by cases y <;> first | (simp [D.pyOk] at g; done) | simp [D.py, D.eqv, PyData.eqv]
  | .tup xs, y, k, l, f, g => by
    cases k with
    | zero => simp [D.pyOk] at f
    | succ k =>
      cases y with
      | tup ys =>
        cases l with
        | zero => simp [D.pyOk] at g
        | succ l =>
          simp only [D.py, D.eqv, PyData.eqv]
          exact eqvs_py xs ys k l (by simpa [D.pyOk] using f) (by simpa [D.pyOk] using g)
      | scr _ => simp [D.pyOk] at g
      | dct _ _ => simp [D.pyOk] at g
      | ty _ => simp [D.pyOk] at g
      | _ => simp [D.py, D.eqv, PyData.eqv]
  | .lst xs, y, k, l, f, g => by
    cases k with
    | zero => simp [D.pyOk] at f
    | succ k =>
      cases y with
      | lst ys =>
        cases l with
        | zero => simp [D.pyOk] at g
        | succ l =>
          simp only [D.py, D.eqv, PyData.eqv]
          exact eqvs_py xs ys k l (by simpa [D.pyOk] using f) (by simpa [D.pyOk] using g)
      | scr _ => simp [D.pyOk] at g
      | dct _ _ => simp [D.pyOk] at g
      | ty _ => simp [D.pyOk] at g
      | _ => simp [D.py, D.eqv, PyData.eqv]
  | .scr _, _, _, _, f, _ => by simp [D.pyOk] at f
  | .dct _ _, _, _, _, f, _ => by simp [D.pyOk] at f
  | .ty _, _, _, _, f, _ => by simp [D.pyOk] at f
theorem eqvs_py : ∀ (xs ys : List D) (k l : Nat), D.pyOks xs k = true → D.pyOks ys l = true → PyData.eqvAll (D.pys xs) (D.pys ys) = D.eqvs xs ys
  | [], [], _, _, _, _ => by simp [D.pys, D.eqvs, PyData.eqvAll]
  | [], _ :: _, _, _, _, _ => by simp [D.pys, D.eqvs, PyData.eqvAll]
  | _ :: _, [], _, _, _, _ => by simp [D.pys, D.eqvs, PyData.eqvAll]
  | x :: xs, y :: ys, k, l, f, g => by
    have f' : D.pyOk x k = true ∧ D.pyOks xs k = true := by simpa [D.pyOks] using f
    have g' : D.pyOk y l = true ∧ D.pyOks ys l = true := by simpa [D.pyOks] using g
    simp only [D.pys, D.eqvs, PyData.eqvAll, eqv_py x y k l f'.1 g'.1, eqvs_py xs ys k l f'.2 g'.2]
end
section
variable {X : Cx} {O : List Nat}
theorem scal_of {B : Addr → Prop} {H : Hp} {x y : D} {v w : V} (h : scal2 x y = true) (hx : ADen X.K B H x v) (hy : ADen X.K B H y w) : L2.scal v w = true ∧ decide (v = w) = D.eqv x y := by
  cases x <;> cases y <;> first
    | (simp [scal2, D.scal] at h; done)
    | (rw [show v = _ from hx, show w = _ from hy]; refine ⟨rfl, ?_⟩; simp [D.eqv, Bool.beq_eq_decide_eq])
theorem s_eq (hu : X.A.units + 64 < cLine) : OpS X (compareOp .Eq) o_eq := by
  refine ⟨_, op_eq.or (op_eqD hu), fun B H x y z v w Q e ax ay hz hB q => ?_⟩
  obtain ⟨b, e1, e'⟩ := Option.bind_eq_some_iff.mp e
  cases e'
  unfold o_eqb at e1
  split at e1
  · rename_i h
    have hb := Option.some.inj e1
    subst hb
    obtain ⟨h1, h2⟩ := scal_of h ax ay
    exact .inl ⟨h1, by rw [h2]; exact q _ H (Same.refl H) hz rfl⟩
  · split at e1
    · rename_i h
      have hb := Option.some.inj e1
      subst hb
      refine .inr ⟨x.py, y.py, ax.dp h.1, ay.dp h.2, shaped_of (by decide) h.1, shaped_of (by decide) h.2, ?_⟩
      rw [eqv_py x y 9 9 h.1 h.2]
      exact q _ H (Same.refl H) hz rfl
    · cases e1
theorem s_ne (hu : X.A.units + 64 < cLine) : OpS X (compareOp .NotEq) o_ne := by
  refine ⟨_, op_ne.or (op_neD hu), fun B H x y z v w Q e ax ay hz hB q => ?_⟩
  obtain ⟨b, e1, e'⟩ := Option.bind_eq_some_iff.mp e
  cases e'
  unfold o_eqb at e1
  split at e1
  · rename_i h
    have hb := Option.some.inj e1
    subst hb
    obtain ⟨h1, h2⟩ := scal_of h ax ay
    exact .inl ⟨h1, by rw [h2]; exact q _ H (Same.refl H) hz rfl⟩
  · split at e1
    · rename_i h
      have hb := Option.some.inj e1
      subst hb
      refine .inr ⟨x.py, y.py, ax.dp h.1, ay.dp h.2, shaped_of (by decide) h.1, shaped_of (by decide) h.2, ?_⟩
      rw [eqv_py x y 9 9 h.1 h.2]
      exact q _ H (Same.refl H) hz rfl
    · cases e1
theorem flat_of {K : PySem.W.Frag} {B : Addr → Prop} {H : Hp} {x : D} {v : V} (h : x.scal = true) (hx : Den K B H x v) : flatV v = true := by
  cases x <;> first | (cases h; done) | (rw [show v = _ from hx]; rfl)
theorem eqV_of {K : PySem.W.Frag} {B B' : Addr → Prop} {H : Hp} {x y : D} {v w : V} (h : x.scal = true) (h' : y.scal = true) (hx : Den K B H x v) (hy : Den K B' H y w) : eqV v w = D.eqv x y := by
  cases x <;> first | (cases h; done) | skip
  all_goals
    cases y <;> first | (cases h'; done) | skip
  all_goals (rw [show v = _ from hx, show w = _ from hy]; simp [D.eqv, eqV])
theorem flats_of {K : PySem.W.Frag} {B : Addr → Prop} {H : Hp} : ∀ {ds : List D} {vs : List V}, ds.all D.scal = true → Dens K B H ds vs → vs.all flatV = true
  | [], vs, _, h => by
    have e : vs = [] := h
    subst e
    rfl
  | d :: ds, vs, f, h => by
    obtain ⟨v, r, rfl, h1, h2⟩ := h
    rw [List.all_cons, Bool.and_eq_true] at f
    rw [List.all_cons, flat_of f.1 h1, flats_of f.2 h2]
    rfl
theorem inV_of {K : PySem.W.Frag} {B B' : Addr → Prop} {H : Hp} {x : D} {v : V} (hs : x.scal = true) (hx : Den K B' H x v) : ∀ {ds : List D} {vs : List V}, ds.all D.scal = true → Dens K B H ds vs → inV v vs = inB x ds
  | [], vs, _, h => by
    have e : vs = [] := h
    subst e
    rfl
  | d :: ds, vs, f, h => by
    obtain ⟨w, r, rfl, h1, h2⟩ := h
    rw [List.all_cons, Bool.and_eq_true] at f
    have ih := inV_of hs hx f.2 h2
    unfold inV inB at ih ⊢
    rw [List.any_cons, List.any_cons, ih, eqV_of f.1 hs h1 hx]
theorem scal_den {K : PySem.W.Frag} {B : Addr → Prop} {H : Hp} {x : D} {v : V} (h : x.scal = true) (hx : ADen K B H x v) : Den K B H x v := by
  cases x <;> first | (cases h; done) | exact hx
theorem inD_of (x : D) (k : Nat) (f : D.pyOk x k = true) : ∀ (ds : List D) (l : Nat), D.pyOks ds l = true → ((D.pys ds).any fun z => PyData.eqv z x.py) = inB x ds
  | [], _, _ => rfl
  | d :: ds, l, g => by
    have g' : D.pyOk d l = true ∧ D.pyOks ds l = true := by simpa [D.pyOks] using g
    have ih := inD_of x k f ds l g'.2
    unfold inB at ih ⊢
    rw [D.pys, List.any_cons, List.any_cons, ih, eqv_py d x l k g'.1 f]
theorem s_inb {neg : Bool} {o : CmpOp} (h1 : OpR X (compareOp o) (rIn X.K neg)) {rD : R2} (h2 : OpR X (compareOp o) rD)
    (hD : ∀ x y H Q d ds, Dp X.K H x d → Dp X.K H y (.list ds) → SeqAt.shaped d = true → SeqAt.shaped (.list ds) = true → Q (.bl (if neg then !(ds.any fun z => PyData.eqv z d) else ds.any fun z => PyData.eqv z d)) H → rD x y H Q) :
    OpS X (compareOp o) (fun x y => (o_inb x y).bind fun b => some (.val (.bl (if neg then !b else b)))) := by
  refine ⟨_, h1.or h2, fun B H x y z v w Q e ax ay hz hB q => ?_⟩
  obtain ⟨b, e1, e'⟩ := Option.bind_eq_some_iff.mp e
  cases e'
  unfold o_inb at e1
  cases y with
  | tup ds =>
    simp only at e1
    split at e1
    · rename_i h
      have hb := Option.some.inj e1
      subst hb
      obtain ⟨p, vs, rfl, hp, hd⟩ := ay
      have hx := scal_den h.1 ax
      refine .inl ⟨p, vs, rfl, .inr hp, flat_of h.1 hx, flats_of h.2 hd, ?_⟩
      rw [inV_of h.1 hx h.2 hd]
      exact q _ H (Same.refl H) hz rfl
    · cases e1
  | lst ds =>
    simp only at e1
    split at e1
    · rename_i h
      have hb := Option.some.inj e1
      subst hb
      obtain ⟨p, rfl, vs, hp, hd⟩ := ay
      have hx := scal_den h.1 ax
      refine .inl ⟨p, vs, rfl, .inl (SqL.of hp), flat_of h.1 hx, flats_of h.2 hd, ?_⟩
      rw [inV_of h.1 hx h.2 hd]
      exact q _ H (Same.refl H) hz rfl
    · split at e1
      · rename_i h
        have hb := Option.some.inj e1
        subst hb
        refine .inr (hD _ _ _ _ x.py (D.pys ds) (ax.dp h.1) ?_ (shaped_of (by decide) h.1) (shaped_of (k := 10) (d := .lst ds) (by decide) (by simpa [D.pyOk] using h.2)) ?_)
        · have := ADen.dp (k := 10) (d := .lst ds) (by simpa [D.pyOk] using h.2) ay
          exact this
        · rw [inD_of x 9 h.1 ds 9 h.2]
          exact q _ H (Same.refl H) hz rfl
      · cases e1
  | _ => cases e1
theorem s_in (hu : X.A.units + 65 < cLine) : OpS X (compareOp .In) o_in :=
  s_inb (neg := false) op_in_seq (op_inD hu) fun x y H Q d ds h1 h2 h3 h4 q => ⟨d, ds, h1, h2, h3, h4, q⟩
theorem s_nin (hu : X.A.units + 65 < cLine) : OpS X (compareOp .NotIn) o_nin :=
  s_inb (neg := true) op_notIn_seq (op_notInD hu) fun x y H Q d ds h1 h2 h3 h4 q => ⟨d, ds, h1, h2, h3, h4, q⟩
end
end Mini

/-! ## MOps3 -/
/-! Mini: max, min, sum; methods. -/
namespace Mini
open PySem PySem.Spec PyProof.Rows L2
open PySem.W (AlikeAll maxD minD dataLt alike alikeAll keyToks keyToksAll rowLt)
variable [Tb]

section
variable {X : Cx} {O : List Nat}
theorem dpAll_get {K : PySem.W.Frag} {H : Hp} : ∀ {vs : List V} {ds : List PyData} {i : Nat} {d : PyData}, DpAll K H vs ds → ds[i]? = some d → ∃ v, vs[i]? = some v
  | _, _, _, _, .nil, e => by simp at e
  | _, _, 0, _, .cons h t, e => ⟨_, rfl⟩
  | _, _, i + 1, _, .cons h t, e => dpAll_get (i := i) t (by simpa using e)
theorem vals_back {xs : List V} {its : List Value} (r : Vals xs its) {i : Nat} {v : Value} (e : its[i]? = some v) : ∃ x, xs[i]? = some x ∧ RelV x v := by
  cases hq : xs[i]? with
  | none => rw [r.none_of hq] at e; cases e
  | some x =>
    obtain ⟨u, e1, e2⟩ := r.get hq
    rw [e] at e1
    cases e1
    exact ⟨x, rfl, e2⟩
def rBest (K : PySem.W.Frag) (best : PyData → List PyData → PyData) : List V → Hp → VK → Prop := fun vs H Q => ∃ a xs d ds, vs = [V.ref a] ∧ (SqL K H a xs ∨ SqT K H a xs) ∧ DpAll K H xs (d :: ds) ∧ AlikeAll (d :: ds) ∧ PyData.depthAll (d :: ds) ≤ 20 ∧
  ∀ (i : Nat) (v : V), xs[i]? = some v → (d :: ds)[i]? = some (best d ds) → Q v H
theorem cr_best {name : String} {best : PyData → List PyData → PyData} (hc : X.calm = true) (hu : X.A.units + 64 < cLine)
    (hL : ∀ {s : Shared} {l : Addr} {vs : Array Value} {x : PyData} {xs : List PyData} {as : List Addr} {Q : Value → Shared → Prop}, s.heap.IsList l vs → ReadsAll s.heap vs.toList (x :: xs) as → AlikeAll (x :: xs) → X.A.units + 1 + PyData.depthAll (x :: xs) < cLine →
      (∀ (i : Nat) v h' tk bs, vs[i]? = some v → Reads h' v (best x xs) bs → (∀ b o, s.heap.get? b = some o → h'.get? b = some o) → Q v { s with heap := h', toks := tk }) → wpAny (model X.prog X.w) X.A (call (.builtin name) [.ref l]) Q X.xe s)
    (hT : ∀ {s : Shared} {l : Addr} {vs : Array Value} {x : PyData} {xs : List PyData} {as : List Addr} {Q : Value → Shared → Prop}, s.heap.IsTuple l vs → ReadsAll s.heap vs.toList (x :: xs) as → AlikeAll (x :: xs) → X.A.units + 1 + PyData.depthAll (x :: xs) < cLine →
      (∀ (i : Nat) v h' tk bs, vs[i]? = some v → Reads h' v (best x xs) bs → (∀ b o, s.heap.get? b = some o → h'.get? b = some o) → Q v { s with heap := h', toks := tk }) → wpAny (model X.prog X.w) X.A (call (.builtin name) [.ref l]) Q X.xe s) :
    CallR X (.builtin name) (rBest X.K best) := by
  intro pins s σ H vs us Q I r h
  obtain ⟨a, xs, d, ds, rfl, hs, hd, ha, hdep, q⟩ := h
  rw [Vals.ref1 r]
  have hu' : X.A.units + 1 + PyData.depthAll (d :: ds) < cLine := by omega
  have fin : ∀ (its : List Value), Vals xs its → (∃ as, ReadsAll s.heap its (d :: ds) as) → ∀ (i : Nat) (v : Value) (h' : Heap) (tk : Nat) (bs : List Addr), its.toArray[i]? = some v → Reads h' v (best d ds) bs → (∀ b o, s.heap.get? b = some o → h'.get? b = some o) →
      EP X pins σ Q v { s with heap := h', toks := tk } := by
    intro its rv ⟨as, hr⟩ i v h' tk bs hi rd k
    have hi' : its[i]? = some v := by simpa using hi
    obtain ⟨x, hx, rx⟩ := vals_back rv hi'
    obtain ⟨cs, rd2, hlt, _⟩ := PySem.W.readsAll_atA (vs := its.toArray) (by simpa using hr) i v hi
    have e := (reads_det (fun b o e _ => k b o e) rd2 rd).1
    refine ⟨x, H, I.kept k, rx, q i x hx ?_⟩
    rw [e, List.getElem?_eq_getElem hlt, List.getD_eq_getElem?_getD, List.getElem?_eq_getElem hlt]
    rfl
  rcases hs with hs | hs
  · obtain ⟨its, rv, hl, _⟩ := I.list hs
    obtain ⟨as, hr⟩ := Dp.readsAll I (d :: ds) xs its hd rv
    exact hL hl.isList (by simpa using hr) ha hu' (fin its rv ⟨as, hr⟩)
  · obtain ⟨its, rv, hl, _⟩ := I.tuple hs
    obtain ⟨as, hr⟩ := Dp.readsAll I (d :: ds) xs its hd rv
    exact hT hl (by simpa using hr) ha hu' (fin its rv ⟨as, hr⟩)
theorem cr_maxB (hc : X.calm = true) (hu : X.A.units + 64 < cLine) : (X.A.handled = none) → CallR X (.builtin "max") (rBest X.K maxD) := fun hh =>
  cr_best hc hu (fun h1 h2 h3 h4 h5 => PySem.W.max_list_data hh h1 h2 h3 h4 h5) fun h1 h2 h3 h4 h5 => PySem.W.max_tuple_data hh h1 h2 h3 h4 h5
theorem cr_minB (hc : X.calm = true) (hu : X.A.units + 64 < cLine) : (X.A.handled = none) → CallR X (.builtin "min") (rBest X.K minD) := fun hh =>
  cr_best hc hu (fun h1 h2 h3 h4 h5 => PySem.W.min_list_data hh h1 h2 h3 h4 h5) fun h1 h2 h3 h4 h5 => PySem.W.min_tuple_data hh h1 h2 h3 h4 h5

/-! ### ints and rows of ints as data -/
theorem ints?_map : ∀ {ds : List D} {ns : List Int}, D.ints? ds = some ns → ds = ns.map D.int
  | [], ns, e => by cases e; rfl
  | d :: ds, ns, e => by
    obtain ⟨b, e1, e⟩ := Option.bind_eq_some_iff.mp e
    obtain ⟨bs', e2, e⟩ := Option.bind_eq_some_iff.mp e
    cases e
    rw [int?_e e1, ints?_map e2]
    rfl
theorem rows?_map : ∀ {ds : List D} {rs : List (List Int)}, D.rows? ds = some rs → ds = rs.map fun r => D.tup (r.map D.int)
  | [], rs, e => by cases e; rfl
  | d :: ds, rs, e => by
    obtain ⟨r, e1, e⟩ := Option.bind_eq_some_iff.mp e
    obtain ⟨ns, e2, e⟩ := Option.bind_eq_some_iff.mp e
    obtain ⟨rs', e3, e⟩ := Option.bind_eq_some_iff.mp e
    cases e
    rw [tup?_e e1, ints?_map e2, rows?_map e3]
    rfl
theorem pys_ints : ∀ ns : List Int, D.pys (ns.map D.int) = ns.map PyData.int
  | [] => rfl
  | n :: ns => by rw [List.map_cons, D.pys, D.py, pys_ints ns, List.map_cons]
theorem pys_rows : ∀ rs : List (List Int), D.pys (rs.map fun r => D.tup (r.map D.int)) = rs.map fun r => PyData.tuple (r.map PyData.int)
  | [] => rfl
  | r :: rs => by rw [List.map_cons, D.pys, D.py, pys_ints, pys_rows rs, List.map_cons]
theorem oks_ints : ∀ (ns : List Int) (k : Nat), D.pyOks (ns.map D.int) k = true
  | [], _ => rfl
  | n :: ns, k => by rw [List.map_cons, D.pyOks, D.pyOk, oks_ints ns k]; rfl
theorem oks_rows : ∀ (rs : List (List Int)) (k : Nat), D.pyOks (rs.map fun r => D.tup (r.map D.int)) (k + 1) = true
  | [], _ => rfl
  | r :: rs, k => by rw [List.map_cons, D.pyOks, D.pyOk, oks_rows rs k, oks_ints]; rfl
theorem alike_is (ns : List Int) : AlikeAll (ns.map PyData.int) := by
  constructor
  · intro x hx y hy
    obtain ⟨a, _, rfl⟩ := List.mem_map.mp hx
    obtain ⟨b, _, rfl⟩ := List.mem_map.mp hy
    simp [alike]
  · intro x hx
    obtain ⟨a, _, rfl⟩ := List.mem_map.mp hx
    simp
theorem alike_rs (rs : List (List Int)) : AlikeAll (rs.map fun r => PyData.tuple (r.map PyData.int)) := by
  constructor
  · intro x hx y hy
    obtain ⟨a, _, rfl⟩ := List.mem_map.mp hx
    obtain ⟨b, _, rfl⟩ := List.mem_map.mp hy
    simp only [alike]
    exact PySem.W.alike_ints a b
  · intro x hx
    obtain ⟨a, _, rfl⟩ := List.mem_map.mp hx
    simp
theorem depth_is (ns : List Int) : PyData.depthAll (ns.map PyData.int) = 0 := PySem.W.depth_ints ns
theorem depth_rs : ∀ rs : List (List Int), PyData.depthAll (rs.map fun r => PyData.tuple (r.map PyData.int)) ≤ 1
  | [] => by simp [PyData.depthAll]
  | r :: rs => by
    have ih := depth_rs rs
    rw [List.map_cons]
    simp only [PyData.depthAll, PyData.depth, depth_is]
    omega
theorem lt_rows (a b : List Int) : dataLt (.tuple (a.map PyData.int)) (.tuple (b.map PyData.int)) = Mini.rowLt a b := by
  have h := PySem.W.dataLt_ints a b
  unfold PySem.W.rowLt at h
  unfold dataLt Mini.rowLt
  simp only [keyToks]
  exact h
theorem maxD_rows (r : List Int) : ∀ rs : List (List Int), maxD (.tuple (r.map PyData.int)) (rs.map fun r => PyData.tuple (r.map PyData.int)) = .tuple ((rs.foldl (fun a y => if Mini.rowLt a y then y else a) r).map PyData.int) := by
  intro rs
  induction rs generalizing r with
  | nil => rfl
  | cons y ys ih =>
    have e : maxD (.tuple (r.map PyData.int)) ((y :: ys).map fun r => PyData.tuple (r.map PyData.int)) = maxD (if dataLt (.tuple (r.map PyData.int)) (.tuple (y.map PyData.int)) then .tuple (y.map PyData.int) else .tuple (r.map PyData.int)) (ys.map fun r => PyData.tuple (r.map PyData.int)) := rfl
    rw [e, lt_rows, List.foldl_cons]
    cases Mini.rowLt r y with
    | true => simp only [if_true]; exact ih y
    | false => simp only [Bool.false_eq_true, if_false]; exact ih r
theorem minD_rows (r : List Int) : ∀ rs : List (List Int), minD (.tuple (r.map PyData.int)) (rs.map fun r => PyData.tuple (r.map PyData.int)) = .tuple ((rs.foldl (fun a y => if Mini.rowLt y a then y else a) r).map PyData.int) := by
  intro rs
  induction rs generalizing r with
  | nil => rfl
  | cons y ys ih =>
    have e : minD (.tuple (r.map PyData.int)) ((y :: ys).map fun r => PyData.tuple (r.map PyData.int)) = minD (if dataLt (.tuple (y.map PyData.int)) (.tuple (r.map PyData.int)) then .tuple (y.map PyData.int) else .tuple (r.map PyData.int)) (ys.map fun r => PyData.tuple (r.map PyData.int)) := rfl
    rw [e, lt_rows, List.foldl_cons]
    cases Mini.rowLt y r with
    | true => simp only [if_true]; exact ih y
    | false => simp only [Bool.false_eq_true, if_false]; exact ih r
theorem int_inj : ∀ {a b : List Int}, a.map PyData.int = b.map PyData.int → a = b
  | [], [], _ => rfl
  | [], _ :: _, h => by cases h
  | _ :: _, [], h => by cases h
  | x :: a, y :: b, h => by
    rw [List.map_cons, List.map_cons] at h
    injection h with h1 h2
    injection h1 with h1
    rw [h1, int_inj h2]
/-- max, min of one sequence -/
theorem seq_arg {K : PySem.W.Frag} {B : Addr → Prop} {H : Hp} {x : D} {a : List D} {v : V} (e : x.seq? = some a) (h : ADen K B H x v) : ∃ p xs, v = .ref p ∧ (SqL K H p xs ∨ SqT K H p xs) ∧ Dens K B H a xs := by
  cases x with
  | tup ds =>
    cases e
    obtain ⟨p, xs, e1, h1, h2⟩ := h
    exact ⟨p, xs, e1, .inr h1, h2⟩
  | lst ds =>
    cases e
    obtain ⟨p, e1, xs, h1, h2⟩ := h
    exact ⟨p, xs, e1, .inl (SqL.of h1), h2⟩
  | _ => cases e
theorem best_int {K : PySem.W.Frag} {B : Addr → Prop} {H : Hp} {best : PyData → List PyData → PyData} {n m : Int} {ns : List Int} {xs : List V} {Q : VK} (hb : best (.int n) (ns.map .int) = .int m) (hx : Dens K B H ((n :: ns).map D.int) xs) (q : Q (.int m) H) :
    ∀ (i : Nat) (v : V), xs[i]? = some v → ((n :: ns).map PyData.int)[i]? = some (best (.int n) (ns.map .int)) → Q v H := by
  intro i v h1 h2
  rw [hb, List.getElem?_map] at h2
  cases hq : (n :: ns)[i]? with
  | none => rw [hq] at h2; cases h2
  | some k =>
    rw [hq] at h2
    have e : k = m := by
      have := Option.some.inj h2
      injection this
    subst e
    obtain ⟨u, e1, e2⟩ := hx.get (i := i) (d := .int k) (by rw [List.getElem?_map, hq]; rfl)
    rw [h1] at e1
    cases e1
    rw [show v = .int k from e2]
    exact q
theorem best_row {K : PySem.W.Frag} {B : Addr → Prop} {H : Hp} {best : PyData → List PyData → PyData} {n m : List Int} {ns : List (List Int)} {xs : List V} {Q : VK} (hb : best (.tuple (n.map PyData.int)) (ns.map fun r => PyData.tuple (r.map PyData.int)) = .tuple (m.map PyData.int))
    (hx : Dens K B H ((n :: ns).map fun r => D.tup (r.map D.int)) xs) (q : ∀ u, Den K B H (.tup (m.map D.int)) u → Q u H) :
    ∀ (i : Nat) (v : V), xs[i]? = some v → ((n :: ns).map fun r => PyData.tuple (r.map PyData.int))[i]? = some (best (.tuple (n.map PyData.int)) (ns.map fun r => PyData.tuple (r.map PyData.int))) → Q v H := by
  intro i v h1 h2
  rw [hb, List.getElem?_map] at h2
  cases hq : (n :: ns)[i]? with
  | none => rw [hq] at h2; cases h2
  | some k =>
    rw [hq] at h2
    have e : k = m := by
      have := Option.some.inj h2
      injection this with this
      exact int_inj this
    subst e
    obtain ⟨u, e1, e2⟩ := hx.get (i := i) (d := .tup (k.map D.int)) (by rw [List.getElem?_map, hq]; rfl)
    rw [h1] at e1
    cases e1
    exact q v e2
theorem b_max (hc : X.calm = true) (hu : X.A.units + 64 < cLine) (hh : X.A.handled = none) : CallS X (.builtin "max") o_max := by
  refine ⟨_, (cr_maxB hc hu hh).or (call_max2 hc), fun B H ds z vs Q e a hz hB q => ?_⟩
  unfold o_max at e
  split at e <;> first | (cases e; done) | skip
  · obtain ⟨l, e1, e⟩ := Option.bind_eq_some_iff.mp e
    obtain ⟨v, rfl, h⟩ := adens1 a
    obtain ⟨p, xs, rfl, hp, hx⟩ := seq_arg e1 h
    split at e
    · rename_i ns e2
      obtain ⟨m, e3, e⟩ := Option.bind_eq_some_iff.mp e
      cases e
      have e4 := ints?_map e2
      subst e4
      cases ns with
      | nil => cases e3
      | cons n ns =>
        have e3 := Option.some.inj e3
        have dp := Dens.dp (k := 0) (oks_ints _ _) hx
        rw [pys_ints] at dp
        refine .inl ⟨p, xs, .int n, ns.map .int, rfl, hp, dp, alike_is (n :: ns), ?_, best_int (best := PySem.W.maxD) (n := n) (ns := ns) (m := m) (by rw [PySem.W.maxD_ints, e3]) hx (q _ H (Same.refl H) hz rfl)⟩
        exact Nat.le_trans (Nat.le_of_eq (depth_is (n :: ns))) (Nat.zero_le _)
    · obtain ⟨rs, e2, e⟩ := Option.bind_eq_some_iff.mp e
      obtain ⟨m, e3, e⟩ := Option.bind_eq_some_iff.mp e
      cases e
      have e4 := rows?_map e2
      subst e4
      cases rs with
      | nil => cases e3
      | cons n ns =>
        have e3 := Option.some.inj e3
        have dp := Dens.dp (k := 1) (oks_rows _ 0) hx
        rw [pys_rows] at dp
        refine .inl ⟨p, xs, PyData.tuple (n.map PyData.int), ns.map (fun r : List Int => PyData.tuple (r.map PyData.int)), rfl, hp, dp, alike_rs (n :: ns), ?_, best_row (best := PySem.W.maxD) (n := n) (ns := ns) (m := m) (by rw [maxD_rows, e3]) hx fun u hd => q u H (Same.refl H) hz hd⟩
        exact Nat.le_trans (depth_rs (n :: ns)) (by omega)
  · obtain ⟨v, w, rfl, h1, h2⟩ := adens2 a
    cases e
    have h1 : v = .int _ := h1
    have h2 : w = .int _ := h2
    subst h1 h2
    exact .inr ⟨_, _, rfl, q _ H (Same.refl H) hz rfl⟩
theorem b_min (hc : X.calm = true) (hu : X.A.units + 64 < cLine) (hh : X.A.handled = none) : CallS X (.builtin "min") o_min := by
  refine ⟨_, (cr_minB hc hu hh).or (call_min2 hc), fun B H ds z vs Q e a hz hB q => ?_⟩
  unfold o_min at e
  split at e <;> first | (cases e; done) | skip
  · obtain ⟨l, e1, e⟩ := Option.bind_eq_some_iff.mp e
    obtain ⟨v, rfl, h⟩ := adens1 a
    obtain ⟨p, xs, rfl, hp, hx⟩ := seq_arg e1 h
    split at e
    · rename_i ns e2
      obtain ⟨m, e3, e⟩ := Option.bind_eq_some_iff.mp e
      cases e
      have e4 := ints?_map e2
      subst e4
      cases ns with
      | nil => cases e3
      | cons n ns =>
        have e3 := Option.some.inj e3
        have dp := Dens.dp (k := 0) (oks_ints _ _) hx
        rw [pys_ints] at dp
        refine .inl ⟨p, xs, .int n, ns.map .int, rfl, hp, dp, alike_is (n :: ns), ?_, best_int (best := PySem.W.minD) (n := n) (ns := ns) (m := m) (by rw [PySem.W.minD_ints, e3]) hx (q _ H (Same.refl H) hz rfl)⟩
        exact Nat.le_trans (Nat.le_of_eq (depth_is (n :: ns))) (Nat.zero_le _)
    · obtain ⟨rs, e2, e⟩ := Option.bind_eq_some_iff.mp e
      obtain ⟨m, e3, e⟩ := Option.bind_eq_some_iff.mp e
      cases e
      have e4 := rows?_map e2
      subst e4
      cases rs with
      | nil => cases e3
      | cons n ns =>
        have e3 := Option.some.inj e3
        have dp := Dens.dp (k := 1) (oks_rows _ 0) hx
        rw [pys_rows] at dp
        refine .inl ⟨p, xs, PyData.tuple (n.map PyData.int), ns.map (fun r : List Int => PyData.tuple (r.map PyData.int)), rfl, hp, dp, alike_rs (n :: ns), ?_, best_row (best := PySem.W.minD) (n := n) (ns := ns) (m := m) (by rw [minD_rows, e3]) hx fun u hd => q u H (Same.refl H) hz hd⟩
        exact Nat.le_trans (depth_rs (n :: ns)) (by omega)
  · obtain ⟨v, w, rfl, h1, h2⟩ := adens2 a
    cases e
    have h1 : v = .int _ := h1
    have h2 : w = .int _ := h2
    subst h1 h2
    exact .inr ⟨_, _, rfl, q _ H (Same.refl H) hz rfl⟩
theorem preSum_take (ns : List Int) : ∀ k, k ≤ ns.length → preSum (fun i => ns.getD i 0) k = (ns.take k).sum
  | 0, _ => rfl
  | k + 1, h => by
    rw [preSum, preSum_take ns k (by omega), List.take_add_one, List.getElem?_eq_getElem (by omega), List.sum_append, List.getD_eq_getElem?_getD, List.getElem?_eq_getElem (by omega)]
    simp
/-- sum of a tuple of ints -/
theorem cr_sumT (hc : X.calm = true) : CallR X (.builtin "sum") (fun vs H Q => ∃ (a : Addr) (ns : List Int), vs = [V.ref a] ∧ SqT X.K H a (ns.map V.int) ∧ Q (.int ns.sum) H) := by
  intro pins s σ H vs us Q I r h
  obtain ⟨a, ns, rfl, hs, q⟩ := h
  obtain ⟨its, rv, hl, _⟩ := I.tuple hs
  rw [Vals.ref1 r]
  have hlt : a < s.heap.objs.size := hl.lt
  have hi := rv.ints
  refine call_sum_walkG (wpAny_pyIter_tuple (show s.heap.IsTuple a its.toArray from hl) ?_)
  have hpk : ∀ b o, s.heap.get? b = some o → (s.heap.push { cls := .type "tuple_iterator", data := .fields #[.ref a, .int 0 0] }).get? b = some o := fun b o e => Heap.get?_push_of_some _ e
  have hT2 : IsTup (s.heap.push { cls := .type "tuple_iterator", data := .fields #[.ref a, .int 0 0] }) a its.toArray := by
    obtain ⟨o, e, c⟩ := hl
    exact ⟨o, hpk a o e, c⟩
  refine ⟨_, _, _, _, _, _, (fun i => ns.getD i 0), rfl, Walks.tuple (A := X.A.in1) (I.ok.hd hc) _ a (Nat.ne_of_lt hlt) its.toArray, ⟨⟨_, Heap.get?_push_size _ rfl, rfl, rfl⟩, hT2⟩, fun b hb => ?_, fun i v hv => ?_, fun h' tk t' hk => ?_⟩
  · show b < (s.heap.push _).objs.size
    rw [Heap.size_push]
    rcases List.mem_cons.mp hb with e1 | hb
    · rw [e1]; exact Nat.lt_succ_self _
    · rw [List.mem_singleton.mp hb]; exact Nat.lt_succ_of_lt hlt
  · have hv : its.toArray[i]? = some v := hv
    have hv' : its[i]? = some v := by simpa using hv
    obtain ⟨x, hx, rx⟩ := vals_back rv hv'
    rw [List.getElem?_map] at hx
    cases hq : ns[i]? with
    | none => rw [hq] at hx; cases hx
    | some n =>
      rw [hq] at hx
      cases hx
      obtain ⟨t, e⟩ := rx
      exact ⟨t, by rw [e]; show Value.int n t = Value.int (ns.getD i 0) t; rw [List.getD_eq_getElem?_getD, hq]; rfl⟩
  · refine ⟨.int ns.sum, H, I.kept fun b o eo => hk b o (fun hmem => ?_) (hpk b o eo), ⟨t', ?_⟩, q⟩
    · rw [List.mem_singleton.mp hmem] at eo
      exact absurd (Heap.lt_size eo) (Nat.lt_irrefl _)
    · have hlen : its.toArray.size = ns.length := by rw [List.size_toArray, ← rv.length, List.length_map]
      rw [hlen, preSum_take ns _ (Nat.le_refl _), List.take_length]
theorem b_sum (hc : X.calm = true) : CallS X (.builtin "sum") o_sum := by
  refine ⟨_, (cr_sum hc).or (cr_sumT hc), fun B H ds z vs Q e a hz hB q => ?_⟩
  unfold o_sum at e
  split at e <;> first | (cases e; done) | skip
  obtain ⟨l, e1, e⟩ := Option.bind_eq_some_iff.mp e
  obtain ⟨ns, e2, e⟩ := Option.bind_eq_some_iff.mp e
  cases e
  obtain ⟨v, rfl, h⟩ := adens1 a
  obtain ⟨p, xs, rfl, hp, hx⟩ := seq_arg e1 h
  have := ints?_e e2 hx
  subst this
  rcases hp with hp | hp
  · exact .inl ⟨p, ns, rfl, hp, q _ H (Same.refl H) hz rfl⟩
  · exact .inr ⟨p, ns, rfl, hp, q _ H (Same.refl H) hz rfl⟩
end
end Mini

/-! ## MMeth -/
/-! Mini: list methods; names assigned side by side; lists made of ranges; sorted. -/
namespace Mini
open PySem PySem.Spec PyProof.Rows L2
variable [Tb]

section
variable {X : Cx} {O : List Nat}
theorem keepP {K : PySem.W.Frag} {B : Addr → Prop} {H : Hp} {p : Addr} {o o' : HO} {ds : List D} {vs : List V} (hp : H p = some o) (m : Mut (some o)) (hB : B p) (h : Dens K B H ds vs) : Dens K B (upd H p o') ds vs :=
  Dens.keep (O := fun a => a = p) (fun b x e _ n => by rw [upd_ne n]; exact e) (fun b e => by subst e; exact ⟨_, hp, m⟩) (fun b e => by subst e; exact hB) h
theorem keepP1 {K : PySem.W.Frag} {B : Addr → Prop} {H : Hp} {p : Addr} {o o' : HO} {d : D} {v : V} (hp : H p = some o) (m : Mut (some o)) (hB : B p) (h : Den K B H d v) : Den K B (upd H p o') d v :=
  Den.keep (O := fun a => a = p) (fun b x e _ n => by rw [upd_ne n]; exact e) (fun b e => by subst e; exact ⟨_, hp, m⟩) (fun b e => by subst e; exact hB) h
theorem dens1 {K : PySem.W.Frag} {B : Addr → Prop} {H : Hp} {d : D} {vs : List V} (h : Dens K B H [d] vs) : ∃ v, vs = [v] ∧ Den K B H d v := by
  obtain ⟨v, r, rfl, h1, h2⟩ := h
  cases (show r = [] from h2)
  exact ⟨v, rfl, h1⟩
theorem dens_dropLast {K : PySem.W.Frag} {B : Addr → Prop} {H : Hp} {ds : List D} {vs : List V} (h : Dens K B H ds vs) : Dens K B H ds.dropLast vs.dropLast := by
  rw [List.dropLast_eq_take, List.dropLast_eq_take, ← h.length]
  exact h.take _
theorem ixP_seq {n : Nat} {i : Int} {j : Nat} (e1 : ixP n i = some j) : seqIndex? i n = some j := by
  unfold ixP at e1
  show (if (decide (0 ≤ (if i < 0 then i + n else i)) && decide ((if i < 0 then i + n else i) < n)) = true then some (if i < 0 then i + (n : Int) else i).toNat else none) = some j
  split at e1
  · rename_i h0
    rw [if_neg (show ¬ i < 0 by omega)]
    split at e1
    · rename_i h1
      rw [decide_eq_true h0, decide_eq_true h1]
      exact e1
    · cases e1
  · rename_i h0
    rw [if_pos (show i < 0 by omega)]
    split at e1
    · rename_i h1
      rw [decide_eq_true (show 0 ≤ i + (n : Int) by omega), decide_eq_true (show i + (n : Int) < n by omega)]
      exact e1
    · cases e1
theorem ms_append : MethS X "list.append" m_append := by
  refine ⟨_, mt_append, fun B H p c ds z c' us Q e hm hB hd hz q => ?_⟩
  unfold m_append at e
  split at e <;> first | (cases e; done) | skip
  · rename_i a d
    split at e
    · rename_i hl
      cases e
      obtain ⟨vs, hp, hv⟩ := hm
      obtain ⟨v, rfl, hd1⟩ := dens1 hd
      have hl' : vs.length < sizeLine := by rw [← hv.length, ← sz_eq]; exact hl
      have hl2 : (vs ++ [v]).length ≤ sizeLine := by rw [List.length_append, List.length_singleton]; omega
      exact ⟨p, vs, v, rfl, rfl, hp, hl', q _ _ (fun b o e n => by rw [upd_ne n]; exact e) (sz_lst hz hl2) ⟨_, upd_same, keepP hp trivial hB (hv.append ⟨v, [], rfl, hd1, rfl⟩)⟩ ⟨_, rfl, rfl⟩⟩
    · cases e
theorem ms_extend : MethS X "list.extend" m_extend := by
  refine ⟨_, mt_extend, fun B H p c ds z c' us Q e hm hB hd hz q => ?_⟩
  unfold m_extend at e
  split at e <;> first | (cases e; done) | skip
  · rename_i a b
    split at e
    · rename_i hl
      cases e
      obtain ⟨vs, hp, hv⟩ := hm
      obtain ⟨v, rfl, x, xs, rfl, hx, hx2, hx3⟩ := dens1 hd
      have hl' : vs.length + xs.length ≤ sizeLine := by rw [← hv.length, ← hx3.length, ← sz_eq]; exact hl
      have hl2 : (vs ++ xs).length ≤ sizeLine := by rw [List.length_append]; omega
      exact ⟨p, x, vs, xs, rfl, rfl, hp, hx2, hl', q _ _ (fun b o e n => by rw [upd_ne n]; exact e) (sz_lst hz hl2) ⟨_, upd_same, keepP hp trivial hB (hv.append hx3)⟩ ⟨_, rfl, rfl⟩⟩
    · cases e
theorem ms_pop : MethS X "list.pop" m_pop := by
  refine ⟨_, mt_pop, fun B H p c ds z c' us Q e hm hB hd hz q => ?_⟩
  unfold m_pop at e
  split at e <;> first | (cases e; done) | skip
  · rename_i a
    obtain ⟨d, e1, e⟩ := Option.bind_eq_some_iff.mp e
    cases e
    obtain ⟨vs, hp, hv⟩ := hm
    cases (show us = [] from hd)
    obtain ⟨v, e2, h2⟩ := hv.get e1
    rw [hv.length] at e2
    have hl2 : vs.dropLast.length ≤ sizeLine := by
      have := (hz p vs).1 (.inl hp)
      rw [List.length_dropLast]; omega
    exact ⟨p, vs, v, rfl, rfl, hp, e2, q _ _ (fun b o e n => by rw [upd_ne n]; exact e) (sz_lst hz hl2) ⟨_, upd_same, keepP hp trivial hB (dens_dropLast hv)⟩ ⟨_, rfl, keepP1 hp trivial hB h2⟩⟩
theorem ms_popAt : MethS X "list.pop" m_popAt := by
  refine ⟨_, mt_popAt, fun B H p c ds z c' us Q e hm hB hd hz q => ?_⟩
  unfold m_popAt at e
  split at e <;> first | (cases e; done) | skip
  · rename_i a i
    split at e
    · rename_i hb
      have hb := i64_e hb
      obtain ⟨j, e1, e⟩ := Option.bind_eq_some_iff.mp e
      obtain ⟨d, e2, e⟩ := Option.bind_eq_some_iff.mp e
      cases e
      obtain ⟨vs, hp, hv⟩ := hm
      obtain ⟨u, rfl, hu⟩ := dens1 hd
      cases (show u = .int i from hu)
      obtain ⟨v, e3, h3⟩ := hv.get e2
      have hl2 : (vs.eraseIdx j).length ≤ sizeLine := by
        have := (hz p vs).1 (.inl hp)
        have := len_erase vs j
        omega
      refine ⟨p, vs, i, j, v, rfl, rfl, hp, hb.1, hb.2, ?_, e3, q _ _ (fun b o e n => by rw [upd_ne n]; exact e) (sz_lst hz hl2) ⟨_, upd_same, keepP hp trivial hB (hv.eraseIdx j)⟩ ⟨_, rfl, keepP1 hp trivial hB h3⟩⟩
      rw [hv.length] at e1
      exact ixP_seq e1
    · cases e

/-! ### methods that change nothing -/
structure BmS (X : Cx) (id : String) (op : D → List D → Option R) : Prop where
  ex : ∃ r : V → List V → Hp → VK → Prop, MtR X id r ∧ ∀ (B : Addr → Prop) (H : Hp) (x : D) (ds : List D) (z : R) (v : V) (us : List V) (Q : VK), op x ds = some z → ADen X.K B H x v → ADens X.K B H ds us → SzH H → (∀ a, B a → ∃ o, H a = some o) →
    (∀ u H', Same H H' → SzH H' → RDen X.K B H H' z u → Q u H') → r v us H Q
theorem g_bm {id : String} {op : D → List D → Option R} {e0 e : Expr} {es : List Expr} {fa : EF} {fs : AF} (hm : BmS X id op) (h0 : GE X O e0 fa) (ha : GA X O es fs)
    (w : ∀ {r : V → List V → Hp → VK → Prop} {to : TE} {t : TA}, MtR X id r → PE X e0 to → PA X es t → PE X e (tBM X.K "list" r to t)) : GE X O e (e_bm op fa fs) := by
  obtain ⟨r, hr, hs⟩ := hm.ex
  refine PE.w (w hr h0 ha.pa) fun σ H Q ⟨c, env, r0, env', hr0, he, q⟩ => ?_
  obtain ⟨⟨r1, env1⟩, e1, h⟩ := Option.bind_eq_some_iff.mp he
  obtain ⟨x0, e00, h⟩ := Option.bind_eq_some_iff.mp h
  obtain ⟨l0, e01, h⟩ := Option.bind_eq_some_iff.mp h
  obtain ⟨⟨rs, env2⟩, e2, h⟩ := Option.bind_eq_some_iff.mp h
  obtain ⟨x, e3, h⟩ := Option.bind_eq_some_iff.mp h
  obtain ⟨ds, e4, h⟩ := Option.bind_eq_some_iff.mp h
  obtain ⟨z, e5, h⟩ := Option.bind_eq_some_iff.mp h
  cases h
  refine ⟨c, env, r1, env1, hr0, e1, fun N1 v H1 q1 f1 d1 => ?_⟩
  have ty : tyV X.K "list" v H1 := by
    have dA := d1.at q1 e00
    cases lst?_e e01
    obtain ⟨a, rfl, vs, h1, _⟩ := dA
    exact .inl ⟨rfl, _, SqL.of h1⟩
  refine ⟨ty, c.nu N1 O σ H, env1, rs, _, q1, e2, fun N2 us H2 q2 f2 d2 => ?_⟩
  have q12 := hr0.two q1 q2
  have d1' := d1.keep q1 q2 f2
  have d2' := d2.more
  refine hs _ H2 x ds _ v us Q e5 (d1'.at q12 e3) (d2'.at q12 e4) q12.sz (bsome q12) fun u H3 k hz hd => ?_
  obtain ⟨N, q3, f3, d3⟩ := hd.fin hr0 q12 k hz
  exact q N u H3 q3 f3 d3
theorem idx_at {K : PySem.W.Frag} {B B' : Addr → Prop} {H : Hp} {x : D} {v : V} (hs : x.scal = true) (hx : Den K B' H x v) : ∀ {ds : List D} {vs : List V} {n j : Nat}, ds.all D.scal = true → Dens K B H ds vs → idxOf? x ds n = some j →
    ∃ k z, j = n + k ∧ vs[k]? = some z ∧ eqV z v = true ∧ ∀ (m : Nat) (z' : V), m < k → vs[m]? = some z' → eqV z' v = false
  | [], _, _, _, _, _, e => by cases e
  | d :: ds, vs, n, j, f, h, e => by
    obtain ⟨u, us, rfl, h1, h2⟩ := h
    rw [List.all_cons, Bool.and_eq_true] at f
    unfold idxOf? at e
    have eu := eqV_of f.1 hs h1 hx
    split at e
    · rename_i hd
      cases e
      exact ⟨0, u, rfl, rfl, by rw [eu, hd], fun m _ hm => absurd hm (Nat.not_lt_zero _)⟩
    · rename_i hd
      obtain ⟨k, z, e1, e2, e3, e4⟩ := idx_at hs hx f.2 h2 e
      refine ⟨k + 1, z, by omega, e2, e3, fun m z' hm e => ?_⟩
      cases m with
      | zero =>
        have e : u = z' := Option.some.inj e
        subst e
        rw [eu]
        exact Bool.eq_false_iff.mpr hd
      | succ m => exact e4 m z' (by omega) e
theorem ADen.scal {K : PySem.W.Frag} {B : Addr → Prop} {H : Hp} {d : D} {v : V} (hs : d.scal = true) (h : ADen K B H d v) : Den K B H d v := by
  cases d <;> first | exact h | cases hs
theorem bm_index : BmS X "list.index" o_index := by
  refine ⟨_, mt_index, fun B H x ds z v us Q e a b hz hB q => ?_⟩
  unfold o_index at e
  split at e <;> first | (cases e; done) | skip
  rename_i y
  obtain ⟨l, e1, e9⟩ := Option.bind_eq_some_iff.mp e
  clear e
  cases lst?_e e1
  split at e9
  · rename_i hc
    obtain ⟨j, e2, e⟩ := Option.bind_eq_some_iff.mp e9
    cases e
    obtain ⟨p, rfl, xs, hp, hx⟩ := a
    obtain ⟨u, rfl, hu⟩ := adens1 b
    have hu := hu.scal hc.1
    obtain ⟨k, w, e3, e4, e5, e6⟩ := idx_at hc.1 hu hc.2 hx e2
    have : j = k := by omega
    subst this
    exact ⟨p, xs, u, j, w, rfl, rfl, SqL.of hp, flat_of hc.1 hu, flats_of hc.2 hx, e4, e5, e6, q _ H (Same.refl H) hz rfl⟩
  · cases e9
end
end Mini

/-! ## MKey -/
/-! Mini: sorted over a range, by a key that is a lambda of one parameter. -/
namespace Mini
open PySem PySem.Spec PyProof.Rows L2
open LamX (CodeO)
variable [Tb]

/-! ### bodies that only read -/
def KJ (P : Program) (w : World) (A : Around) (env : Env) (g : Heap) (e : Expr) (R : Value → Heap → Prop) : Prop :=
  ∀ s : Shared, (∀ b o, g.get? b = some o → s.heap.get? b = some o) →
    wpAny (model P w) A (eval e env) (fun v s' => ∃ h' tk, s' = { s with heap := h', toks := tk } ∧ (∀ b o, s.heap.get? b = some o → h'.get? b = some o) ∧ R v h') (fun _ _ => False) s
abbrev kV (u : Value) : Value → Heap → Prop := fun v _ => v = u
abbrev kI (i : Int) : Value → Heap → Prop := fun v _ => ∃ t, v = .int i t
abbrev kD (d : PyData) : Value → Heap → Prop := fun v h => Reads h v d []
section
variable {P : Program} {w : World} {A : Around} {env : Env} {g : Heap}
theorem KJ.mono {e : Expr} {R R' : Value → Heap → Prop} (h : KJ P w A env g e R) (m : ∀ v h, R v h → R' v h) : KJ P w A env g e R' := fun s k =>
  wpAny_mono (h s k) (fun v s' ⟨h', tk, e, k', r⟩ => ⟨h', tk, e, k', m _ _ r⟩) fun _ _ z => z
theorem kj_loc {x : Str} {pos : Pos} {m : Str → Option Value} {v : Value} (hk : env.scope.kind = .function) (hl : env.kindOf x = some .local) (hn : g.Ns env.locals m) (hm : m x = some v) (hd : (x == ("__debug__" : Str)) = false := by decide) : KJ P w A env g (.Name x pos) (kV v) := fun s k =>
  wpAny_Name (wpAny_loadName_local hk hl (hn.keeps k) hm ⟨s.heap, s.toks, rfl, fun _ _ e => e, rfl⟩) hd
theorem kj_free {x : Str} {pos : Pos} {c : Addr} {v : Value} (hk : env.scope.kind = .function) (hl : env.kindOf x = some .free) (hc : env.cells.lookup x = some c) (h : g.IsCell c (some v)) (hd : (x == ("__debug__" : Str)) = false := by decide) (hcd : (x == ("__classdict__" : Str)) = false := by decide) :
    KJ P w A env g (.Name x pos) (kV v) := fun s k =>
  wpAny_Name (wpAny_loadName_free hk hl hc (let ⟨o, ho, hd⟩ := h; ⟨o, k _ _ ho, hd⟩) ⟨s.heap, s.toks, rfl, fun _ _ e => e, rfl⟩ hcd) hd
theorem kj_ixT {a b : Expr} {pos : Pos} {p : Addr} {its : List Value} {i : Int} {u : Value} (ha : KJ P w A env g a (kV (.ref p))) (hb : KJ P w A env g b (kI i)) (hp : IsTup g p its.toArray) (h0 : 0 ≤ i) (hi : i.toNat < its.length) (hz : its.length ≤ sizeLine) (hu : its[i.toNat]? = some u)
    (hs : ∀ t, subscripted b false (.ref p) (.int i t) = operate [.ref p, .int i t] (getItem (.ref p) (.int i t)) := by intro t; with_unfolding_all rfl) : KJ P w A env g (.Subscript a b pos) (kV u) := fun s k => by
  refine Subscript_ (wpAny_mono (ha s k) (fun v s1 ⟨h1, t1, e1, k1, r1⟩ => ?_) fun _ _ z => z)
  subst e1
  have r1 : v = .ref p := r1
  subst r1
  refine wpAny_mono (hb _ fun b o e => k1 b o (k b o e)) (fun v s2 ⟨h2, t2, e2, k2, r2⟩ => ?_) fun _ _ z => z
  subst e2
  obtain ⟨t, rfl⟩ := r2
  have hp2 : IsTup h2 p its.toArray := by
    obtain ⟨o, ho, hr⟩ := hp
    exact ⟨o, k2 _ _ (k1 _ _ (k _ _ ho)), hr⟩
  have hn := line63
  have hj : seqIndex? i its.toArray.size = some i.toNat := by
    rw [List.size_toArray]
    exact ixP_seq (by unfold ixP; rw [if_pos h0, if_pos (by omega)])
  exact subscriptTail_builtinR (x := u) hp2.typeIs slot_tuple_getitem.lookup
    (getItem_tuple (j := i.toNat) hp2 (by omega) (by omega) hj (by simpa using hu) ⟨rfl, ⟨h2, t2, rfl, fun b o e => k2 b o (k1 b o e), rfl⟩⟩) (hs t)
theorem kj_ixL {a b : Expr} {pos : Pos} {p : Addr} {its : List Value} {i : Int} {u : Value} (ha : KJ P w A env g a (kV (.ref p))) (hb : KJ P w A env g b (kI i)) (hp : PlainL g p its.toArray) (h0 : 0 ≤ i) (hi : i.toNat < its.length) (hz : its.length ≤ sizeLine) (hu : its[i.toNat]? = some u)
    (hs : ∀ t, subscripted b false (.ref p) (.int i t) = operate [.ref p, .int i t] (getItem (.ref p) (.int i t)) := by intro t; with_unfolding_all rfl) : KJ P w A env g (.Subscript a b pos) (kV u) := fun s k => by
  refine Subscript_ (wpAny_mono (ha s k) (fun v s1 ⟨h1, t1, e1, k1, r1⟩ => ?_) fun _ _ z => z)
  subst e1
  have r1 : v = .ref p := r1
  subst r1
  refine wpAny_mono (hb _ fun b o e => k1 b o (k b o e)) (fun v s2 ⟨h2, t2, e2, k2, r2⟩ => ?_) fun _ _ z => z
  subst e2
  obtain ⟨t, rfl⟩ := r2
  have hp2 : PlainL h2 p its.toArray := by
    obtain ⟨o, n, ho, hr⟩ := hp
    exact ⟨o, n, k2 _ _ (k1 _ _ (k _ _ ho)), hr⟩
  have hn := line63
  exact item_listR hp2.isList h0 (by omega) (by simpa using hu) ⟨h2, t2, rfl, fun b o e => k2 b o (k1 b o e), rfl⟩ (hs t)
theorem kj_pair {a b : Expr} {x1 : Nat} {pos : Pos} {i j : Int} (ha : KJ P w A env g a (kI i)) (hb : KJ P w A env g b (kI j)) (h1 : starEach [a, b] env = (false, eval a env) :: starEach [b] env := by rfl) (h2 : starEach [b] env = (false, eval b env) :: starEach [] env := by rfl) :
    KJ P w A env g (.Tuple [a, b] x1 pos) (kD (.tuple [.int i, .int j])) := fun s k => by
  refine wpAny_Tuple_spliced (args_cons (wpAny_mono (ha s k) (fun v s1 ⟨h1, t1, e1, k1, r1⟩ => ?_) fun _ _ z => z) h1)
  subst e1
  obtain ⟨t, rfl⟩ := r1
  refine args_cons (wpAny_mono (hb _ fun b o e => k1 b o (k b o e)) (fun v s2 ⟨h2, t2, e2, k2, r2⟩ => ?_) fun _ _ z => z) h2
  subst e2
  obtain ⟨t', rfl⟩ := r2
  refine args_nil ⟨by show 2 ≤ sizeLine; decide, ?_⟩
  refine ⟨_, t2, rfl, fun b o e => Heap.get?_push_of_some _ (k2 b o (k1 b o e)), ?_⟩
  exact Reads.tuple (as := []) (Heap.get?_push_size _ rfl) rfl rfl (ReadsAll.cons (as := []) (bs := []) (Reads.int _ _) (ReadsAll.cons (as := []) (bs := []) (Reads.int _ _) ReadsAll.nil))

/-! ### the lambda called -/
theorem lam_turn {s : Shared} {params : Arguments} {body : Expr} {scope : Scope} {f c' : Addr} {pm ctv v : Value} {x q : Str} {cl : List (Str × Addr)} {k : PyData}
    (hf : g.get? f = some (PySem.W.kla_obj "<lambda>" q params body scope cl pm c' ctv)) (hcr : g.CodeRec (.ref c') q) (nl : g.NoLimit) (hroom : A.depth < recursionLimit) (hkd : scope.kind = .function) (hco : scope.isCoroutine = false) (hgen : scope.isGenerator = false)
    (hcell : ∀ y ∈ scope.names, y.2 ≠ .cell) (hx : scope.names.lookup x = some .local) (hbind : bindArgs (PySem.W.kla_fn "<lambda>" q params body scope cl pm (.ref c') ctv) ⟨[v], []⟩ = pure [(x, v)])
    (hbody : ∀ (h1 : Heap) (L : Addr), (∀ b o, g.get? b = some o → h1.get? b = some o) → h1.Ns L (fun y => [(x, v)].reverse.lookup y) → KJ P w (A.deeper (PySem.W.envX q scope L f (.ref c') cl)) (PySem.W.envX q scope L f (.ref c') cl) h1 body (kD k))
    {h : Heap} {tk : Nat} (kp : ∀ b o, g.get? b = some o → h.get? b = some o) : wpAny (model P w) A (call (.ref f) [v]) (PySem.W.KeyPure k { s with heap := h, toks := tk }) (fun _ _ => False) { s with heap := h, toks := tk } := by
  have main : codeAny (model P w) A (.call (.ref f) ⟨[v], []⟩) (fun r s' => ∃ u, r = .ok (.ret u) ∧ PySem.W.KeyPure k { s with heap := h, toks := tk } u s') { s with heap := h, toks := tk } := by
    refine PySem.W.kla_callFunE hroom (kp _ _ hf) rfl hco hgen rfl (hcr.keeps kp) ?_
    rw [hbind]
    refine wpAny_pure (wpAny_newFunctionEnv hcell (fun y hy => ?_) (fun h1 hns hsb => ⟨(nl.keeps kp).fresh _ hsb, ?_⟩) hkd)
    · rw [List.mem_singleton.mp hy]
      exact hx
    have k1 : ∀ b o, h.get? b = some o → h1.get? b = some o := fun b o e => hsb.extBut b o (Nat.ne_of_lt (Heap.lt_size e)) (Heap.get?_push_of_some _ e)
    refine PySem.W.kla_codeExpr (wpAny_mono (hbody h1 _ (fun b o e => k1 b o (kp b o e)) hns _ fun _ _ e => e) (fun u s' ⟨h', t', e, k2, r⟩ => ?_) fun _ _ z => z.elim)
    exact ⟨u, rfl, h', t', e, fun b o e => k2 b o (k1 b o e), r⟩
  refine wpAny_call (codeAny_mono main fun r s' hq => ?_)
  obtain ⟨u, e, hq⟩ := hq
  subst e
  exact hq

/-! ### sorted over a range -/
theorem sorted_rng {s : Shared} {E : Value → Shared → Prop} {r : Addr} {a b : Int} {t u v : Tok} {n : Nat} {kw : List (Str × Value)} {Q : Value → Shared → Prop} (hh : A.handled = none) (hr : IsRange s.heap r a b 1 t u v) (hsmall : Builtin.Range.small a b 1 = true) (hn : Builtin.Range.rangeSize a b 1 = n) (hlen : n ≤ 2 ^ 24)
    (ha1 : argsOk "sorted" ⟨[.ref r], kw⟩) (ha2 : ∀ x, argsOk "list.sort" ⟨[.ref x], kw⟩)
    (body : ∀ (h' : Heap) (tk : Nat) (acc : Array Value), (∀ b o, s.heap.get? b = some o → h'.get? b = some o) → ItemsOf (fun i v => ∃ t, v = .int (a + i * 1) t) acc n →
      wpAny (model P w) A.in1 (call (.builtin "list.sort") [.ref h'.objs.size] kw) (fun _ s' => Q (.ref h'.objs.size) s') E { s with heap := h'.push { cls := .type "list", data := .seq acc.toList.toArray }, toks := tk }) :
    wpAny (model P w) A (call (.builtin "sorted") [.ref r] kw) Q E s := by
  refine call_function_entry_kw kind_sorted plain_sorted entry_sorted ha1 ?_
  unfold Builtin.«sorted»
  refine wpAny_bind (m := checkCount "sorted" 1 1 _) (wpAny_pure ?_)
  refine wpAny_bind (collect_range (A := A.in1) hh hr hsmall hn hlen fun h' tk acc hk hi => ?_)
  have hz : acc.toList.length ≤ sizeLine := by rw [Array.length_toList, hi.1, sizeLine_eq]; omega
  refine wpAny_bind (wpAny_newList ?_ hz)
  refine wpAny_bind (wpAny_holding ?_)
  refine wpAny_mono (body h' tk acc hk hi) (fun v s' hq => ?_) fun _ _ e => e
  exact wpAny_pure ⟨_, rfl, hq⟩
end

/-! ### the lambda made -/
section
variable {X : Cx} {pins : List (Addr × Obj)} {σ : L2.St} {H : Hp} {s : Shared}
abbrev lamQ (X : Cx) : Str := X.env.qual ++ "<lambda>"
theorem lam_mk {c P : Addr} {ps0 : Arguments} {bd : Expr} {sc : Scope} {pos : Pos} {E : Value → Shared → Prop} {Q : Value → Shared → Prop} (I : Inv X pins σ H s) (TB : LamX.TabB X.base X.mg c P) (hcode : X.env.code = .ref c)
    (hm : (P, lamQ X) ∈ Tb.T) (hu : ∀ p ∈ Tb.T, p.1 = P → p.2 = lamQ X) (ht : LamX.Tabs Tb.T H) (hdef : defaultsOf ps0 X.env = ([], [])) (hfree : ∀ y ∈ sc.names, y.2 = .free → ∃ c, X.env.cells.lookup y.1 = some c)
    (k : ∀ (f c' : Addr) (pm ctv : Value) (H1 : Hp) (s' : Shared), Inv X pins σ H1 s' → Same H H1 → (SzH H → SzH H1) → (∀ b o, b ≠ P → s.heap.get? b = some o → s'.heap.get? b = some o) →
      s'.heap.get? f = some (PySem.W.kla_obj "<lambda>" (lamQ X) ps0 bd sc (cloFrom X.env.cells sc.names []) pm c' ctv) → s'.heap.CodeRec (.ref c') (lamQ X) → Q (.ref f) s') :
    wpAny (model X.prog X.w) X.A (eval (.Lambda ps0 bd sc pos) X.env) Q E s := by
  obtain ⟨tb, tbP, tbT, tbC⟩ := ht _ hm
  have atP : s.heap.get? P = some { cls := .none, data := .fields tb } := I.hok P _ tbP
  have blt : s.heap.BuiltinsAt X.mg P := TB.bm.keeps I.bk
  have clo := closure_ok hfree
  refine PySem.W.kla_eval hdef ?_
  cases am : codeAmong pos tb.toList with
  | some cv =>
    obtain ⟨c', rfl, co⟩ := tbC pos cv am
    obtain ⟨⟨oc, vs, t, o1, o2, o3⟩, _, _⟩ := I.hok c' _ co
    refine PySem.W.kla_makeFunctionHit (mg := X.mg) (c := c) (P := P) (ps := tb) clo I.ok.glob (I.mod.glob.keeps I.bk) hcode (TB.code.keeps I.bk) atP tbT am blt fun ctv h' tk hx hsz => ?_
    have kk : ∀ b o, s.heap.get? b = some o → (h'.push (PySem.W.kla_obj "<lambda>" (lamQ X) ps0 bd sc (cloFrom X.env.cells sc.names []) ((X.mg "__name__").getD .none) c' ctv)).get? b = some o := fun b o e => Heap.get?_push_of_some _ (hx b o e)
    exact k h'.objs.size c' _ ctv H _ (I.kept (t' := tk) kk) (Same.refl H) (fun z => z) (fun b o _ e => kk b o e) (Heap.get?_push_size _ rfl) ⟨c', oc, vs, t, rfl, kk _ _ o1, o2, o3⟩
  | none =>
    refine PySem.W.kla_makeFunction (mg := X.mg) (c := c) (P := P) (ps := tb) clo I.ok.glob (I.mod.glob.keeps I.bk) hcode (TB.code.keeps I.bk) atP tbT am TB.gP blt fun c' ctv h' tk hx hge hlt hrec htb => ?_
    obtain ⟨c2, oc, vs, t, ec, o1, o2, o3⟩ := hrec
    cases ec
    have none1 : H c' = none := I.hok.fresh hge
    have neP : c' ≠ P := fun z => by rw [z, tbP] at none1; cases none1
    have kk : ∀ b o, b ≠ P → s.heap.get? b = some o → (h'.push (PySem.W.kla_obj "<lambda>" (lamQ X) ps0 bd sc (cloFrom X.env.cells sc.names []) ((X.mg "__name__").getD .none) c' ctv)).get? b = some o := fun b o n e => Heap.get?_push_of_some _ (hx b o n e)
    have I1 := LamX.inv_table (q := lamQ X) (t' := tk) (more := #[rawInt pos.line, rawInt pos.col, .ref c']) I tbP kk (Heap.get?_push_of_some _ htb) hge ⟨oc, vs, t, Heap.get?_push_of_some _ o1, o2, o3⟩
    have keep : ∀ b o, H b = some o → b ≠ P → (upd (upd H P (.tbl (tb ++ #[rawInt pos.line, rawInt pos.col, .ref c']))) c' (CodeO c' (lamQ X))) b = some o := fun b o e n => by
      rw [upd_ne (ne_of_none e none1), upd_ne n]
      exact e
    have tabP : (upd (upd H P (.tbl (tb ++ #[rawInt pos.line, rawInt pos.col, .ref c']))) c' (CodeO c' (lamQ X))) P = some (.tbl (tb ++ #[rawInt pos.line, rawInt pos.col, .ref c'])) := by
      rw [upd_ne (Ne.symm neP), upd_same]
    have code : ∀ {c0 : Addr} {q : Str}, H c0 = some (CodeO c0 q) → (upd (upd H P (.tbl (tb ++ #[rawInt pos.line, rawInt pos.col, .ref c']))) c' (CodeO c' (lamQ X))) c0 = some (CodeO c0 q) := fun {c0 q} e => keep _ _ e fun z => by
      rw [z, tbP] at e
      unfold LamX.CodeO at e
      cases e
    have sm : Same H (upd (upd H P (.tbl (tb ++ #[rawInt pos.line, rawInt pos.col, .ref c']))) c' (CodeO c' (lamQ X))) := by
      refine ⟨fun a o e n => keep a o e fun z => ?_, fun a o e => ?_, fun t p hp => ?_⟩
      · subst z
        rw [tbP] at e
        exact n _ (Option.some.inj e).symm
      · by_cases ha : a = P
        · subst ha
          exact ⟨_, tabP⟩
        · exact ⟨o, keep a o e ha⟩
      · obtain ⟨ps', a1, a2, a3⟩ := t p hp
        by_cases hb : p.1 = P
        · have e1 : ps' = tb := by
            rw [hb, tbP] at a1
            cases a1
            rfl
          subst e1
          rw [hu p hp hb, hb]
          have el : (ps' ++ #[rawInt pos.line, rawInt pos.col, .ref c']).toList = ps'.toList ++ [rawInt pos.line, rawInt pos.col, .ref c'] := by simp
          refine ⟨_, tabP, by rw [el]; exact PySem.TriplesOk_snoc _ _ _ _ tbT, fun p' cv hcv => ?_⟩
          rw [el] at hcv
          rcases LamX.among_app _ tbT hcv with z | z
          · obtain ⟨c0, e1, e2⟩ := tbC p' cv z
            exact ⟨c0, e1, code e2⟩
          · exact ⟨c', z, upd_same⟩
        · exact ⟨ps', keep _ _ a1 hb, a2, fun p' cv hcv => let ⟨c0, e1, e2⟩ := a3 p' cv hcv; ⟨c0, e1, code e2⟩⟩
    have szz : SzH H → SzH (upd (upd H P (.tbl (tb ++ #[rawInt pos.line, rawInt pos.col, .ref c']))) c' (CodeO c' (lamQ X))) := fun z =>
      sz_upd (sz_upd z (fun _ e => by cases e) (fun _ e => by cases e) fun _ _ e => by cases e) (fun _ e => by unfold LamX.CodeO at e; cases e) (fun _ e => by unfold LamX.CodeO at e; cases e) fun _ _ e => by unfold LamX.CodeO at e; cases e
    exact k h'.objs.size c' _ ctv _ _ I1 sm szz kk (Heap.get?_push_size _ rfl) ⟨c', oc, vs, t, rfl, Heap.get?_push_of_some _ o1, o2, o3⟩
end

/-! ### sorted(range(..), key=lambda x: (y[x], x)) -/
theorem each_ints : ∀ {out : List Value} {ns : List Int}, PySem.W.EachIs (fun v (i : Int) => ∃ t, v = Value.int i t) out ns → Vals (ns.map V.int) out
  | _, _, .nil => .nil
  | _, _, .cons h r => .cons h (each_ints r)
theorem each_range {a : Int} {acc : Array Value} {n : Nat} (h : ItemsOf (fun i v => ∃ t, v = .int (a + i * 1) t) acc n) : PySem.W.EachIs (fun v (i : Int) => ∃ t, v = Value.int i t) acc.toList ((List.range n).map fun (i : Nat) => (a + i : Int)) := by
  obtain ⟨h1, h2⟩ := h
  have : ∀ (l : List Value) (m : Nat), (∀ (j : Nat) v, l[j]? = some v → ∃ t, v = Value.int (a + ((m + j : Nat) : Int)) t) → PySem.W.EachIs (fun v (i : Int) => ∃ t, v = Value.int i t) l ((List.range' m l.length).map fun (i : Nat) => (a + i : Int)) := by
    intro l
    induction l with
    | nil => exact fun m _ => .nil
    | cons v l ih =>
      intro m h
      rw [List.length_cons, List.range'_succ, List.map_cons]
      refine .cons (h 0 v rfl) (ih (m + 1) fun j u e => ?_)
      have := h (j + 1) u e
      rw [show m + 1 + j = m + (j + 1) by omega]
      exact this
  have := this acc.toList 0 fun j v e => by
    obtain ⟨t, e2⟩ := h2 j v (by rw [← e, Array.getElem?_toList])
    exact ⟨t, by rw [e2, Int.mul_one, Nat.zero_add]⟩
  rw [Array.length_toList, h1, ← List.range_eq_range'] at this
  exact this
section
variable {X : Cx}
def tSortRL (X : Cx) (te : L2.St → Hp → (Int → Int → Hp → Prop) → Prop) (i : Nat) : TE := fun σ H Q => te σ H fun a b H1 => a = 0 ∧ RgOk a b ∧ LamX.Tabs Tb.T H1 ∧ ∃ (p : Addr) (ns : List Int), σ[i]? = some (some (.ref p)) ∧ (SqL X.K H1 p (ns.map V.int) ∨ SqT X.K H1 p (ns.map V.int)) ∧ b ≤ ns.length ∧ ns.length ≤ sizeLine ∧
  ∀ H2 q, Same H1 H2 → (SzH H1 → SzH H2) → H2 q = none → Q (.ref q) (upd H2 q (.lst ((sortIx ns b.toNat).map V.int)))
theorem pe_sortRL {e : Expr} {te : L2.St → Hp → (Int → Int → Hp → Prop) → Prop} {c P : Addr} {ps0 : Arguments} {sc : Scope} {x y : Str} {i x1 : Nat} {p0 p1 p2 p3 p4 p5 p6 p7 p8 : Pos} (hc : X.calm = true) (hu : X.A.units + 65 < cLine) (hroom : X.A.depth < recursionLimit) (hg : Gl X "sorted") (hm : X.mg "sorted" = none) (he : PRg X e te)
    (TB : LamX.TabB X.base X.mg c P) (hcode : X.env.code = .ref c) (hT : (P, lamQ X) ∈ Tb.T) (hTu : ∀ p ∈ Tb.T, p.1 = P → p.2 = lamQ X) (hdef : defaultsOf ps0 X.env = ([], [])) (hN : X.N[i]? = some y)
    (hkd : sc.kind = .function) (hco : sc.isCoroutine = false) (hgen : sc.isGenerator = false) (hcell : ∀ z ∈ sc.names, z.2 ≠ .cell) (hxl : sc.names.lookup x = some .local) (hyl : sc.names.lookup y = some .free) (hfr : ∀ z ∈ sc.names, z.2 = .free → X.env.scope.names.lookup z.1 = some .cell ∨ X.env.scope.names.lookup z.1 = some .free)
    (hbind : ∀ (v pm cv ctv : Value) (cl : List (Str × Addr)), bindArgs (PySem.W.kla_fn "<lambda>" (lamQ X) ps0 (.Tuple [.Subscript (.Name y p1) (.Name x p2) p3, .Name x p4] x1 p5) sc cl pm cv ctv) ⟨[v], []⟩ = pure [(x, v)])
    (hdx : (x == ("__debug__" : Str)) = false) (hdy : (y == ("__debug__" : Str)) = false) (hcy : (y == ("__classdict__" : Str)) = false) (hs : ∀ (p : Addr) (i : Int) (t : Tok), subscripted (.Name x p2) false (.ref p) (.int i t) = operate [.ref p, .int i t] (getItem (.ref p) (.int i t)))
    (na : starEach [e] X.env = (false, eval e X.env) :: starEach [] X.env := by rfl) (nb : backTo p8 (starEach [e] X.env) = (false, eval e X.env) :: backTo p8 (starEach [] X.env) := by rfl) (np : (backTo p8 (starEach [e] X.env)).any (·.1) = false := by rfl) :
    PE X (.Call (.Name "sorted" p0) [e] [⟨some "key", .Lambda ps0 (.Tuple [.Subscript (.Name y p1) (.Name x p2) p3, .Name x p4] x1 p5) sc p6, p7⟩] p8) (tSortRL X te i) := by
  refine ⟨fun pins s σ H Q I h => ?_⟩
  refine wpAny_Call_Name_kw (ld_blt I hg hm boot_sorted ?_)
  refine callWith_kw (args_cons (thn (he pins s σ H _ I h) fun xr s1 ⟨r, a, b, t, u, v, H1, ex, hr, I1, q⟩ => args_nil ?_) na) nb np rfl rfl
  subst ex
  obtain ⟨ha0, ok, ht, p, ns, hp, hps, hbn, hsz, q⟩ := q
  subst ha0
  obtain ⟨b1, b2, b3, b4, b5⟩ := ok
  have hfree : ∀ z ∈ sc.names, z.2 = .free → ∃ c, X.env.cells.lookup z.1 = some c := fun z hz ez => I.ok.has _ (hfr z hz ez)
  have rP : r ≠ P := fun z => by
    obtain ⟨ps, e1, _⟩ := ht _ hT
    have e2 : s1.heap.get? P = some { cls := .none, data := .fields ps } := I1.hok P _ e1
    have e3 : s1.heap.get? r = some { cls := .type "range", data := .fields #[.int 0 t, .int b u, .int 1 v] } := hr
    rw [z, e2] at e3
    cases e3
  show wpAny _ _ (evalAll [(do let v ← eval (.Lambda ps0 _ sc p6) X.env; standAt p8; pure v)]) _ _ s1
  refine wpAny_evalAll_cons (wpAny_bind (lam_mk I1 TB hcode hT hTu ht hdef hfree fun f c' pm ctv H2 s2 I2 sm sz kk hf hcr => wpAny_bind (wpAny_standAt (wpAny_pure (wpAny_evalAll_nil ?_)))))
  have hr2 : IsRange s2.heap r 0 b 1 t u v := kk _ _ rP hr
  -- the sequence that is read
  obtain ⟨its, rv, hits⟩ : ∃ its : List Value, Vals (ns.map V.int) its ∧ (PlainL s2.heap p its.toArray ∨ IsTup s2.heap p its.toArray) := by
    have nt : ∀ o, H1 p = some o → NT o → H2 p = some o := fun o e n => sm.keep p o e n
    rcases hps with h | h
    · have h2 : SqL X.K H2 p (ns.map V.int) := by
        rcases h with (h | ⟨o, h⟩) | h
        · exact .inl (.inl (nt _ h ntL))
        · exact .inl (.inr ⟨o, nt _ h ntF⟩)
        · exact .inr h
      obtain ⟨its, h3, h4, _⟩ := I2.list h2
      exact ⟨its, h3, .inl h4⟩
    · have h2 : SqT X.K H2 p (ns.map V.int) := SqT.keepT (O := fun _ => False) (fun a o e n _ => sm.keep a o e n) (fun _ z => z.elim) h
      obtain ⟨its, h3, h4, _⟩ := I2.tuple h2
      exact ⟨its, h3, .inr h4⟩
  have hlen : ns.length = its.length := by rw [← rv.length, List.length_map]
  -- the captured name
  obtain ⟨cy, hcy1, hcell2⟩ : ∃ c, X.env.cells.lookup y = some c ∧ s2.heap.IsCell c (some (.ref p)) := by
    obtain ⟨m, hn, hl⟩ := I2.loc
    have hyS := hfr _ (PySem.mem_of_lookup hyl) rfl
    obtain ⟨w', r1, lk⟩ := hl i y (.ref p) hN hp (hyS.elim (fun k => .inr (.inl k)) fun k => .inr (.inr k))
    cases r1
    rcases lk with ⟨k1, _⟩ | ⟨_, c, e1, e2⟩
    · have k1 : X.env.scope.names.lookup y = some .local := k1
      rcases hyS with k2 | k2 <;> rw [show X.env.scope.names.lookup y = _ from k2] at k1 <;> cases k1
    · exact ⟨c, e1, e2⟩
  have hcl : (cloFrom X.env.cells sc.names []).lookup y = some cy := by
    have hy : (y, NameKind.free) ∈ sc.names := PySem.mem_of_lookup hyl
    obtain ⟨c2, e2⟩ := mem_lookup (cloFrom_has (cells := X.env.cells) (acc := []) hy)
    rcases cloFrom_mem (PySem.mem_of_lookup e2) with hm | ⟨_, h2⟩
    · cases hm
    · rw [e2, h2, hcy1]
      rfl
  have n0 : (b - 0).toNat = b.toNat := by rw [Int.sub_zero]
  refine sorted_rng (A := X.A) (n := (b - 0).toNat) (I.ok.hd hc) hr2 (small_one b1 b2 b3 b4) (rangeSize_nat 0 b) b5 (ksk_s1 _ _) (fun _ => ksk_l1 _ _) fun h' tk acc hk hi => ?_
  have each := each_range hi
  have eb : ((List.range (b - 0).toNat).map fun (i : Nat) => ((0 : Int) + i : Int)) = (List.range b.toNat).map fun (i : Nat) => (i : Int) := by
    rw [n0]
    exact List.map_congr_left fun i _ => Int.zero_add _
  rw [eb] at each
  have fresh : ∀ {d : Addr} {o : Obj}, s2.heap.get? d = some o → d ≠ h'.objs.size := fun e => Nat.ne_of_lt (Heap.lt_size (hk _ _ e))
  refine PySem.W.list_sort_key_data (b := false) (bs := (List.range b.toNat).map fun (i : Nat) => (i : Int)) (R := fun v (i : Int) => ∃ t, v = Value.int i t) (fun x : Int => .tuple [.int (ns.getD x.toNat 0), .int x]) (Heap.get?_push_size _ rfl) each
    (PySem.W.AllAlike.of fun _ _ => by simp [PySem.W.alike, PySem.W.alikeAll]) (PySem.W.Sortable.tuples fun _ => ⟨_, _, rfl⟩) (by rw [List.length_map, List.length_range]; omega) (fun x _ => ?_) (ksk_l1 _ _) (ksk_t1 _ _) ?turn ?done
  · have hd : (PyData.tuple [.int (ns.getD x.toNat 0), .int x]).depth = 1 := by simp [PyData.depth, PyData.depthAll]
    rw [hd]
    show X.A.units + 1 + 1 + 1 < cLine
    omega
  case turn =>
    rintro v x ⟨tx, rfl⟩ hx h tk2 kb
    obtain ⟨j, hj, rfl⟩ := List.mem_map.mp hx
    have hj : j < b.toNat := List.mem_range.mp hj
    have kp : ∀ d o, s2.heap.get? d = some o → h.get? d = some o := fun d o e => kb d o (fresh e) (Heap.get?_push_of_some _ (hk _ _ e))
    refine lam_turn (A := X.A.in1.in1) (s := s2) (g := s2.heap) (v := .int j tx) hf hcr I2.nolimit hroom hkd hco hgen hcell hxl (hbind _ _ _ _ _) (fun h1 L k1 hns => ?_) kp
    have hjn : j < ns.length := by omega
    obtain ⟨u, eu, tu, ru⟩ := rv.get (i := j) (x := .int ns[j]) (by rw [List.getElem?_map, List.getElem?_eq_getElem hjn]; rfl)
    have eg : ns.getD (j : Int).toNat 0 = ns[j] := by rw [Int.toNat_natCast, List.getD_eq_getElem?_getD, List.getElem?_eq_getElem hjn]; rfl
    have kx : ∀ pos : Pos, KJ X.prog X.w (X.A.in1.in1.deeper (PySem.W.envX (lamQ X) sc L f (.ref c') (cloFrom X.env.cells sc.names []))) (PySem.W.envX (lamQ X) sc L f (.ref c') (cloFrom X.env.cells sc.names [])) h1 (.Name x pos) (kI j) := fun pos =>
      (kj_loc (env := PySem.W.envX (lamQ X) sc L f (.ref c') (cloFrom X.env.cells sc.names [])) (v := .int j tx) hkd hxl hns (by show ([(x, Value.int j tx)] : List (Str × Value)).lookup x = _; rw [List.lookup_cons, beq_self_eq_true]) hdx).mono fun v h e => ⟨tx, e⟩
    have ky : KJ X.prog X.w (X.A.in1.in1.deeper (PySem.W.envX (lamQ X) sc L f (.ref c') (cloFrom X.env.cells sc.names []))) (PySem.W.envX (lamQ X) sc L f (.ref c') (cloFrom X.env.cells sc.names [])) h1 (.Name y p1) (kV (.ref p)) :=
      kj_free (env := PySem.W.envX (lamQ X) sc L f (.ref c') (cloFrom X.env.cells sc.names [])) hkd hyl hcl (let ⟨o, ho, hd⟩ := hcell2; ⟨o, k1 _ _ ho, hd⟩) hdy hcy
    rw [eg]
    have eu' : its[(j : Int).toNat]? = some u := by rw [Int.toNat_natCast]; exact eu
    refine kj_pair (KJ.mono (R := kV u) ?_ fun v h e => ⟨tu, by rw [show v = u from e, ru]⟩) (kx p4)
    rcases hits with ⟨o, n, ho, hr⟩ | ⟨o, ho, hr⟩
    · exact kj_ixL (its := its) ky (kx p2) ⟨o, n, k1 _ _ ho, hr⟩ (Int.natCast_nonneg _) (by rw [Int.toNat_natCast]; omega) (by omega) eu' (hs p j)
    · exact kj_ixT (its := its) ky (kx p2) ⟨o, k1 _ _ ho, hr⟩ (Int.natCast_nonneg _) (by rw [Int.toNat_natCast]; omega) (by omega) eu' (hs p j)
  case done =>
    intro out c2 h2 tk2 kb ha ho eo
    rw [PySem.W.dataLe_ii (β := Int) (fun x => ns.getD x.toNat 0) fun x => x] at eo
    have vo := each_ints eo
    have I3 := I2.kept (t' := tk) hk
    have fr3 : H2 h'.objs.size = none := I3.hok.fresh (Nat.le_refl _)
    have hol : (((((List.range b.toNat).map fun (i : Nat) => (i : Int)).mergeSort fun p q => decide (ns.getD p.toNat 0 < ns.getD q.toNat 0 ∨ (ns.getD p.toNat 0 = ns.getD q.toNat 0 ∧ p ≤ q)))).map V.int).length ≤ sizeLine := by
      rw [List.length_map, List.length_mergeSort, List.length_map, List.length_range]
      omega
    exact ⟨.ref _, _, I3.laid (t' := tk2) (a := h'.objs.size) (o := .lst ((sortIx ns b.toNat).map V.int)) (fun d o e => kb d o (Nat.ne_of_lt (Heap.lt_size e)) (Heap.get?_push_of_some _ e)) (Nat.le_refl _) ⟨hol, out, c2, vo, ha⟩, rfl, q _ _ sm sz fr3⟩
end
end Mini

/-! ## MRev -/
/-! Mini: t[::-1], lists and tuples made of ranges, sorted, star in displays, names side by side. -/
namespace Mini
open PySem PySem.Spec PyProof.Rows L2
variable [Tb]

section
variable {prog : Program} {w : World} {A : Around} {E : Value → Shared → Prop} {s : Shared}
theorem slice_back {sl : Addr} {n : Nat} {t : Tok} {Q : Int × Int × Nat → Shared → Prop} (hs : s.heap.IsSliceOf sl .none .none (.int (-1) t)) (h : Q ((n : Int) - 1, -1, n) s) : wpAny (model prog w) A (Builtin.Slice.sliceApplied (.ref sl) (pure (n : Int))) Q E s := by
  obtain ⟨so, e1, e2, e3⟩ := id hs
  unfold Builtin.Slice.sliceApplied Builtin.Slice.sliceFields
  refine wpAny_bind (wpAny_bind (wpAny_field e1 e3 (x := .none) rfl (wpAny_bind (wpAny_field e1 e3 (x := .none) rfl (wpAny_bind (wpAny_field e1 e3 (x := .int (-1) t) rfl (wpAny_pure ?_)))))))
  refine wpAny_bind (HT.slicePart_ (IsPart.int (-1) t) ?_)
  show wpAny _ _ (if ((-1 : Int) == 0) = true then _ else _) _ _ s
  rw [if_neg (by decide)]
  refine wpAny_bind (HT.slicePart_ IsPart.none (wpAny_bind (HT.slicePart_ IsPart.none (wpAny_bind (wpAny_pure ?_)))))
  show wpAny _ _ (pure (((n : Int) - 1), (-1 : Int), Builtin.Slice.slicePlaces ((n : Int) - 1) (-1) (-1))) _ _ s
  have e : Builtin.Slice.slicePlaces ((n : Int) - 1) (-1) (-1) = n := by
    unfold Builtin.Slice.slicePlaces
    rw [if_neg (by decide), show -(-1 : Int) = 1 from rfl, Int.ediv_one]
    split <;> omega
  rw [e]
  exact wpAny_pure h
theorem fm_get : ∀ (l : List Value) (f : Nat → Option Value) (n : Nat), (∀ m, m < l.length → f (n + m) = l[m]?) → (List.range' n l.length).filterMap f = l
  | [], _, _, _ => rfl
  | v :: l, f, n, h => by
    rw [List.length_cons, List.range'_succ, List.filterMap_cons, show f n = some v from h 0 (Nat.zero_lt_succ _)]
    show v :: _ = v :: l
    rw [fm_get l f (n + 1) fun m hm => by rw [show n + 1 + m = n + (m + 1) by omega]; exact h (m + 1) (Nat.succ_lt_succ hm)]
theorem pick_back (xs : List Value) : ((List.range xs.length).filterMap fun (m : Nat) => xs.toArray[(((xs.length : Int) - 1) + (m : Int) * -1).toNat]?) = xs.reverse := by
  have h := fm_get xs.reverse (fun (m : Nat) => xs.toArray[(((xs.length : Int) - 1) + (m : Int) * -1).toNat]?) 0 fun m hm => by
    rw [List.length_reverse] at hm
    have e : (((xs.length : Int) - 1) + ((0 + m : Nat) : Int) * -1).toNat = xs.length - 1 - m := by omega
    show xs.toArray[(((xs.length : Int) - 1) + ((0 + m : Nat) : Int) * -1).toNat]? = _
    rw [e, List.getElem?_toArray, List.getElem?_reverse hm]
  rw [List.length_reverse, ← List.range_eq_range'] at h
  exact h
theorem getItem_back {t sl : Addr} {xs : List Value} {k : Tok} {Q : Value → Shared → Prop} (ht : IsTup s.heap t xs.toArray) (hs : s.heap.IsSliceOf sl .none .none (.int (-1) k)) (hz : xs.length ≤ sizeLine)
    (h : Q (.ref s.heap.objs.size) { s with heap := s.heap.push { cls := .type "tuple", data := .seq xs.reverse.toArray } }) : wpAny (model prog w) A (getItem (.ref t) (.ref sl)) Q E s := by
  obtain ⟨so, e1, e2, e3⟩ := id hs
  have ts : s.TypeIs (.ref sl) "slice" := ⟨so, e1, e2⟩
  unfold getItem
  (try with_reducible refine wpAny_holding ?_); (first | refine wpAny_bind (wpAny_pure ?_) | skip)
  refine wpAny_bind (wpAny_sequenceKey ht.typeIs (by decide) (wpAny_bind (wpAny_callSpecial?_slot (name := Str.ofString "__getitem__") ht.typeIs slot_tuple_getitem (wpAny_call_entry slot_tuple_getitem ht.typeIs entry_tuple_getitem ?_ (args_tuple_getitem _ _)))))
  show wpAny _ _ (Builtin.Tuple.tupleItemsOf (.ref t) >>= _) _ _ s
  refine wpAny_bind (tupleItemsOf_ ht (wpAny_bind (wpAny_typeOf ts ?_)))
  rw [if_pos (by decide)]
  refine wpAny_bind (slice_back hs ?_)
  have no : ¬ ((((xs.toArray.size : Int) - 1) == 0 && (-1 : Int) == 1 && xs.toArray.size == xs.toArray.size) = true) := by
    intro q
    rw [Bool.and_eq_true, Bool.and_eq_true] at q
    exact absurd q.1.2 (by decide)
  show wpAny _ _ (if ((((xs.toArray.size : Int) - 1) == 0 && (-1 : Int) == 1 && xs.toArray.size == xs.toArray.size) = true) then _ else _) _ _ s
  rw [if_neg no]
  have ep : ((List.range xs.toArray.size).filterMap fun (m : Nat) => xs.toArray[(((xs.toArray.size : Int) - 1) + (m : Int) * -1).toNat]?) = xs.reverse := by
    rw [List.size_toArray]
    exact pick_back xs
  rw [ep]
  have so2 : sizeOk (.seq xs.reverse.toArray) := by
    show xs.reverse.toArray.size ≤ sizeLine
    rw [List.size_toArray, List.length_reverse]
    exact hz
  first
    | exact wpAny_bind (m := Builtin.Tuple.tupleExact _) (wpAny_newObj_type (wpAny_pure ⟨_, rfl, wpAny_pure h⟩) so2)
    | exact wpAny_bind (m := Builtin.Tuple.tupleExact _) (wpAny_newObj_type (wpAny_bind (wpAny_pure (wpAny_pure ⟨_, rfl, wpAny_pure h⟩))) so2)
    | exact wpAny_bind (wpAny_bind (m := Builtin.Tuple.tupleExact _) (wpAny_newObj_type (wpAny_pure (wpAny_pure ⟨_, rfl, wpAny_pure h⟩)) so2))
    | exact wpAny_bind (wpAny_bind (m := Builtin.Tuple.tupleExact _) (wpAny_newObj_type (wpAny_pure ⟨_, rfl, wpAny_pure h⟩) so2))
end

/-! ### x[::-1] -/
section
variable {X : Cx} {O : List Nat} {e : Expr} {es : List Expr} {pos : Pos}
theorem PE.or {t t' : TE} (h : PE X e t) (h' : PE X e t') : PE X e (fun σ H Q => t σ H Q ∨ t' σ H Q) := ⟨fun pins s σ H Q I q => q.elim (h.run pins s σ H Q I) (h'.run pins s σ H Q I)⟩
def tBackT (K : PySem.W.Frag) (te : TE) : TE := fun σ H Q => te σ H fun x H1 => ∃ a xs, x = .ref a ∧ SqT K H1 a xs ∧ ∀ p, H1 p = none → Q (.ref p) (upd H1 p (.tup xs.reverse))
theorem pe_backT {te : TE} {k : Nat} {p1 p2 p3 : Pos} (he : PE X e te) : PE X (.Subscript e (.Slice none none (some (.UnaryOp .USub (.Constant (.int 1) k p1) p2)) p3) pos) (tBackT X.K te) := by
  refine ⟨fun pins s σ H Q I h => ?_⟩
  refine Subscript_ (thn (he.run pins s σ H _ I h) fun v s1 ⟨x, H1, I1, r1, a, xs, ex, hx, q⟩ => ?_)
  subst ex
  cases r1
  have step : PE X (.UnaryOp .USub (.Constant (.int 1) k p1) p2) (tUn (rU fun i => .int (-i)) (tC (.int 1))) := pe_un un_neg pe_int
  refine wpAny_Slice (thn (po_none.run pins s1 σ H1 (fun o H2 => o = none ∧ H2 = H1) I1 ⟨rfl, rfl⟩) fun vl s2 ⟨l, H2, I2, pl, el, e2⟩ => thn (po_none.run pins s2 σ H2 (fun o H3 => o = none ∧ H3 = H2) I2 ⟨rfl, rfl⟩) fun vu s3 ⟨u, H3, I3, pu, eu, e3⟩ => ?_)
  subst el eu e2 e3
  refine thn ((po_some step).run pins s3 σ _ (fun o H4 => o = some (-1) ∧ H4 = H3) I3 ⟨1, rfl, -1, rfl, rfl, rfl⟩) fun vs s4 ⟨o, H4, I4, ps, eo, e4⟩ => ?_
  subst eo e4
  cases pl
  cases pu
  cases ps with
  | int i tk =>
  have I5 : Inv X pins σ _ { s4 with heap := s4.heap.push { cls := .type "slice", data := .fields #[.none, .none, .int (-1) tk] } } := I4.kept (t' := s4.toks) fun b ob q => Heap.get?_push_of_some _ q
  obtain ⟨its, r, ht, hz⟩ := I5.tuple hx
  have hlen := r.length
  refine tail_any (ops := [.ref a, .ref s4.heap.objs.size]) ht.typeIs slot_tuple_getitem.lookup ?_ (by with_unfolding_all rfl)
  refine getItem_back ht (Heap.IsSliceOf.new _ _ _ _) (by omega) ?_
  exact ⟨.ref _, _, I5.laid (t' := s4.toks) (o := .tup xs.reverse) (fun b ob q => Heap.get?_push_of_some _ q) (Nat.le_refl _) ⟨by rw [List.length_reverse]; exact hz, its.reverse, r.reverse, IsTup.new _ _⟩, rfl, q _ (I5.hok.fresh (Nat.le_refl _))⟩
theorem Dens.reverse {K : PySem.W.Frag} {B : Addr → Prop} {H : Hp} : ∀ {ds : List D} {vs : List V}, Dens K B H ds vs → Dens K B H ds.reverse vs.reverse
  | [], vs, h => by
    cases (show vs = [] from h)
    rfl
  | d :: ds, vs, h => by
    obtain ⟨v, us, rfl, h1, h2⟩ := h
    rw [List.reverse_cons, List.reverse_cons]
    exact h2.reverse.append ⟨v, [], rfl, h1, rfl⟩
theorem g_rev {fa : EF} {k : Nat} {p1 p2 p3 : Pos} (ha : GE X O e fa) : GE X O (.Subscript e (.Slice none none (some (.UnaryOp .USub (.Constant (.int 1) k p1) p2)) p3) pos) (e_un o_rev fa) := by
  refine PE.w (PE.or (pe_backT ha) (pe_revL ha)) fun σ H Q ⟨c, env, r0, env', hr, he, q⟩ => ?_
  obtain ⟨⟨r1, env1⟩, e1, h⟩ := Option.bind_eq_some_iff.mp he
  obtain ⟨x, e3, h⟩ := Option.bind_eq_some_iff.mp h
  obtain ⟨z, e5, h⟩ := Option.bind_eq_some_iff.mp h
  cases h
  unfold o_rev at e5
  split at e5 <;> first | (cases e5; done) | skip
  · rename_i a
    cases e5
    refine .inl ⟨c, env, r1, _, hr, e1, fun N1 v H1 q1 f1 d1 => ?_⟩
    obtain ⟨p, xs, rfl, hp, hx⟩ := d1.at q1 e3
    refine ⟨p, xs, rfl, hp, fun p2 hn => ?_⟩
    obtain ⟨N, q3, f3, d3⟩ := RDen.fin hr q1 (same_new hn) (sz_tup q1.sz (by rw [List.length_reverse]; exact sqt_len q1.sz hp)) (new_tup hn hx.reverse)
    exact q N _ _ q3 f3 d3
  · rename_i a
    cases e5
    refine .inr ⟨c, env, r1, _, hr, e1, fun N1 v H1 q1 f1 d1 => ?_⟩
    obtain ⟨p, rfl, xs, hp, hx⟩ := d1.at q1 e3
    refine ⟨p, xs, rfl, SqL.of hp, fun p2 hn => ?_⟩
    obtain ⟨N, q3, f3, d3⟩ := RDen.fin hr q1 (same_new hn) (sz_lst q1.sz (by rw [List.length_reverse]; exact (q1.sz p xs).1 (.inl hp))) (new_lst hn hx.reverse)
    exact q N _ _ q3 f3 d3

/-! ### stars in displays -/
abbrev GB (X : Cx) (O : List Nat) (es : List Expr) (f : AF) : Prop := PA X es (tA X.K O f)
theorem gb_nil : GB X O [] a_nil := g_nil.pa
theorem gb_cons {fa : EF} {fr : AF} (ha : GE X O e fa) (hr' : GB X O es fr) (hs : starEach (e :: es) X.env = (false, eval e X.env) :: starEach es X.env := by rfl) : GB X O (e :: es) (a_cons fa fr) := by
  refine PA.w (pa_cons ha hr' hs) fun σ H Q ⟨c, env, rs, env', hr, he, q⟩ => ?_
  obtain ⟨⟨r1, env1⟩, e2, e3⟩ := Option.bind_eq_some_iff.mp he
  obtain ⟨⟨rr, env2⟩, e4, e5⟩ := Option.bind_eq_some_iff.mp e3
  cases e5
  exact ⟨c, env, r1, env1, hr, e2, fun N1 v H1 q1 f1 d1 => ⟨c.nu N1 O σ H, env1, rr, _, q1, e4, fun N2 vs H2 q2 f2 d2 => q _ (v :: vs) H2 (hr.two q1 q2) (fresh_two hr q1 f1 f2) ⟨v, vs, rfl, d1.keep q1 q2 f2, d2.more⟩⟩⟩
theorem DenRs.vals {K : PySem.W.Frag} {Z N : Addr → Prop} {σ : L2.St} {H : Hp} {rs : List R} {us : List V} (h2 : DenRs K O Z N σ H rs us) : ∀ {ds : List D} {vs : List V}, Dens K (Bd O (Zu Z N) σ) H ds vs → DenRs K O Z N σ H (ds.map R.val ++ rs) (vs ++ us)
  | [], vs, h => by
    cases (show vs = [] from h)
    exact h2
  | d :: ds, vs, h => by
    obtain ⟨v, ws, rfl, h3, h4⟩ := h
    exact ⟨v, ws ++ us, rfl, h3, DenRs.vals h2 h4⟩
theorem gb_star {fa : EF} {fr : AF} {p : Pos} (ha : GE X O e fa) (hr' : GB X O es fr) (hs : starEach (.Starred e p :: es) X.env = (true, eval e X.env) :: starEach es X.env := by rfl) : GB X O (.Starred e p :: es) (a_star fa fr) := by
  refine PA.w (StX.pa_star ha hr' hs) fun σ H Q ⟨c, env, rs, env', hr, he, q⟩ => ?_
  obtain ⟨⟨r1, env1⟩, e2, e3⟩ := Option.bind_eq_some_iff.mp he
  obtain ⟨d, e6, e3⟩ := Option.bind_eq_some_iff.mp e3
  obtain ⟨ds, e7, e3⟩ := Option.bind_eq_some_iff.mp e3
  obtain ⟨⟨rr, env2⟩, e4, e5⟩ := Option.bind_eq_some_iff.mp e3
  cases e5
  refine ⟨c, env, r1, env1, hr, e2, fun N1 v H1 q1 f1 d1 => ?_⟩
  have dA := d1.at q1 e6
  have fin : ∀ {xs : List V}, Dens X.K (Bd O (Zu c.Z N1) σ) H1 ds xs → tA X.K O fr σ H1 fun ys H2 => Q (xs ++ ys) H2 := fun {xs} hx => by
    refine ⟨c.nu N1 O σ H, env1, rr, _, q1, e4, fun N2 vs H2 q2 f2 d2 => ?_⟩
    have hb : ∀ a, (∃ o, H1 a = some o) → Bd O (Zu c.Z fun b => N1 b ∨ N2 b) σ a → Bd O (Zu c.Z N1) σ a := fun a ⟨o, e⟩ z => by
      rcases z with (z | z | z) | z
      · exact .inl (.inl z)
      · exact .inl (.inr z)
      · rw [f2 a z] at e; cases e
      · exact .inr z
    exact q _ _ H2 (hr.two q1 q2) (fresh_two hr q1 f1 f2) (DenRs.vals d2.more (Dens.keep q2.frame q1.mut Rel.hB (Dens.sub hb hx)))
  split at e7 <;> first | (cases e7; done) | skip
  · cases e7
    obtain ⟨p, xs, rfl, hp, hx⟩ := dA
    exact ⟨p, xs, rfl, .inl hp, fin hx⟩
  · cases e7
    obtain ⟨p, rfl, xs, hp, hx⟩ := dA
    exact ⟨p, xs, rfl, .inr (SqL.of hp), fin hx⟩
theorem g_tupS {x1 : Nat} {fs : AF} (h : GB X O es fs) : GE X O (.Tuple es x1 pos) (e_tupS fs) := by
  refine PE.w (pe_tup h) fun σ H Q ⟨c, env, r, env', hr, he, q⟩ => ?_
  obtain ⟨⟨rs, env1⟩, e2, e3⟩ := Option.bind_eq_some_iff.mp he
  obtain ⟨ds, e4, e5⟩ := Option.bind_eq_some_iff.mp e3
  split at e5
  · rename_i hl
    cases e5
    refine ⟨c, env, rs, _, hr, e2, fun N vs H1 q1 f1 d1 => ?_⟩
    have hd := d1.st hr f1 e4
    have hlen : vs.length ≤ sizeLine := by rw [← hd.length, ← sz_eq]; exact hl
    refine ⟨hlen, fun p hp => ?_⟩
    obtain ⟨N', q3, f3, d3⟩ := RDen.fin (N1 := N0) hr q1.drop.n0 (same_new hp) (sz_tup q1.sz hlen) (new_tup hp (Dens.ofN (fun _ z => z.elim) hd))
    exact q N' _ _ q3 f3 d3
  · cases e5
theorem g_lstS {fs : AF} (h : GB X O es fs) : GE X O (.List es pos) (e_lstS fs) := by
  refine PE.w (pe_lst h) fun σ H Q ⟨c, env, r, env', hr, he, q⟩ => ?_
  obtain ⟨⟨rs, env1⟩, e2, e3⟩ := Option.bind_eq_some_iff.mp he
  obtain ⟨ds, e4, e5⟩ := Option.bind_eq_some_iff.mp e3
  split at e5
  · rename_i hl
    cases e5
    refine ⟨c, env, rs, _, hr, e2, fun N vs H1 q1 f1 d1 => ?_⟩
    have hd := d1.st hr f1 e4
    have hlen : vs.length ≤ sizeLine := by rw [← hd.length, ← sz_eq]; exact hl
    refine ⟨hlen, fun p hp => ?_⟩
    obtain ⟨N', q3, f3, d3⟩ := RDen.fin (N1 := N0) hr q1.drop.n0 (same_new hp) (sz_lst q1.sz hlen) (new_lst hp (Dens.ofN (fun _ z => z.elim) hd))
    exact q N' _ _ q3 f3 d3
  · cases e5
end
end Mini

/-! ## MRev2 -/
/-! Mini: lists made of ranges, sorted, names side by side. -/
namespace Mini
open PySem PySem.Spec PyProof.Rows L2
variable [Tb]

section
variable {X : Cx} {O : List Nat} {e a b : Expr} {es : List Expr} {pos : Pos}
theorem dens_ints {K : PySem.W.Frag} {B : Addr → Prop} {H : Hp} : ∀ ns : List Int, Dens K B H (ns.map D.int) (ns.map V.int)
  | [] => rfl
  | n :: ns => ⟨.int n, ns.map V.int, rfl, rfl, dens_ints ns⟩
theorem rng_dens {K : PySem.W.Frag} {B : Addr → Prop} {H : Hp} (lo hi : Int) : Dens K B H (rngL lo (hi - lo).toNat) (rgV lo hi) := by
  have e : rngL lo (hi - lo).toNat = ((List.range (hi - lo).toNat).map fun i => lo + (i : Nat)).map D.int := by
    unfold rngL
    rw [List.map_map]
    rfl
  have e2 : rgV lo hi = ((List.range (hi - lo).toNat).map fun i => lo + (i : Nat)).map V.int := by
    unfold rgV
    rw [List.map_map]
    rfl
  rw [e, e2]
  exact dens_ints _
/-! ### sorted, ints -/
theorem sortI_uniq {ns ns' : List Int} (h : ns'.Perm ns) (s : ns'.Pairwise (· ≤ ·)) : ns' = sortI ns := by
  have h2 : (sortI ns).Pairwise (· ≤ ·) := by
    have := List.pairwise_mergeSort (le := fun p q : Int => decide (p ≤ q)) (fun a b c h1 h2 => by
      have := of_decide_eq_true h1
      have := of_decide_eq_true h2
      exact decide_eq_true (by omega)) (fun a b => by
      by_cases h : a ≤ b
      · rw [decide_eq_true h]; rfl
      · rw [decide_eq_true (show b ≤ a by omega), Bool.or_true]) ns
    exact this.imp fun h => of_decide_eq_true h
  have h3 : (sortI ns).Perm ns := List.mergeSort_perm _ _
  exact List.Perm.eq_of_pairwise (fun a b _ _ h1 h2 => Int.le_antisymm h1 h2) s h2 (h.trans h3.symm)
theorem b_sorted : CallS X (.builtin "sorted") o_sorted := by
  refine ⟨_, cr_sortedI, fun B H ds z vs Q e a hz hB q => ?_⟩
  unfold o_sorted at e
  split at e <;> first | (cases e; done) | skip
  obtain ⟨l, e1, e⟩ := Option.bind_eq_some_iff.mp e
  obtain ⟨ns, e2, e⟩ := Option.bind_eq_some_iff.mp e
  cases e
  cases lst?_e e1
  obtain ⟨v, rfl, p, rfl, xs, hp, hx⟩ := adens1 a
  have := ints?_e e2 hx
  subst this
  refine ⟨p, ns, rfl, SqL.of hp, fun ns' p2 hpm hpw hn => ?_⟩
  have e3 := sortI_uniq hpm hpw
  subst e3
  refine q _ _ (same_new hn) (sz_lst hz ?_) (new_lst hn (dens_ints _))
  rw [List.length_map, hpm.length_eq]
  have := (hz p _).1 (.inl hp)
  rw [List.length_map] at this
  exact this
/-! ### lists and tuples of ranges -/
theorem g_lstR1 {fa : EF} (ha : GE X O a fa) (w : ∀ {te : TE}, PE X a te → PE X e (tLstRg (tRg1 te))) : GE X O e (e_lstR (it_r1 fa)) := by
  refine PE.w (w ha) fun σ H Q ⟨c, env, r0, env', hr, he, q⟩ => ?_
  obtain ⟨⟨l, env1⟩, e1, h⟩ := Option.bind_eq_some_iff.mp he
  cases h
  obtain ⟨⟨r1, env2⟩, e2, h⟩ := Option.bind_eq_some_iff.mp e1
  obtain ⟨d, e3, h⟩ := Option.bind_eq_some_iff.mp h
  obtain ⟨j, e4, h⟩ := Option.bind_eq_some_iff.mp h
  split at h
  · rename_i hj
    cases h
    cases int?_e e4
    refine ⟨c, env, r1, _, hr, e2, fun N1 v H1 q1 f1 d1 => ?_⟩
    have hv : v = .int j := d1.at q1 e3
    have hb := rngOk_e hj.1
    have hb24 := le24_e hj.2
    have hok : RgOk 0 j := ⟨by omega, by omega, hb.1, hb.2, by omega⟩
    refine ⟨j, hv, hok, fun p hn => ?_⟩
    have e5 : rngL 0 j.toNat = rngL 0 (j - 0).toNat := by rw [Int.sub_zero]
    obtain ⟨N, q3, f3, d3⟩ := RDen.fin hr q1 (same_new hn) (sz_lst q1.sz (by rw [rgV_length, sizeLine_eq]; have := hok.2.2.2.2; omega)) (new_lst hn (rng_dens 0 j))
    rw [← e5] at d3
    exact q N _ _ q3 f3 d3
  · cases h
theorem g_tupR1 {fa : EF} (ha : GE X O a fa) (w : ∀ {te : TE}, PE X a te → PE X e (tTupRg (tRg1 te))) : GE X O e (e_tupR (it_r1 fa)) := by
  refine PE.w (w ha) fun σ H Q ⟨c, env, r0, env', hr, he, q⟩ => ?_
  obtain ⟨⟨l, env1⟩, e1, h⟩ := Option.bind_eq_some_iff.mp he
  cases h
  obtain ⟨⟨r1, env2⟩, e2, h⟩ := Option.bind_eq_some_iff.mp e1
  obtain ⟨d, e3, h⟩ := Option.bind_eq_some_iff.mp h
  obtain ⟨j, e4, h⟩ := Option.bind_eq_some_iff.mp h
  split at h
  · rename_i hj
    cases h
    cases int?_e e4
    refine ⟨c, env, r1, _, hr, e2, fun N1 v H1 q1 f1 d1 => ?_⟩
    have hv : v = .int j := d1.at q1 e3
    have hb := rngOk_e hj.1
    have hb24 := le24_e hj.2
    have hok : RgOk 0 j := ⟨by omega, by omega, hb.1, hb.2, by omega⟩
    refine ⟨j, hv, hok, fun p hn => ?_⟩
    have e5 : rngL 0 j.toNat = rngL 0 (j - 0).toNat := by rw [Int.sub_zero]
    obtain ⟨N, q3, f3, d3⟩ := RDen.fin hr q1 (same_new hn) (sz_tup q1.sz (by rw [rgV_length, sizeLine_eq]; have := hok.2.2.2.2; omega)) (new_tup hn (rng_dens 0 j))
    rw [← e5] at d3
    exact q N _ _ q3 f3 d3
  · cases h
theorem g_lstR2 {fa fb : EF} (ha : GE X O a fa) (hb : GE X O b fb) (w : ∀ {te tf : TE}, PE X a te → PE X b tf → PE X e (tLstRg (tRg2 te tf))) : GE X O e (e_lstR (it_r2 fa fb)) := by
  refine PE.w (w ha hb) fun σ H Q ⟨c, env, r0, env', hr, he, q⟩ => ?_
  obtain ⟨⟨l, env1⟩, e1, h⟩ := Option.bind_eq_some_iff.mp he
  cases h
  obtain ⟨⟨r1, env2⟩, e2, h⟩ := Option.bind_eq_some_iff.mp e1
  obtain ⟨⟨r2, env3⟩, e3, h⟩ := Option.bind_eq_some_iff.mp h
  obtain ⟨x, e4, h⟩ := Option.bind_eq_some_iff.mp h
  obtain ⟨y, e5, h⟩ := Option.bind_eq_some_iff.mp h
  obtain ⟨i, e6, h⟩ := Option.bind_eq_some_iff.mp h
  obtain ⟨j, e7, h⟩ := Option.bind_eq_some_iff.mp h
  split at h
  · rename_i hj
    cases h
    cases int?_e e6
    cases int?_e e7
    refine ⟨c, env, r1, env2, hr, e2, fun N1 v H1 q1 f1 d1 => ⟨c.nu N1 O σ H, env2, r2, _, q1, e3, fun N2 u H2 q2 f2 d2 => ?_⟩⟩
    have q12 := hr.two q1 q2
    have hv : v = .int i := (d1.keep q1 q2 f2).at q12 e4
    have hw : u = .int j := d2.more.at q12 e5
    have hb1 := rngOk_e hj.1
    have hb2 := rngOk_e hj.2.1
    have hb24 := le24_e hj.2.2
    have hok : RgOk i j := ⟨hb1.1, hb1.2, hb2.1, hb2.2, by omega⟩
    refine ⟨i, j, hv, hw, hok, fun p hn => ?_⟩
    obtain ⟨N, q3, f3, d3⟩ := RDen.fin hr q12 (same_new hn) (sz_lst q12.sz (by rw [rgV_length, sizeLine_eq]; have := hok.2.2.2.2; omega)) (new_lst hn (rng_dens i j))
    exact q N _ _ q3 f3 d3
  · cases h
theorem g_tupR2 {fa fb : EF} (ha : GE X O a fa) (hb : GE X O b fb) (w : ∀ {te tf : TE}, PE X a te → PE X b tf → PE X e (tTupRg (tRg2 te tf))) : GE X O e (e_tupR (it_r2 fa fb)) := by
  refine PE.w (w ha hb) fun σ H Q ⟨c, env, r0, env', hr, he, q⟩ => ?_
  obtain ⟨⟨l, env1⟩, e1, h⟩ := Option.bind_eq_some_iff.mp he
  cases h
  obtain ⟨⟨r1, env2⟩, e2, h⟩ := Option.bind_eq_some_iff.mp e1
  obtain ⟨⟨r2, env3⟩, e3, h⟩ := Option.bind_eq_some_iff.mp h
  obtain ⟨x, e4, h⟩ := Option.bind_eq_some_iff.mp h
  obtain ⟨y, e5, h⟩ := Option.bind_eq_some_iff.mp h
  obtain ⟨i, e6, h⟩ := Option.bind_eq_some_iff.mp h
  obtain ⟨j, e7, h⟩ := Option.bind_eq_some_iff.mp h
  split at h
  · rename_i hj
    cases h
    cases int?_e e6
    cases int?_e e7
    refine ⟨c, env, r1, env2, hr, e2, fun N1 v H1 q1 f1 d1 => ⟨c.nu N1 O σ H, env2, r2, _, q1, e3, fun N2 u H2 q2 f2 d2 => ?_⟩⟩
    have q12 := hr.two q1 q2
    have hv : v = .int i := (d1.keep q1 q2 f2).at q12 e4
    have hw : u = .int j := d2.more.at q12 e5
    have hb1 := rngOk_e hj.1
    have hb2 := rngOk_e hj.2.1
    have hb24 := le24_e hj.2.2
    have hok : RgOk i j := ⟨hb1.1, hb1.2, hb2.1, hb2.2, by omega⟩
    refine ⟨i, j, hv, hw, hok, fun p hn => ?_⟩
    obtain ⟨N, q3, f3, d3⟩ := RDen.fin hr q12 (same_new hn) (sz_tup q12.sz (by rw [rgV_length, sizeLine_eq]; have := hok.2.2.2.2; omega)) (new_tup hn (rng_dens i j))
    exact q N _ _ q3 f3 d3
  · cases h
/-! ### sorted(range(..), key=..) -/
theorem g_sortRL {fa : EF} {i : Nat} (ha : GE X O a fa) (hi : i ∉ O) (w : ∀ {te : TE}, PE X a te → PE X e (tSortRL X (tRg1 te) i)) : GE X O e (e_sortRL fa i) := by
  refine PE.w (w ha) fun σ H Q ⟨c, env, r0, env', hr, he, q⟩ => ?_
  obtain ⟨⟨r1, env1⟩, e1, h⟩ := Option.bind_eq_some_iff.mp he
  obtain ⟨d, e3, h⟩ := Option.bind_eq_some_iff.mp h
  obtain ⟨j, e4, h⟩ := Option.bind_eq_some_iff.mp h
  obtain ⟨y, e5, h⟩ := Option.bind_eq_some_iff.mp h
  obtain ⟨ds, e6, h⟩ := Option.bind_eq_some_iff.mp h
  obtain ⟨ns, e7, h⟩ := Option.bind_eq_some_iff.mp h
  split at h
  · rename_i hj
    cases h
    cases int?_e e4
    refine ⟨c, env, r1, _, hr, e1, fun N1 v H1 q1 f1 d1 => ?_⟩
    have hv : v = .int j := d1.at q1 e3
    obtain ⟨u, s1, s2⟩ := q1.slot i y e5
    rcases s2 with ⟨z, _⟩ | ⟨_, dn⟩
    · exact absurd z hi
    obtain ⟨p, rfl, hs⟩ : ∃ p, u = .ref p ∧ (SqL X.K H1 p (ns.map V.int) ∨ SqT X.K H1 p (ns.map V.int)) := by
      cases y with
      | tup l =>
        cases e6
        obtain ⟨p, xs, h1, h2, h3⟩ := dn
        have := ints?_e e7 h3
        subst this
        exact ⟨p, h1, .inr h2⟩
      | lst l =>
        cases e6
        obtain ⟨p, xs, h1, _, h2, h3⟩ := dn
        have := ints?_e e7 h3
        subst this
        exact ⟨p, h1, .inl (SqL.of h2)⟩
      | _ => cases e6
    have hz := hj.2.2
    rw [sz_val] at hz
    refine ⟨j, hv, rfl, ⟨by omega, by omega, by omega, by omega, by omega⟩, q1.tab, p, ns, s1, hs, hj.2.1, by rw [sizeLine_eq]; omega, fun H2 a sm sz hn => ?_⟩
    have hn1 : H1 a = none := by
      cases e8 : H1 a with
      | none => rfl
      | some o =>
        obtain ⟨o', e9⟩ := sm.there a o e8
        rw [hn] at e9
        cases e9
    have hl : ((sortIx ns j.toNat).map V.int).length ≤ sizeLine := by
      unfold sortIx
      rw [List.length_map, List.length_mergeSort, List.length_map, List.length_range, sizeLine_eq]
      omega
    obtain ⟨N, q3, f3, d3⟩ := RDen.fin (H2 := upd H2 a (.lst ((sortIx ns j.toNat).map V.int))) (z := .new (.lst ((sortIx ns j.toNat).map D.int))) (u := .ref a) hr q1 (sm.trans (same_new hn)) (sz_lst (sz q1.sz) hl) ⟨a, rfl, hn1, _, upd_same, dens_ints _⟩
    exact q N _ _ q3 f3 d3
  · cases h
/-! ### names side by side -/
/-- a result that waits to be stored -/
def PD (K : PySem.W.Frag) (B N : Addr → Prop) (H : Hp) : R → V → Prop
  | .val d, v => Den K B H d v
  | .own _, _ => True
  | .new d, v => ∃ a, v = .ref a ∧ N a ∧ MDen K B H a d
theorem DenR.pd {K : PySem.W.Frag} {Z N : Addr → Prop} {σ : L2.St} {H : Hp} {r : R} {v : V} (h : DenR K O Z N σ H r v) : PD K (Bd O (Zu Z N) σ) N H r v := by
  cases r with
  | val d => exact h
  | own i => trivial
  | new d => exact h
theorem par_one {K : PySem.W.Frag} {Z N N0 B : Addr → Prop} {H0 : Hp} {Pm : Addr → Prop} {S0 : Option (Option V)} {env : En} {σ : L2.St} {H : Hp} {i : Nat} {o : Bool} {r : R} {v : V} {d : D} (h : Rel K O ⟨Zu Z N, H0, Pm, S0⟩ env σ H)
    (ho : if o = true then i ∈ O ∧ i ≠ 0 else i ∉ O) (hp : pick o r = some d) (hd : PD K B N0 H r v) (hn : ∀ a, r = .new d → v = .ref a → N a) (hB : ∀ a, (∃ o, H a = some o) → Bd O (Zu Z N) σ a → B a) (hN : ∀ b, N0 b → H0 b = none ∧ ¬ Z b) :
    ∃ N', (∀ b, N b → (∀ d', r = .new d' → v ≠ .ref b) → N' b) ∧ Rel K O ⟨Zu Z N', H0, Pm, S0⟩ (env.p i d) (σ.set i (some v)) H ∧ ∀ a, (∃ o, H a = some o) → Bd O (Zu Z N') (σ.set i (some v)) a → B a ∧ Bd O (Zu Z N) σ a := by
  cases o with
  | true =>
    rw [if_pos rfl] at ho
    cases r with
    | val d' => cases hp
    | own j => cases hp
    | new d' =>
      have e : d' = d := Option.some.inj hp
      subst e
      obtain ⟨a, rfl, ha, hm⟩ := hd
      have hna := hn a rfl rfl
      have r2 := h.setO ho.1 ho.2 hna (hN a ha).1 (hN a ha).2 (hm.sub hB)
      refine ⟨_, fun b hb e => ⟨hb, fun z => e _ rfl (by rw [z])⟩, r2, fun b hb z => ?_⟩
      have main : Bd O (Zu Z N) σ b := by
        rcases z with (z | z) | ⟨j, hj, e⟩
        · exact .inl (.inl z)
        · exact .inl (.inr z.1)
        · by_cases hji : j = i
          · subst hji
            by_cases hl : j < σ.length
            · rw [List.getElem?_set_self hl] at e
              cases e
              exact .inl (.inr hna)
            · rw [List.getElem?_eq_none (by simpa using hl)] at e
              cases e
          · rw [List.getElem?_set_ne (Ne.symm hji)] at e
            exact .inr ⟨j, hj, e⟩
      exact ⟨hB b hb main, main⟩
  | false =>
    rw [if_neg (by decide)] at ho
    have back : ∀ {N' : Addr → Prop}, (∀ b, N' b → N b) → ∀ a, Bd O (Zu Z N') (σ.set i (some v)) a → Bd O (Zu Z N) σ a := fun hs a z => by
      rcases z with (z | z) | z
      · exact .inl (.inl z)
      · exact .inl (.inr (hs a z))
      · exact .inr ((Ow.set ho).mp z)
    cases r with
    | own j => cases hp
    | val d' =>
      have e : d' = d := Option.some.inj hp
      subst e
      exact ⟨N, fun b hb _ => hb, h.set ho (Den.sub hB hd), fun a ha z => ⟨hB a ha (back (fun _ z => z) a z), back (fun _ z => z) a z⟩⟩
    | new d' =>
      have e : d' = d := Option.some.inj hp
      subst e
      obtain ⟨a, rfl, ha, hm⟩ := hd
      have r1 : Rel K O ⟨Zu Z fun b => N b ∧ b ≠ a, H0, Pm, S0⟩ env σ H := h.less fun b z => z.elim .inl fun z => .inr z.1
      have nb : ¬ Bd O (Zu Z fun b => N b ∧ b ≠ a) σ a := fun z => by
        rcases z with (z | z) | z
        · exact (hN a ha).2 z
        · exact z.2 rfl
        · exact (h.own a z).2.2 (.inr (hn a rfl rfl))
      have sub : ∀ b, (∃ o, H b = some o) → Bd O (Zu Z fun b => N b ∧ b ≠ a) σ b → B b := fun b hb z => hB b hb (by
        rcases z with (z | z) | z
        · exact .inl (.inl z)
        · exact .inl (.inr z.1)
        · exact .inr z)
      refine ⟨_, fun b hb e => ⟨hb, fun z => e _ rfl (by rw [z])⟩, r1.set ho ((hm.sub sub).den nb), fun b hb z => ⟨hB b hb (back (fun _ z => z.1) b z), back (fun _ z => z.1) b z⟩⟩
theorem gs_par2 {st : Stmt} {i j : Nat} {oi oj : Bool} {fa fb : EF} (ha : GE X O a fa) (hb : GE X O b fb) (h1 : if oi = true then i ∈ O ∧ i ≠ 0 else i ∉ O) (h2 : if oj = true then j ∈ O ∧ j ≠ 0 else j ∉ O)
    (w : ∀ {ta tb : TE}, PE X a ta → PE X b tb → PS X st (tPar i j (tCons ta (tCons tb tNil)))) : GS X O st (s_par2 i j oi oj fa fb) := by
  refine PS.w (w ha hb) fun D σ H ⟨c, env, o, hr, he, q⟩ => ?_
  obtain ⟨⟨r1, env1⟩, e1, h⟩ := Option.bind_eq_some_iff.mp he
  obtain ⟨⟨r2, env2⟩, e2, h⟩ := Option.bind_eq_some_iff.mp h
  obtain ⟨x, e3, h⟩ := Option.bind_eq_some_iff.mp h
  obtain ⟨y, e4, h⟩ := Option.bind_eq_some_iff.mp h
  cases h
  refine ⟨c, env, r1, env1, hr, e1, fun N1 v H1 q1 f1 d1 => ⟨c.nu N1 O σ H, env1, r2, env2, q1, e2, fun N2 u H2 q2 f2 d2 => ⟨v, u, rfl, ?_⟩⟩⟩
  have q12 := hr.two q1 q2
  have f12 := fresh_two hr q1 f1 f2
  have hN : ∀ b, (N1 b ∨ N2 b) → H b = none ∧ ¬ c.Z b := fun b z => ⟨f12 b z, fun zz => by
    obtain ⟨o, e⟩ := hr.zs b zz
    rw [f12 b z] at e; cases e⟩
  have p1 : PD X.K (Bd O (Zu c.Z fun b => N1 b ∨ N2 b) σ) (fun b => N1 b ∨ N2 b) H2 r1 v := (d1.keep q1 q2 f2).pd
  have p2 : PD X.K (Bd O (Zu c.Z fun b => N1 b ∨ N2 b) σ) (fun b => N1 b ∨ N2 b) H2 r2 u := d2.more.pd
  have new1 : ∀ {a : Addr} {x : Mini.D}, r1 = .new x → v = .ref a → N1 a ∧ ∃ o, H1 a = some o := fun {a x} z1 z2 => by
    rw [z1] at d1
    obtain ⟨a', e3, hn, hm⟩ := d1
    rw [z2] at e3
    cases e3
    obtain ⟨o, e, _⟩ := hm.at
    exact ⟨hn, o, e⟩
  have new2 : ∀ {a : Addr} {y : Mini.D}, r2 = .new y → u = .ref a → N2 a := fun {a y} z1 z2 => by
    rw [z1] at d2
    obtain ⟨a', e3, hn, hm⟩ := d2
    rw [z2] at e3
    cases e3
    exact hn
  have no12 : ∀ {a : Addr}, N2 a → (∃ o, H1 a = some o) → False := fun {a} z ⟨o, e⟩ => by
    rw [f2 a z] at e
    cases e
  obtain ⟨N', n1, r3, b3⟩ := par_one q12 h1 e3 p1 (fun a z1 z2 => .inl (new1 z1 z2).1) (fun a _ z => z) hN
  obtain ⟨N'', _, r4, _⟩ := par_one (N := N') r3 h2 e4 p2 (fun a z1 z2 => n1 a (.inr (new2 z1 z2)) fun d' z3 z4 => no12 (new2 z1 z2) (new1 z3 z4).2) (fun a ha z => (b3 a ha z).1) hN
  exact q _ _ (hr.trans (r4.less fun b z => .inl z))
theorem gs_par3 {c0 : Expr} {st : Stmt} {i j k : Nat} {oi oj ok : Bool} {fa fb fc : EF} (ha : GE X O a fa) (hb : GE X O b fb) (hc : GE X O c0 fc) (h1 : if oi = true then i ∈ O ∧ i ≠ 0 else i ∉ O) (h2 : if oj = true then j ∈ O ∧ j ≠ 0 else j ∉ O) (h3 : if ok = true then k ∈ O ∧ k ≠ 0 else k ∉ O)
    (w : ∀ {ta tb tc : TE}, PE X a ta → PE X b tb → PE X c0 tc → PS X st (tPar3 i j k (tCons ta (tCons tb (tCons tc tNil))))) : GS X O st (s_par3 i j k oi oj ok fa fb fc) := by
  refine PS.w (w ha hb hc) fun D σ H ⟨c, env, o, hr, he, q⟩ => ?_
  obtain ⟨⟨r1, env1⟩, e1, h⟩ := Option.bind_eq_some_iff.mp he
  obtain ⟨⟨r2, env2⟩, e2, h⟩ := Option.bind_eq_some_iff.mp h
  obtain ⟨⟨r3, env3⟩, e3, h⟩ := Option.bind_eq_some_iff.mp h
  obtain ⟨x, e4, h⟩ := Option.bind_eq_some_iff.mp h
  obtain ⟨y, e5, h⟩ := Option.bind_eq_some_iff.mp h
  obtain ⟨z, e6, h⟩ := Option.bind_eq_some_iff.mp h
  cases h
  refine ⟨c, env, r1, env1, hr, e1, fun N1 v H1 q1 f1 d1 => ⟨c.nu N1 O σ H, env1, r2, env2, q1, e2, fun N2 u H2 q2 f2 d2 => ?_⟩⟩
  have q12 := hr.two q1 q2
  have f12 := fresh_two hr q1 f1 f2
  refine ⟨c.nu (fun b => N1 b ∨ N2 b) O σ H, env2, r3, env3, q12, e3, fun N3 t H3 q3 f3 d3 => ⟨v, u, t, rfl, ?_⟩⟩
  have q123 := hr.two q12 q3
  have f123 := fresh_two hr q12 f12 f3
  have hN : ∀ b, ((N1 b ∨ N2 b) ∨ N3 b) → H b = none ∧ ¬ c.Z b := fun b z => ⟨f123 b z, fun zz => by
    obtain ⟨o, e⟩ := hr.zs b zz
    rw [f123 b z] at e; cases e⟩
  have d1' := d1.keep q1 q2 f2
  have d2' := d2.more
  have p1 : PD X.K (Bd O (Zu c.Z fun b => (N1 b ∨ N2 b) ∨ N3 b) σ) (fun b => (N1 b ∨ N2 b) ∨ N3 b) H3 r1 v := (d1'.keep q12 q3 f3).pd
  have p2 : PD X.K (Bd O (Zu c.Z fun b => (N1 b ∨ N2 b) ∨ N3 b) σ) (fun b => (N1 b ∨ N2 b) ∨ N3 b) H3 r2 u := (d2'.keep q12 q3 f3).pd
  have p3 : PD X.K (Bd O (Zu c.Z fun b => (N1 b ∨ N2 b) ∨ N3 b) σ) (fun b => (N1 b ∨ N2 b) ∨ N3 b) H3 r3 t := d3.more.pd
  have new1 : ∀ {a : Addr} {x : Mini.D}, r1 = .new x → v = .ref a → N1 a ∧ ∃ o, H1 a = some o := fun {a x} z1 z2 => by
    rw [z1] at d1
    obtain ⟨a', e3, hn, hm⟩ := d1
    rw [z2] at e3
    cases e3
    obtain ⟨o, e, _⟩ := hm.at
    exact ⟨hn, o, e⟩
  have new2 : ∀ {a : Addr} {y : Mini.D}, r2 = .new y → u = .ref a → N2 a ∧ ∃ o, H2 a = some o := fun {a y} z1 z2 => by
    rw [z1] at d2
    obtain ⟨a', e3, hn, hm⟩ := d2
    rw [z2] at e3
    cases e3
    obtain ⟨o, e, _⟩ := hm.at
    exact ⟨hn, o, e⟩
  have new3 : ∀ {a : Addr} {y : Mini.D}, r3 = .new y → t = .ref a → N3 a := fun {a y} z1 z2 => by
    rw [z1] at d3
    obtain ⟨a', e3, hn, hm⟩ := d3
    rw [z2] at e3
    cases e3
    exact hn
  have up1 : ∀ {a : Addr} {o : HO}, H1 a = some o → ∃ o', H2 a = some o' := fun {a o} e => q2.old a o e
  have no12 : ∀ {a : Addr}, N2 a → (∃ o, H1 a = some o) → False := fun {a} z ⟨o, e⟩ => by
    rw [f2 a z] at e
    cases e
  have no23 : ∀ {a : Addr}, N3 a → (∃ o, H2 a = some o) → False := fun {a} z ⟨o, e⟩ => by
    rw [f3 a z] at e
    cases e
  obtain ⟨N', n1, s1, b1⟩ := par_one q123 h1 e4 p1 (fun a z1 z2 => .inl (.inl (new1 z1 z2).1)) (fun a _ z => z) hN
  obtain ⟨N'', n2, s2, b2⟩ := par_one (N := N') s1 h2 e5 p2 (fun a z1 z2 => n1 a (.inl (.inr (new2 z1 z2).1)) fun d' z3 z4 => no12 (new2 z1 z2).1 (new1 z3 z4).2) (fun a ha z => (b1 a ha z).1) hN
  obtain ⟨N3', _, s3, _⟩ := par_one (N := N'') s2 h3 e6 p3 (fun a z1 z2 => n2 a (n1 a (.inr (new3 z1 z2)) fun d' z3 z4 => no23 (new3 z1 z2) ((new1 z3 z4).2.elim fun o e => up1 e)) fun d' z3 z4 => no23 (new3 z1 z2) (new2 z3 z4).2) (fun a ha z => (b1 a ha (b2 a ha z).2).1) hN
  exact q _ _ (hr.trans (s3.less fun b z => .inl z))
end
end Mini

/-! ## MGen -/
/-! Mini: the rules in short, as a program prints them. -/
namespace Mini
open PySem PySem.Spec PyProof.Rows L2
variable [Tb]

/-- the built-in names are not bound by the module -/
structure Blt (mg : Str → Option Value) : Prop where
  len : mg "len" = none
  abs : mg "abs" = none
  int : mg "int" = none
  isinstance : mg "isinstance" = none
  tuple : mg "tuple" = none
  list : mg "list" = none
  bool : mg "bool" = none
  str : mg "str" = none
  all : mg "all" = none
  any : mg "any" = none
  max : mg "max" = none
  min : mg "min" = none
  sum : mg "sum" = none
  sorted : mg "sorted" = none
  range : mg "range" = none
  enumerate : mg "enumerate" = none
  zip : mg "zip" = none
/-- a def as it may be called by the name x -/
structure Cl (P : Program) (w : World) (K : PySem.W.Frag) (mg : Str → Option Value) (base : Heap) (x : Str) (ps : List Str) (k : Nat) (sp : Sp) : Prop where
  ex : ∃ f fd, mg x = some (.ref f) ∧ PySem.W.keepIn K (.ref f) = true ∧ Binds K fd ps [] ∧ FnOk P w K mg base CX0 k f fd ps sp
section
variable {X : Cx} {O : List Nat} {x : Str} {e a b : Expr} {es : List Expr} {p pos pos' apos tpos : Pos} {f fa fb : EF} {fs : AF} {k j i : Nat} {ps : List Str}
/-! ### calls -/
theorem gD {F : List D → Option R} (C : Cl X.prog X.w X.K X.mg X.base x ps j (spP X.K F)) (hr : Room k X.A) (ha : GA X O (e :: es) fs) (hj : j ≤ k := by decide) (hg : Gl X x := by rfl) (hdb : (x == ("__debug__" : Str)) = false := by decide)
    (he : starEach (e :: es) X.env = (false, eval e X.env) :: starEach es X.env := by rfl) (hpl : (backTo pos (starEach es X.env)).any (·.1) = false := by rfl) : GE X O (.Call (.Name x p) (e :: es) [] pos) (e_call F fs) := by
  obtain ⟨fa, fd, h1, h2, h3, h4⟩ := C.ex
  exact g_call (fun h => pe_call h4 (hr.mono hj) hg h1 h2 h3 .nil pass0 h hdb he hpl) ha
theorem gM {F : D → List D → Option (R × D)} {y : Str} {py : Pos} (i : Nat) (C : Cl X.prog X.w X.K X.mg X.base x ps j (spM X.K F)) (hr : Room k X.A) (hn : PE X (.Name y py) (tVar i)) (ha : GA X O es fs) (hi : i ∈ O := by decide) (hj : j ≤ k := by decide) (hg : Gl X x := by rfl) (hdb : (x == ("__debug__" : Str)) = false := by decide)
    (he : starEach (.Name y py :: es) X.env = (false, eval (.Name y py) X.env) :: starEach es X.env := by rfl) (hpl : (backTo pos (starEach es X.env)).any (·.1) = false := by rfl) : GE X O (.Call (.Name x p) (.Name y py :: es) [] pos) (e_callM F i fs) := by
  obtain ⟨fa, fd, h1, h2, h3, h4⟩ := C.ex
  exact g_callM i hn hi (fun h => pe_call h4 (hr.mono hj) hg h1 h2 h3 .nil pass0 h hdb he hpl) ha he
theorem gB {id : String} {op : List D → Option R} (hc : CallS X (.builtin id) op) (hv : bootBuiltins x = some (.builtin id)) (hm : X.mg x = none) (ha : GA X O (e :: es) fs) (hg : Gl X x := by rfl) (hn : x ≠ "__name__" := by decide) (hdb : (x == ("__debug__" : Str)) = false := by decide)
    (he : starEach (e :: es) X.env = (false, eval e X.env) :: starEach es X.env := by rfl) (hpl : (backTo pos (starEach es X.env)).any (·.1) = false := by rfl) : GE X O (.Call (.Name x p) (e :: es) [] pos) (e_call op fs) :=
  g_callF hc ha fun h1 h2 => pe_callB h1 hg hm hv h2 hn hdb he hpl
theorem gT {T : String} {op : List D → Option R} (hc : CallS X (.type T) op) (hv : bootBuiltins x = some (.type T)) (hm : X.mg x = none) (ha : GA X O (e :: es) fs) (hg : Gl X x := by rfl) (hn : x ≠ "__name__" := by decide) (hdb : (x == ("__debug__" : Str)) = false := by decide)
    (he : starEach (e :: es) X.env = (false, eval e X.env) :: starEach es X.env := by rfl) (hpl : (backTo pos (starEach es X.env)).any (·.1) = false := by rfl) : GE X O (.Call (.Name x p) (e :: es) [] pos) (e_call op fs) :=
  g_callF hc ha fun h1 h2 => pe_callTy h1 hg hm hv h2 hn hdb he hpl
/-! ### names -/
theorem gC {v : V} {u : Value} {d : D} (hm : X.mg x = some u) (r : RelV v u) (hd : ∀ B H, Den X.K B H d v := by intro B H; rfl) (hg : Gl X x := by rfl) (hdb : (x == ("__debug__" : Str)) = false := by decide) : GE X O (.Name x p) (e_c d) := g_c (pe_glob hg hm r hdb) hd
theorem gY {T : String} (hm : X.mg x = none) (hv : bootBuiltins x = some (.type T)) (hg : Gl X x := by rfl) (hn : x ≠ "__name__" := by decide) (hdb : (x == ("__debug__" : Str)) = false := by decide) : GE X O (.Name x p) (e_c (.ty T)) := g_c (pe_bltn (v := .ty T) hg hm hv rfl hn hdb) fun _ _ => rfl
/-! ### tests -/
theorem gTv (he : GE X O e f) (hi : ∀ whole, isTrue e X.env whole = (do let v ← whole; standAt e.pos; holding [v] (truthy v)) := by intro _; rfl) : GT X O e (t_v f) := g_t (fun h => pt_val h hi) he
/-! ### statements -/
theorem gA (i : Nat) (nd : X.N.Nodup) (ge : GE X O e f) (hi : X.N[i]? = some x := by rfl) (hx : Loc X.env.scope x := by first | exact .inl rfl | exact .inr rfl) (hs : swapsWith e (some (.Name x pos')) pos.line X.env = pure false := by rfl)
    (hf : X.fn x = true ∨ X.env.scope.names.lookup x = some .local := by first | exact .inl rfl | exact .inr rfl) (hO : i ∉ O := by decide) : GS X O (.Assign [.Name x pos'] e pos) (s_set i f) := gs_set (ps_set nd hi hx ge hs hf) (fun _ _ _ h => h) hO
theorem gAo (i : Nat) (nd : X.N.Nodup) (ge : GE X O e f) (hi : X.N[i]? = some x := by rfl) (hx : Loc X.env.scope x := by first | exact .inl rfl | exact .inr rfl) (hs : swapsWith e (some (.Name x pos')) pos.line X.env = pure false := by rfl)
    (hf : X.fn x = true ∨ X.env.scope.names.lookup x = some .local := by first | exact .inl rfl | exact .inr rfl) (hO : i ∈ O := by decide) (h0 : i ≠ 0 := by decide) : GS X O (.Assign [.Name x pos'] e pos) (s_setO i f) := gs_setO (ps_set nd hi hx ge hs hf) (fun _ _ _ h => h) hO h0
theorem gE (ge : GE X O e f) (hs : swapsWith e none pos.line X.env = pure false := by rfl) : GS X O (.Expr e pos) (s_ex f) := gs_ex (ps_expr ge hs) fun _ _ _ h => h
theorem gTg {tg : Expr} {vs : List Nat} {g : GF} (ge : GE X O e f) (gg : GG X O vs tg g) (hs : swapsWithSole [tg] e pos.line X.env = pure false := by rfl) (hw : swappedStores [tg] e X.env = pure none := by rfl) (h1 : (assignEach [tg] X.env).map (·.2) = [assign tg X.env] := by rfl) :
    GS X O (.Assign [tg] e pos) (s_tgt g f) := gs_tgt (ps_asg ge gg hs hw h1) (fun _ _ _ h => h) fun _ _ _ _ h => h
theorem gIx {y : Str} {py : Pos} (i : Nat) (hn : PE X (.Name y py) (tVar i)) (hk : GE X O a fa) (hv : GE X O e f) (hi : i ∈ O := by decide) (hs : swapsWithSole [.Subscript (.Name y py) a tpos] e pos.line X.env = pure false := by rfl) (hw : swappedStores [.Subscript (.Name y py) a tpos] e X.env = pure none := by rfl)
    (h1 : (assignEach [.Subscript (.Name y py) a tpos] X.env).map (·.2) = [assign (.Subscript (.Name y py) a tpos) X.env] := by rfl)
    (ha : ∀ v, assign (.Subscript (.Name y py) a tpos) X.env v = (do
      let ov ← holding [v] (eval (.Name y py) X.env)
      let iv ← holding [v, ov] (eval a X.env)
      standAt tpos
      holding [v, ov, iv] (setItem ov iv v)
      release [v, ov, iv] []) := by intro _; rfl) : GS X O (.Assign [.Subscript (.Name y py) a tpos] e pos) (s_setix st_list i fa f) :=
  gs_setix hn hk hv (fun h0 hk hv => ps_asg hv (pg_sub h0 hk set_list ha) hs hw h1) hi
theorem gP2 {y : Str} {px py pt : Pos} {kt k2 : Nat} {pt2 : Pos} (i j : Nat) (oi oj : Bool) (hc : X.calm = true) (nd : X.N.Nodup) (ha : GE X O a fa) (hb : GE X O b fb) (h1 : if oi = true then i ∈ O ∧ i ≠ 0 else i ∉ O := by decide) (h2 : if oj = true then j ∈ O ∧ j ≠ 0 else j ∉ O := by decide)
    (hi : X.N[i]? = some x := by rfl) (hj : X.N[j]? = some y := by rfl) (hij : i ≠ j := by decide) (hx : X.env.scope.names.lookup x = some .local := by rfl) (hy : X.env.scope.names.lookup y = some .local := by rfl)
    (hw : swappedStores [.Tuple [.Name x px, .Name y py] kt pt] (.Tuple [a, b] k2 pt2) X.env = pure (some [x, y]) := by rfl) (hs : swapsWithSole [.Tuple [.Name x px, .Name y py] kt pt] (.Tuple [a, b] k2 pt2) pos.line X.env = pure false := by rfl)
    (s1 : starEach [a, b] X.env = (false, eval a X.env) :: starEach [b] X.env := by rfl) (s2 : starEach [b] X.env = (false, eval b X.env) :: starEach [] X.env := by rfl) :
    GS X O (.Assign [.Tuple [.Name x px, .Name y py] kt pt] (.Tuple [a, b] k2 pt2) pos) (s_par2 i j oi oj fa fb) := gs_par2 ha hb h1 h2 fun g1 g2 => ps_par hc nd hi hj hij hx hy (pa_cons g1 (pa_cons g2 pa_nil s2) s1) hw hs
theorem gP3 {c0 : Expr} {fc : EF} {y z : Str} {px py pz pt : Pos} {kt k2 : Nat} {pt2 : Pos} (i j l : Nat) (oi oj ol : Bool) (hc : X.calm = true) (nd : X.N.Nodup) (ha : GE X O a fa) (hb : GE X O b fb) (h0 : GE X O c0 fc) (h1 : if oi = true then i ∈ O ∧ i ≠ 0 else i ∉ O := by decide) (h2 : if oj = true then j ∈ O ∧ j ≠ 0 else j ∉ O := by decide) (h3 : if ol = true then l ∈ O ∧ l ≠ 0 else l ∉ O := by decide)
    (hi : X.N[i]? = some x := by rfl) (hj : X.N[j]? = some y := by rfl) (hl : X.N[l]? = some z := by rfl) (hij : i ≠ j := by decide) (hil : i ≠ l := by decide) (hjl : j ≠ l := by decide) (hx : X.env.scope.names.lookup x = some .local := by rfl) (hy : X.env.scope.names.lookup y = some .local := by rfl) (hz : X.env.scope.names.lookup z = some .local := by rfl)
    (hw : swappedStores [.Tuple [.Name x px, .Name y py, .Name z pz] kt pt] (.Tuple [a, b, c0] k2 pt2) X.env = pure (some [x, y, z]) := by rfl) (hs : swapsWithSole [.Tuple [.Name x px, .Name y py, .Name z pz] kt pt] (.Tuple [a, b, c0] k2 pt2) pos.line X.env = pure false := by rfl)
    (s1 : starEach [a, b, c0] X.env = (false, eval a X.env) :: starEach [b, c0] X.env := by rfl) (s2 : starEach [b, c0] X.env = (false, eval b X.env) :: starEach [c0] X.env := by rfl) (s3 : starEach [c0] X.env = (false, eval c0 X.env) :: starEach [] X.env := by rfl) :
    GS X O (.Assign [.Tuple [.Name x px, .Name y py, .Name z pz] kt pt] (.Tuple [a, b, c0] k2 pt2) pos) (s_par3 i j l oi oj ol fa fb fc) := gs_par3 ha hb h0 h1 h2 h3 fun g1 g2 g3 => ps_par3 hc nd hi hj hl hij hil hjl hx hy hz (pa_cons g1 (pa_cons g2 (pa_cons g3 pa_nil s3) s2) s1) hw hs
/-! ### targets, what is walked -/
theorem gN (i : Nat) (nd : X.N.Nodup) (hi : X.N[i]? = some x := by rfl) (hx : Loc X.env.scope x := by first | exact .inl rfl | exact .inr rfl) (hf : X.fn x = true ∨ X.env.scope.names.lookup x = some .local := by first | exact .inl rfl | exact .inr rfl) (hO : i ∉ O := by decide) : GG X O [i] (.Name x p) (tg_n i) :=
  gg_n i (pg_name nd hi hx hf) hO
theorem gTT {vs : List Nat} {gs : List GF} {n kk : Nat} (hc : X.calm = true) (h : GGs X O vs es gs) (hl : gs.length = n := by rfl) (hn : (assignEach es X.env).length = n := by rfl) (hst : (assignEach es X.env).findIdx? (·.1) = none := by rfl) : GG X O vs (.Tuple es kk p) (tg_t gs) :=
  gg_t (k := 0) h (fun t => pg_tup hc t hn hst) hl
theorem gR1 {tg : Expr} (hm : X.mg "range" = none) (h : GE X O a fa) (hg : Gl X "range" := by rfl) (hs : starEach [a] X.env = [(false, eval a X.env)] := by rfl) : PI X tg (.Call (.Name "range" p) [a] [] pos) (tI X.K O (it_r1 fa)) := gi_r1 h (fun t => pi_range1 hg hm t hs) hs
theorem gR2 {tg : Expr} (hm : X.mg "range" = none) (h : GE X O a fa) (h' : GE X O b fb) (hg : Gl X "range" := by rfl) (hs : starEach [a, b] X.env = [(false, eval a X.env), (false, eval b X.env)] := by rfl) (hs2 : starEach [b] X.env = [(false, eval b X.env)] := by rfl) : PI X tg (.Call (.Name "range" p) [a, b] [] pos) (tI X.K O (it_r2 fa fb)) :=
  gi_r2 h h' (fun t => pi_range2 hg hm t hs hs2) (by rw [hs, hs2]) hs2
theorem gEn {kk : Nat} (hm : X.mg "enumerate" = none) (h : GE X O a fa) (hg : Gl X "enumerate" := by rfl) (hs : starEach [a] X.env = [(false, eval a X.env)] := by rfl) : PI X (.Tuple es kk tpos) (.Call (.Name "enumerate" p) [a] [] pos) (tI X.K O (it_enum fa)) :=
  gi_enum h (fun t => pi_enum hg hm t hs) (fun t => pi_enumT hg hm t hs) hs
theorem gZp {kk : Nat} (hm : X.mg "zip" = none) (h : GE X O a fa) (h' : GE X O b fb) (hg : Gl X "zip" := by rfl) (hs : starEach [a, b] X.env = (false, eval a X.env) :: starEach [b] X.env := by rfl) (hpl : (backTo pos (starEach [b] X.env)).any (·.1) = false := by rfl) (hs2 : starEach [b] X.env = (false, eval b X.env) :: starEach [] X.env := by rfl) :
    PI X (.Tuple es kk tpos) (.Call (.Name "zip" p) [a, b] [] pos) (tI X.K O (it_zip fa fb)) := gi_zip h h' (fun t => RZ.pi_zipA hg hm t hs hpl) hs hs2
/-! ### chains, methods -/
theorem gCh {c : Expr} {o o' : CmpOp} {p1 p2 : D → D → Option R} {fc : EF} (h1 : OpS X (compareOp o) p1) (h2 : OpS X (compareOp o') p2) (ha : GE X O a fa) (hb : GE X O b fb) (hc : GE X O c fc) (hm : lastMarks [o, o'] [b, c] = false := by with_unfolding_all rfl) : GE X O (.Compare a [o, o'] [b, c] pos) (e_chain p1 p2 fa fb fc) :=
  g_chain h1 h2 ha hb hc fun g1 g2 ga gb gc => pe_chain g1 g2 ga gb gc hm
theorem gMe {nm : Str} {id : String} {op : D → List D → Option (R × D)} {y : Str} {py : Pos} (i : Nat) (hm : MethS X id op) (slot : Slot "list" nm id) (hty : typeOf (.builtin id) = pure (.type "method_descriptor")) (hn : PE X (.Name y py) (tVar i)) (ha : GA X O (e :: es) fs) (hi : i ∈ O := by decide)
    (hbase : attributeBase (.Name y py) nm X.env (eval (.Name y py) X.env) = eval (.Name y py) X.env := by rfl)
    (hfew : ((backTo pos (starEach (e :: es) X.env)).all (fun x => !x.1) && (backToKw pos (keywordEach [] X.env)).all (fun x => x.1.isSome) && decide ((e :: es).length + ([] : List Keyword).length + (if ([] : List Keyword).isEmpty then 0 else 1) < 30)) = true := by rfl)
    (hline : (apos.endLine == pos.line) = true := by rfl) (hs : starEach (e :: es) X.env = (false, eval e X.env) :: starEach es X.env := by rfl) (hplain : (backTo pos (starEach es X.env)).any (·.1) = false := by rfl) :
    GE X O (.Call (.Attribute (.Name y py) nm apos) (e :: es) [] pos) (e_meth op i fs) := g_meth i hm hn ha (fun h1 h2 h3 => pe_bm PySem.F.plainAttrs_list slot hty h1 h2 h3 hbase hfew hline hs hplain) hi
theorem gMe0 {nm : Str} {id : String} {op : D → List D → Option (R × D)} {y : Str} {py : Pos} (i : Nat) (hm : MethS X id op) (slot : Slot "list" nm id) (hty : typeOf (.builtin id) = pure (.type "method_descriptor")) (hn : PE X (.Name y py) (tVar i)) (hi : i ∈ O := by decide)
    (hbase : attributeBase (.Name y py) nm X.env (eval (.Name y py) X.env) = eval (.Name y py) X.env := by rfl) (hline : (apos.endLine == pos.line) = true := by rfl) :
    GE X O (.Call (.Attribute (.Name y py) nm apos) [] [] pos) (e_meth op i a_nil) := g_meth0 i hm hn (fun h1 h2 => pe_bm0 PySem.F.plainAttrs_list slot hty h1 h2 hbase hline) hi
theorem gBm {nm : Str} {id : String} {op : D → List D → Option R} (hm : BmS X id op) (slot : Slot "list" nm id) (hty : typeOf (.builtin id) = pure (.type "method_descriptor")) (h0 : GE X O a fa) (ha : GA X O (e :: es) fs)
    (hbase : attributeBase a nm X.env (eval a X.env) = eval a X.env := by rfl)
    (hfew : ((backTo pos (starEach (e :: es) X.env)).all (fun x => !x.1) && (backToKw pos (keywordEach [] X.env)).all (fun x => x.1.isSome) && decide ((e :: es).length + ([] : List Keyword).length + (if ([] : List Keyword).isEmpty then 0 else 1) < 30)) = true := by rfl)
    (hline : (apos.endLine == pos.line) = true := by rfl) (hs : starEach (e :: es) X.env = (false, eval e X.env) :: starEach es X.env := by rfl) (hplain : (backTo pos (starEach es X.env)).any (·.1) = false := by rfl) :
    GE X O (.Call (.Attribute a nm apos) (e :: es) [] pos) (e_bm op fa fs) := g_bm hm h0 ha fun h1 h2 h3 => pe_bm PySem.F.plainAttrs_list slot hty h1 h2 h3 hbase hfew hline hs hplain
/-! ### comprehensions -/
theorem gLc {elt tg iter : Expr} {ifs : List Expr} {scope : Scope} (own : List (Str × Nat)) {it : IF} {g : GF} {t : TF} (hc : X.calm = true) (nd : X.N.Nodup) (hi : PI X tg iter (tI X.K O it)) (ok : blkC X.N X.env.scope scope own = true)
    (hg : ∀ (s : Shared) (H : Hp) (C : Addr) (cl : List (Str × Addr)) (fp : List Addr), PG (X.blk s H scope (compEnvC scope cl C X.env) fp) tg (tG X.K O (own.map (·.2)) g)) (ht : ∀ (s : Shared) (H : Hp) (C : Addr) (cl : List (Str × Addr)) (fp : List Addr), PTs (X.blk s H scope (compEnvC scope cl C X.env) fp) ifs (tT X.K O t))
    (he : ∀ (s : Shared) (H : Hp) (C : Addr) (cl : List (Str × Addr)) (fp : List Addr), PE (X.blk s H scope (compEnvC scope cl C X.env) fp) elt (tE X.K O f)) (hv : ∀ j ∈ own.map (·.2), j ∉ O := by decide) (hs : ∀ x, foldedSetIterable iter X.env x = pure x := by intro _; rfl) :
    GE X O (.ListComp elt [⟨tg, iter, ifs, 0⟩] scope pos) (e_lc it g t f (own.map (·.2))) := g_lc (pe_lc hc nd hi (blkOk_by ok) hg ht he hs) hv
theorem gAc {y : Str} {py spos : Pos} {elt tg iter : Expr} {ifs : List Expr} {scope : Scope} (i : Nat) (own : List (Str × Nat)) {it : IF} {g : GF} {t : TF} (hc : X.calm = true) (nd : X.N.Nodup) (hi : PI X tg iter (tI X.K O it)) (ok : blkC X.N X.env.scope scope own = true) (hsw : swapsWith (.ListComp elt [⟨tg, iter, ifs, 0⟩] scope pos) (some (.Name y py)) spos.line X.env = pure true)
    (hg : ∀ (s : Shared) (H : Hp) (C : Addr) (cl : List (Str × Addr)) (fp : List Addr), PG (X.blk s H scope (compEnvC scope cl C X.env) fp) tg (tG X.K O (own.map (·.2)) g)) (ht : ∀ (s : Shared) (H : Hp) (C : Addr) (cl : List (Str × Addr)) (fp : List Addr), PTs (X.blk s H scope (compEnvC scope cl C X.env) fp) ifs (tT X.K O t))
    (he : ∀ (s : Shared) (H : Hp) (C : Addr) (cl : List (Str × Addr)) (fp : List Addr), PE (X.blk s H scope (compEnvC scope cl C X.env) fp) elt (tE X.K O f)) (hO : i ∉ O := by decide) (hv : ∀ j ∈ own.map (·.2), j ∉ O := by decide) (hy : X.N[i]? = some y := by rfl) (hyl : X.env.scope.names.lookup y = some .local := by rfl) (hs : ∀ x, foldedSetIterable iter X.env x = pure x := by intro _; rfl) :
    GS X O (.Assign [.Name y py] (.ListComp elt [⟨tg, iter, ifs, 0⟩] scope pos) spos) (s_set i (e_lc it g t f (own.map (·.2)))) := gs_set (ps_setLc hc nd hy hyl hsw hi (blkOk_by ok) hg ht he hs) (fun _ _ _ h => w_lc hv h) hO
theorem gAco {y : Str} {py spos : Pos} {elt tg iter : Expr} {ifs : List Expr} {scope : Scope} (i : Nat) (own : List (Str × Nat)) {it : IF} {g : GF} {t : TF} (hc : X.calm = true) (nd : X.N.Nodup) (hi : PI X tg iter (tI X.K O it)) (ok : blkC X.N X.env.scope scope own = true) (hsw : swapsWith (.ListComp elt [⟨tg, iter, ifs, 0⟩] scope pos) (some (.Name y py)) spos.line X.env = pure true)
    (hg : ∀ (s : Shared) (H : Hp) (C : Addr) (cl : List (Str × Addr)) (fp : List Addr), PG (X.blk s H scope (compEnvC scope cl C X.env) fp) tg (tG X.K O (own.map (·.2)) g)) (ht : ∀ (s : Shared) (H : Hp) (C : Addr) (cl : List (Str × Addr)) (fp : List Addr), PTs (X.blk s H scope (compEnvC scope cl C X.env) fp) ifs (tT X.K O t))
    (he : ∀ (s : Shared) (H : Hp) (C : Addr) (cl : List (Str × Addr)) (fp : List Addr), PE (X.blk s H scope (compEnvC scope cl C X.env) fp) elt (tE X.K O f)) (hO : i ∈ O := by decide) (h0 : i ≠ 0 := by decide) (hv : ∀ j ∈ own.map (·.2), j ∉ O := by decide) (hy : X.N[i]? = some y := by rfl) (hyl : X.env.scope.names.lookup y = some .local := by rfl) (hs : ∀ x, foldedSetIterable iter X.env x = pure x := by intro _; rfl) :
    GS X O (.Assign [.Name y py] (.ListComp elt [⟨tg, iter, ifs, 0⟩] scope pos) spos) (s_setO i (e_lc it g t f (own.map (·.2)))) := gs_setO (ps_setLc hc nd hy hyl hsw hi (blkOk_by ok) hg ht he hs) (fun _ _ _ h => w_lc hv h) hO h0
/-! ### lists and tuples of ranges -/
theorem gL1 {pr : Pos} (hc : X.calm = true) (hm1 : X.mg "list" = none) (hm2 : X.mg "range" = none) (h : GE X O a fa) (hg1 : Gl X "list" := by rfl) (hg2 : Gl X "range" := by rfl) (n1 : starEach [a] X.env = (false, eval a X.env) :: starEach [] X.env := by rfl)
    (n2 : starEach [.Call (.Name "range" pr) [a] [] pos'] X.env = (false, eval (.Call (.Name "range" pr) [a] [] pos') X.env) :: starEach [] X.env := by rfl) : GE X O (.Call (.Name "list" p) [.Call (.Name "range" pr) [a] [] pos'] [] pos) (e_lstR (it_r1 fa)) :=
  g_lstR1 h fun g => pe_listRg hc hg1 hm1 (prg_1 hg2 hm2 g n1) n2
theorem gTp1 {pr : Pos} (hc : X.calm = true) (hm1 : X.mg "tuple" = none) (hm2 : X.mg "range" = none) (h : GE X O a fa) (hg1 : Gl X "tuple" := by rfl) (hg2 : Gl X "range" := by rfl) (n1 : starEach [a] X.env = (false, eval a X.env) :: starEach [] X.env := by rfl)
    (n2 : starEach [.Call (.Name "range" pr) [a] [] pos'] X.env = (false, eval (.Call (.Name "range" pr) [a] [] pos') X.env) :: starEach [] X.env := by rfl) : GE X O (.Call (.Name "tuple" p) [.Call (.Name "range" pr) [a] [] pos'] [] pos) (e_tupR (it_r1 fa)) :=
  g_tupR1 h fun g => pe_tupRg hc hg1 hm1 (prg_1 hg2 hm2 g n1) n2
/-! ### sorted by a key -/
theorem gSortRL {c P : Addr} {ps0 : Arguments} {sc : Scope} {y : Str} {x1 : Nat} {pr p1 p2 p3 p4 p5 p6 p7 : Pos} (i : Nat) (hc : X.calm = true) (hu : X.A.units + 65 < cLine) (hroom : X.A.depth < recursionLimit) (TB : LamX.TabB X.base X.mg c P) (hcode : X.env.code = .ref c) (hT : (P, lamQ X) ∈ Tb.T) (hTu : ∀ p ∈ Tb.T, p.1 = P → p.2 = lamQ X)
    (hm1 : X.mg "sorted" = none) (hm2 : X.mg "range" = none) (h : GE X O a fa) (hi : i ∉ O := by decide) (hg1 : Gl X "sorted" := by rfl) (hg2 : Gl X "range" := by rfl) (hdef : defaultsOf ps0 X.env = ([], []) := by rfl) (hN : X.N[i]? = some y := by rfl)
    (hkd : sc.kind = .function := by rfl) (hco : sc.isCoroutine = false := by rfl) (hgen : sc.isGenerator = false := by rfl) (hcell : ∀ z ∈ sc.names, z.2 ≠ .cell := by decide +kernel) (hxl : sc.names.lookup x = some .local := by rfl) (hyl : sc.names.lookup y = some .free := by rfl)
    (hfr : ∀ z ∈ sc.names, z.2 = .free → X.env.scope.names.lookup z.1 = some .cell ∨ X.env.scope.names.lookup z.1 = some .free)
    (hbind : ∀ (v pm cv ctv : Value) (cl : List (Str × Addr)), bindArgs (PySem.W.kla_fn "<lambda>" (lamQ X) ps0 (.Tuple [.Subscript (.Name y p1) (.Name x p2) p3, .Name x p4] x1 p5) sc cl pm cv ctv) ⟨[v], []⟩ = pure [(x, v)] := by intros; rfl)
    (hdx : (x == ("__debug__" : Str)) = false := by decide) (hdy : (y == ("__debug__" : Str)) = false := by decide) (hcy : (y == ("__classdict__" : Str)) = false := by decide)
    (hs : ∀ (p : Addr) (i : Int) (t : Tok), subscripted (.Name x p2) false (.ref p) (.int i t) = operate [.ref p, .int i t] (getItem (.ref p) (.int i t)) := by intro _ _ _; with_unfolding_all rfl)
    (n1 : starEach [a] X.env = (false, eval a X.env) :: starEach [] X.env := by rfl) (n2 : starEach [.Call (.Name "range" pr) [a] [] pos'] X.env = (false, eval (.Call (.Name "range" pr) [a] [] pos') X.env) :: starEach [] X.env := by rfl)
    (nb : backTo pos (starEach [.Call (.Name "range" pr) [a] [] pos'] X.env) = (false, eval (.Call (.Name "range" pr) [a] [] pos') X.env) :: backTo pos (starEach [] X.env) := by rfl) (np : (backTo pos (starEach [.Call (.Name "range" pr) [a] [] pos'] X.env)).any (·.1) = false := by rfl) :
    GE X O (.Call (.Name "sorted" p) [.Call (.Name "range" pr) [a] [] pos'] [⟨some "key", .Lambda ps0 (.Tuple [.Subscript (.Name y p1) (.Name x p2) p3, .Name x p4] x1 p5) sc p6, p7⟩] pos) (e_sortRL fa i) :=
  g_sortRL h hi fun g => pe_sortRL hc hu hroom hg1 hm1 (prg_1 hg2 hm2 g n1) TB hcode hT hTu hdef hN hkd hco hgen hcell hxl hyl hfr hbind hdx hdy hcy hs n2 nb np
def lamN (qual : Str) : Str := qual ++ ".<locals>." ++ "<lambda>"
theorem Room.units1 {k : Nat} {A : Around} (hr : L2.Room k A) : A.units + 65 < cLine := by have := hr.un; omega
end
end Mini

/-! ## MEnd -/
/-! Mini: the end of a law. -/
namespace Mini
open PySem PySem.Spec PyProof.Rows L2

theorem sz_of {P : Program} {w : World} {H : Hp} {h : Heap} (ok : HOk P w H h) : SzH H := fun a xs => ⟨fun z => (z.ok ok).1, fun z => (z.ok ok).1⟩
section
variable [Tb] {P : Program} {w : World} {K : PySem.W.Frag} {mg : Str → Option Value} {base : Heap} {k : Nat} {f : Addr} {fd : FuncData} {x : Str} {F : List D → Option R}
/-- the law's promise, the sizes not asked -/
def spZ (K : PySem.W.Frag) (F : List D → Option R) : Sp := fun vs H Q E => vs.length = 1 ∧ (SzH H → spP K F vs H Q E)
theorem fn_sz (h : FnOk P w K mg base CX0 k f fd [x] (spP K F)) : FnOk P w K mg base CX0 k f fd [x] (spZ K F) :=
  ⟨fun vs H Q E z => z.1, fun A outer s H args us vs Q E hr e0 hb r z => h.run A outer s H args us vs Q E hr e0 hb r (z.2 (sz_of e0.hok))⟩
theorem start_z {H : Hp} {a : Addr} {ns : List Int} {E : XK} (ht : ∀ p ∈ Tb.T, H p.1 = some (.tbl #[])) (hS : SqL K H a (ns.map V.int)) (hF : ∀ s, (s = .scr (ns.map D.int) ∨ s = .lst (ns.map D.int)) → F [s] = some (.val (.bl true))) :
    spZ K F [.ref a] H (fun v _ => v = .bl true) E := by
  refine ⟨rfl, fun hz => ?_⟩
  have tabs : LamX.Tabs Tb.T H := fun p hp => LamX.TabS.nil (ht p hp)
  rcases hS with (h | ⟨o, h⟩) | h
  · refine ⟨[.lst (ns.map D.int)], _, ⟨_, [], rfl, ⟨a, rfl, _, h, dens_ints ns⟩, rfl⟩, hz, tabs, hF _ (.inr rfl), fun u H' _ _ hd => hd⟩
  · exact ⟨[.scr (ns.map D.int)], _, ⟨_, [], rfl, ⟨a, _, rfl, .inl ⟨o, h⟩, dens_ints ns⟩, rfl⟩, hz, tabs, hF _ (.inl rfl), fun u H' _ _ hd => hd⟩
  · obtain ⟨o, its, n, hk, hc, hd, hs, hz2, r⟩ := h
    exact ⟨[.scr (ns.map D.int)], _, ⟨_, [], rfl, ⟨a, _, rfl, .inr ⟨o, its, n, hk, hc, hd, hs, hz2, r⟩, dens_ints ns⟩, rfl⟩, hz, tabs, hF _ (.inl rfl), fun u H' _ _ hd => hd⟩
end
end Mini

/-! ## MPure -/
/-! Mini: what the pure terms compute; loops. -/
namespace Mini
open PySem

theorem lc_enc {α : Type} (enc : α → D) {g : GF} {t : TF} {f : EF} {vs : List Nat} {e : En} (p : α → Bool) (h : α → D) : ∀ l : List α,
    (∀ a ∈ l, ∃ e1 e2, g (enc a) e = some e1 ∧ t e1 = some (p a, e2) ∧ (p a = true → ∃ r e3, f e2 = some (r, e3) ∧ r.st = some (h a) ∧ e3.wipe vs = e) ∧ (p a = false → e2.wipe vs = e)) →
    lcLoop g t f vs (l.map enc) e = some ((l.filter p).map h, e)
  | [], _ => rfl
  | a :: l, H => by
    obtain ⟨e1, e2, h1, h2, h3, h4⟩ := H a List.mem_cons_self
    have ih := lc_enc enc p h l fun b hb => H b (List.mem_cons_of_mem _ hb)
    rw [List.map_cons, lcLoop, h1, Option.bind_some, h2, Option.bind_some]
    cases hp : p a with
    | true =>
      obtain ⟨r, e3, h5, h6, h7⟩ := h3 hp
      simp only [if_true, h5, Option.bind_some, h6, h7, ih, List.filter_cons, hp, List.map_cons]
    | false =>
      simp only [Bool.false_eq_true, if_false, h4 hp, ih, List.filter_cons, hp]
theorem for_inv {α : Type} (enc : α → D) {g : GF} {b : SF} (I : List α → En → Prop) : ∀ (l done : List α) (e : En), I done e →
    (∀ (done : List α) (a : α) (e : En), a ∈ l → I done e → ∃ e1 e2, g (enc a) e = some e1 ∧ (b e1 = some (.nx e2) ∨ b e1 = some (.ct e2)) ∧ I (done ++ [a]) e2) →
    ∃ e', forLoop g b (l.map enc) e = some (.nx e') ∧ I (done ++ l) e'
  | [], done, e, h0, _ => ⟨e, rfl, by rw [List.append_nil]; exact h0⟩
  | a :: l, done, e, h0, H => by
    obtain ⟨e1, e2, h1, h2, h3⟩ := H done a e List.mem_cons_self h0
    obtain ⟨e', h4, h5⟩ := for_inv enc I l (done ++ [a]) e2 h3 fun dn b e hb => H dn b e (List.mem_cons_of_mem _ hb)
    refine ⟨e', ?_, by rw [List.append_assoc] at h5; exact h5⟩
    rw [List.map_cons, forLoop, h1, Option.bind_some]
    rcases h2 with h2 | h2 <;> rw [h2, Option.bind_some] <;> exact h4
theorem while_inv {t : TF} {b : SF} (I Q : En → Prop) (m : En → Nat) (H : ∀ e, I e → ∃ c e1, t e = some (c, e1) ∧ (c = true → ∃ e2, b e1 = some (.nx e2) ∧ I e2 ∧ m e2 < m e) ∧ (c = false → Q e1)) : ∀ (n : Nat) (e : En), I e → m e < n →
    ∃ e', whileLoop t b n e = some (.nx e') ∧ Q e'
  | 0, e, _, h => absurd h (Nat.not_lt_zero _)
  | n + 1, e, h0, hm => by
    obtain ⟨c, e1, h1, h2, h3⟩ := H e h0
    rw [whileLoop, h1, Option.bind_some]
    cases c with
    | true =>
      obtain ⟨e2, h4, h5, h6⟩ := h2 rfl
      obtain ⟨e', h7, h8⟩ := while_inv I Q m H n e2 h5 (by omega)
      exact ⟨e', by simp only [if_true, h4, Option.bind_some]; exact h7, h8⟩
    | false => exact ⟨e1, by simp, h3 rfl⟩

/-! ### ints -/
theorem ints_map : ∀ ns : List Int, D.ints? (ns.map .int) = some ns
  | [] => rfl
  | n :: ns => by rw [List.map_cons, D.ints?, ints_map ns]; rfl
theorem bls_map : ∀ ns : List Bool, D.bls? (ns.map .bl) = some ns
  | [] => rfl
  | n :: ns => by rw [List.map_cons, D.bls?, bls_map ns]; rfl
def mx : List Int → Int
  | [] => 0
  | n :: ns => ns.foldl max n
def mn : List Int → Int
  | [] => 0
  | n :: ns => ns.foldl min n
theorem foldmax (ns : List Int) : ∀ n, (n ≤ ns.foldl max n ∧ ∀ x ∈ ns, x ≤ ns.foldl max n) ∧ (ns.foldl max n = n ∨ ns.foldl max n ∈ ns) := by
  induction ns with
  | nil => intro n; exact ⟨⟨Int.le_refl _, fun x h => by cases h⟩, .inl rfl⟩
  | cons m ns ih =>
    intro n
    obtain ⟨⟨h1, h2⟩, h3⟩ := ih (max n m)
    rw [List.foldl_cons]
    refine ⟨⟨by omega, fun x hx => ?_⟩, ?_⟩
    · rcases List.mem_cons.mp hx with e | hx
      · omega
      · exact h2 x hx
    · rcases h3 with h3 | h3
      · by_cases h : n ≤ m
        · exact .inr (by rw [h3, Int.max_eq_right h]; exact List.mem_cons_self)
        · exact .inl (by rw [h3]; omega)
      · exact .inr (List.mem_cons_of_mem _ h3)
theorem foldmin (ns : List Int) : ∀ n, (ns.foldl min n ≤ n ∧ ∀ x ∈ ns, ns.foldl min n ≤ x) ∧ (ns.foldl min n = n ∨ ns.foldl min n ∈ ns) := by
  induction ns with
  | nil => intro n; exact ⟨⟨Int.le_refl _, fun x h => by cases h⟩, .inl rfl⟩
  | cons m ns ih =>
    intro n
    obtain ⟨⟨h1, h2⟩, h3⟩ := ih (min n m)
    rw [List.foldl_cons]
    refine ⟨⟨by omega, fun x hx => ?_⟩, ?_⟩
    · rcases List.mem_cons.mp hx with e | hx
      · omega
      · exact h2 x hx
    · rcases h3 with h3 | h3
      · by_cases h : n ≤ m
        · exact .inl (by rw [h3]; omega)
        · exact .inr (by rw [h3, Int.min_eq_right (by omega)]; exact List.mem_cons_self)
      · exact .inr (List.mem_cons_of_mem _ h3)
theorem mx_le {l : List Int} {x : Int} (h : x ∈ l) : x ≤ mx l := by
  cases l with
  | nil => cases h
  | cons n ns =>
    rcases List.mem_cons.mp h with e | h
    · subst e; exact (foldmax ns x).1.1
    · exact (foldmax ns n).1.2 x h
theorem mx_mem {l : List Int} (h : l ≠ []) : mx l ∈ l := by
  cases l with
  | nil => exact absurd rfl h
  | cons n ns =>
    rcases (foldmax ns n).2 with e | h
    · show ns.foldl max n ∈ n :: ns
      rw [e]; exact List.mem_cons_self
    · exact List.mem_cons_of_mem _ h
theorem mn_le {l : List Int} {x : Int} (h : x ∈ l) : mn l ≤ x := by
  cases l with
  | nil => cases h
  | cons n ns =>
    rcases List.mem_cons.mp h with e | h
    · subst e; exact (foldmin ns x).1.1
    · exact (foldmin ns n).1.2 x h
theorem mn_mem {l : List Int} (h : l ≠ []) : mn l ∈ l := by
  cases l with
  | nil => exact absurd rfl h
  | cons n ns =>
    rcases (foldmin ns n).2 with e | h
    · show ns.foldl min n ∈ n :: ns
      rw [e]; exact List.mem_cons_self
    · exact List.mem_cons_of_mem _ h
theorem mx_eq {l : List Int} {x : Int} (h : x ∈ l) (h2 : ∀ y ∈ l, y ≤ x) : mx l = x := Int.le_antisymm (h2 _ (mx_mem fun z => by rw [z] at h; cases h)) (mx_le h)
theorem mn_eq {l : List Int} {x : Int} (h : x ∈ l) (h2 : ∀ y ∈ l, x ≤ y) : mn l = x := Int.le_antisymm (mn_le h) (h2 _ (mn_mem fun z => by rw [z] at h; cases h))
theorem max_l {l : List Int} (h : l ≠ []) : o_max [.lst (l.map .int)] = some (.val (.int (mx l))) := by
  cases l with
  | nil => exact absurd rfl h
  | cons n ns => simp only [o_max, D.seq?, Option.bind_some, ints_map]; rfl
theorem max_t {l : List Int} (h : l ≠ []) : o_max [.tup (l.map .int)] = some (.val (.int (mx l))) := by
  cases l with
  | nil => exact absurd rfl h
  | cons n ns => simp only [o_max, D.seq?, Option.bind_some, ints_map]; rfl
theorem min_l {l : List Int} (h : l ≠ []) : o_min [.lst (l.map .int)] = some (.val (.int (mn l))) := by
  cases l with
  | nil => exact absurd rfl h
  | cons n ns => simp only [o_min, D.seq?, Option.bind_some, ints_map]; rfl
theorem min_t {l : List Int} (h : l ≠ []) : o_min [.tup (l.map .int)] = some (.val (.int (mn l))) := by
  cases l with
  | nil => exact absurd rfl h
  | cons n ns => simp only [o_min, D.seq?, Option.bind_some, ints_map]; rfl
theorem all_l (l : List Bool) : o_all [.lst (l.map .bl)] = some (.val (.bl (l.all id))) := by
  simp only [o_all, D.lst?, Option.bind_some, bls_map]
theorem any_l (l : List Bool) : o_any [.lst (l.map .bl)] = some (.val (.bl (l.any id))) := by
  simp only [o_any, D.lst?, Option.bind_some, bls_map]
theorem max_2 (i j : Int) : o_max [.int i, .int j] = some (.val (.int (max i j))) := by
  simp only [o_max]; congr 3; by_cases h : j > i <;> simp [h] <;> omega
theorem min_2 (i j : Int) : o_min [.int i, .int j] = some (.val (.int (min i j))) := by
  simp only [o_min]; congr 3; by_cases h : j < i <;> simp [h] <;> omega
end Mini
namespace Mini
open PySem
theorem ixP_nat {n k : Nat} (h : k < n) : ixP n (k : Int) = some k := by
  unfold ixP
  rw [if_pos (by omega), if_pos (by omega), Int.toNat_natCast]
theorem ix_t {l : List D} {k : Nat} {d : D} (h : l[k]? = some d) : o_ix (.tup l) (.int (k : Int)) = some (.val d) := by
  have hk := (List.getElem?_eq_some_iff.mp h).1
  simp only [o_ix, D.int?, Option.bind_some, ixP_nat hk, h]
theorem ix_l {l : List D} {k : Nat} {d : D} (h : l[k]? = some d) : o_ix (.lst l) (.int (k : Int)) = some (.val d) := by
  have hk := (List.getElem?_eq_some_iff.mp h).1
  simp only [o_ix, D.int?, Option.bind_some, ixP_nat hk, h]
theorem ix_t0 (a : D) (l : List D) : o_ix (.tup (a :: l)) (.int 0) = some (.val a) := ix_t (k := 0) rfl
theorem ix_t1 (a b : D) (l : List D) : o_ix (.tup (a :: b :: l)) (.int 1) = some (.val b) := ix_t (k := 1) rfl
theorem ix_t2 (a b c : D) (l : List D) : o_ix (.tup (a :: b :: c :: l)) (.int 2) = some (.val c) := ix_t (k := 2) rfl
theorem ix_l0 (a : D) (l : List D) : o_ix (.lst (a :: l)) (.int 0) = some (.val a) := ix_l (k := 0) rfl
theorem ix_l1 (a b : D) (l : List D) : o_ix (.lst (a :: b :: l)) (.int 1) = some (.val b) := ix_l (k := 1) rfl
theorem ix_l2 (a b c : D) (l : List D) : o_ix (.lst (a :: b :: c :: l)) (.int 2) = some (.val c) := ix_l (k := 2) rfl
theorem len_t (l : List D) : o_len [.tup l] = some (.val (.int l.length)) := rfl
theorem len_l (l : List D) : o_len [.lst l] = some (.val (.int l.length)) := rfl
theorem tup_l (l : List D) : o_tuple [.lst l] = some (.val (.tup l)) := rfl
theorem add_i (a b : Int) : o_add (.int a) (.int b) = some (.val (.int (a + b))) := rfl
theorem flats_ints : ∀ ns : List Int, D.flats (ns.map .int) = true
  | [] => rfl
  | n :: ns => by rw [List.map_cons, D.flats, flats_ints ns]; rfl
theorem flats_map {α : Type} {f : α → D} (h : ∀ a, (f a).flat = true) : ∀ l : List α, D.flats (l.map f) = true
  | [] => rfl
  | n :: ns => by rw [List.map_cons, D.flats, flats_map h ns, h]; rfl
theorem filt_true {α : Type} (l : List α) : l.filter (fun _ => true) = l := List.filter_eq_self.mpr fun _ _ => rfl
end Mini
namespace Mini
open PySem
theorem lcM {α : Type} (enc : α → D) {it : IF} {g : GF} {f : EF} {vs : List Nat} {e e' : En} {l : List α} (h : α → D) (hit : it e = some (l.map enc, e'))
    (H : ∀ a ∈ l, ∃ e1 r e3, g (enc a) (e'.wipe vs) = some e1 ∧ f e1 = some (r, e3) ∧ r.st = some (h a) ∧ e3.wipe vs = e'.wipe vs) : e_lc it g t_yes f vs e = some (.new (.lst (l.map h)), En.back e' (e'.wipe vs) vs) := by
  have := lc_enc enc (g := g) (t := t_yes) (f := f) (vs := vs) (e := e'.wipe vs) (fun _ => true) h l fun a ha => by
    obtain ⟨e1, r, e3, h1, h2, h3, h4⟩ := H a ha
    exact ⟨e1, e1, h1, rfl, fun _ => ⟨r, e3, h2, h3, h4⟩, fun z => by cases z⟩
  simp only [e_lc, hit, Option.bind_some, this, filt_true]
theorem lcF {α : Type} (enc : α → D) {it : IF} {g : GF} {t : TF} {f : EF} {vs : List Nat} {e e' : En} {l : List α} (p : α → Bool) (h : α → D) (hit : it e = some (l.map enc, e'))
    (H : ∀ a ∈ l, ∃ e1 e2, g (enc a) (e'.wipe vs) = some e1 ∧ t e1 = some (p a, e2) ∧ (p a = true → ∃ r e3, f e2 = some (r, e3) ∧ r.st = some (h a) ∧ e3.wipe vs = e'.wipe vs) ∧ (p a = false → e2.wipe vs = e'.wipe vs)) :
    e_lc it g t f vs e = some (.new (.lst ((l.filter p).map h)), En.back e' (e'.wipe vs) vs) := by
  have := lc_enc enc (g := g) (t := t) (f := f) (vs := vs) (e := e'.wipe vs) p h l H
  simp only [e_lc, hit, Option.bind_some, this]
theorem enum_enc {α : Type} (enc : α → D) : ∀ (l : List α) (n : Nat), enumFrom n (l.map enc) = (l.zipIdx n).map fun x => .tup [.int (x.2 : Nat), enc x.1]
  | [], _ => rfl
  | a :: l, n => by rw [List.map_cons, enumFrom, enum_enc enc l (n + 1), List.zipIdx_cons, List.map_cons]
theorem mx_congr {l l' : List Int} (h : ∀ v, v ∈ l ↔ v ∈ l') : mx l = mx l' := by
  cases l with
  | nil =>
    have : l' = [] := List.eq_nil_iff_forall_not_mem.mpr fun v hv => by cases (h v).mpr hv
    rw [this]
  | cons a r =>
    exact mx_eq ((h _).mpr (mx_mem fun z => by have := (h a).mp List.mem_cons_self; rw [z] at this; cases this)) fun y hy => mx_le ((h y).mp hy)
theorem mn_congr {l l' : List Int} (h : ∀ v, v ∈ l ↔ v ∈ l') : mn l = mn l' := by
  cases l with
  | nil =>
    have : l' = [] := List.eq_nil_iff_forall_not_mem.mpr fun v hv => by cases (h v).mpr hv
    rw [this]
  | cons a r =>
    exact mn_eq ((h _).mpr (mn_mem fun z => by have := (h a).mp List.mem_cons_self; rw [z] at this; cases this)) fun y hy => mn_le ((h y).mp hy)
theorem cut_to (l : List D) (k : Nat) (h : k ≤ l.length) : cutP l none (some (k : Int)) = l.take k := by
  unfold cutP sIxP
  simp only [Int.toNat_natCast, List.drop_zero, Nat.sub_zero]
  rw [if_neg (by omega), Nat.min_eq_left h]
theorem cut_from (l : List D) (k : Nat) : cutP l (some (k : Int)) none = l.drop k := by
  unfold cutP sIxP
  simp only [Int.toNat_natCast]
  rw [if_neg (by omega)]
  by_cases h : k ≤ l.length
  · rw [Nat.min_eq_left h, List.take_of_length_le (by rw [List.length_drop]; omega)]
  · rw [Nat.min_eq_right (by omega), List.drop_length, List.drop_of_length_le (by omega), List.take_nil]
end Mini
namespace Mini
open PySem
theorem for_pre {α : Type} (enc : α → D) {g : GF} {b : SF} (I : List α → En → Prop) (full : List α) (e : En) (h0 : I [] e)
    (H : ∀ (done : List α) (a : α) (rest : List α) (e : En), full = done ++ a :: rest → I done e → ∃ e1 e2, g (enc a) e = some e1 ∧ (b e1 = some (.nx e2) ∨ b e1 = some (.ct e2)) ∧ I (done ++ [a]) e2) :
    ∃ e', forLoop g b (full.map enc) e = some (.nx e') ∧ I full e' := by
  have key : ∀ (l done : List α) (e : En), full = done ++ l → I done e → ∃ e', forLoop g b (l.map enc) e = some (.nx e') ∧ I full e' := by
    intro l
    induction l with
    | nil => intro done e hf hi; exact ⟨e, rfl, by rw [hf, List.append_nil]; exact hi⟩
    | cons a l ih =>
      intro done e hf hi
      obtain ⟨e1, e2, h1, h2, h3⟩ := H done a l e hf hi
      obtain ⟨e', h4, h5⟩ := ih (done ++ [a]) e2 (by rw [hf, List.append_assoc]; rfl) h3
      refine ⟨e', ?_, h5⟩
      rw [List.map_cons, forLoop, h1, Option.bind_some]
      rcases h2 with h2 | h2 <;> rw [h2, Option.bind_some] <;> exact h4
  exact key full [] e rfl h0
theorem len_flat {α β : Type} {f : α → List β} {c : Nat} : ∀ {l : List α}, (∀ a ∈ l, (f a).length ≤ c) → (l.flatMap f).length ≤ l.length * c
  | [], _ => Nat.zero_le _
  | a :: l, h => by
    have ih := len_flat (l := l) fun b hb => h b (List.mem_cons_of_mem _ hb)
    have h1 := h a List.mem_cons_self
    rw [List.flatMap_cons, List.length_append, List.length_cons, Nat.succ_mul]
    omega
end Mini
namespace Mini
open PySem
/-- a comprehension without a test -/
theorem lcX {α : Type} (enc : α → D) (l : List α) (h : α → D) {it : IF} {g : GF} {f : EF} {vs : List Nat} {e e' e'' : En} {ds : List D} (hit : it e = some (l.map enc, e')) (hds : l.map h = ds) (hb : En.back e' (e'.wipe vs) vs = e'')
    (H : ∀ a ∈ l, ∃ e1 r e3, g (enc a) (e'.wipe vs) = some e1 ∧ f e1 = some (r, e3) ∧ r.st = some (h a) ∧ e3.wipe vs = e'.wipe vs) : e_lc it g t_yes f vs e = some (.new (.lst ds), e'') := by
  subst hds hb
  exact lcM enc h hit H
/-- a comprehension with a test -/
theorem lcY {α : Type} (enc : α → D) (l : List α) (p : α → Bool) (h : α → D) {it : IF} {g : GF} {t : TF} {f : EF} {vs : List Nat} {e e' e'' : En} {ds : List D} (hit : it e = some (l.map enc, e')) (hds : (l.filter p).map h = ds) (hb : En.back e' (e'.wipe vs) vs = e'')
    (H : ∀ a ∈ l, ∃ e1 e2, g (enc a) (e'.wipe vs) = some e1 ∧ t e1 = some (p a, e2) ∧ (p a = true → ∃ r e3, f e2 = some (r, e3) ∧ r.st = some (h a) ∧ e3.wipe vs = e'.wipe vs) ∧ (p a = false → e2.wipe vs = e'.wipe vs)) : e_lc it g t f vs e = some (.new (.lst ds), e'') := by
  subst hds hb
  exact lcF enc p h hit H
end Mini
namespace Mini
open PySem
theorem sub_i (a b : Int) : o_sub (.int a) (.int b) = some (.val (.int (a - b))) := rfl
theorem lt_i (a b : Int) : o_lt (.int a) (.int b) = some (.val (.bl (decide (a < b)))) := rfl
theorem le_i (a b : Int) : o_le (.int a) (.int b) = some (.val (.bl (decide (a ≤ b)))) := rfl
theorem gt_i (a b : Int) : o_gt (.int a) (.int b) = some (.val (.bl (decide (b < a)))) := rfl
theorem ge_i (a b : Int) : o_ge (.int a) (.int b) = some (.val (.bl (decide (b ≤ a)))) := rfl
theorem neg_i (a : Int) : o_neg (.int a) = some (.val (.int (-a))) := rfl
theorem int_i (a : Int) : o_int [.int a] = some (.val (.int a)) := rfl
theorem int_b (a : Bool) : o_int [.bl a] = some (.val (.int (if a then 1 else 0))) := rfl
theorem abs_i (a : Int) : o_abs [.int a] = some (.val (.int (if a < 0 then -a else a))) := rfl
end Mini
namespace Mini
open PySem
theorem ne_i (a b : Int) : o_ne (.int a) (.int b) = some (.val (.bl (!(a == b)))) := rfl
theorem eq_i (a b : Int) : o_eq (.int a) (.int b) = some (.val (.bl (a == b))) := rfl
theorem ne_s (a b : Str) : o_ne (.str a) (.str b) = some (.val (.bl (!(a == b)))) := rfl
theorem eq_s (a b : Str) : o_eq (.str a) (.str b) = some (.val (.bl (a == b))) := rfl
theorem ne_b (a b : Bool) : o_ne (.bl a) (.bl b) = some (.val (.bl (!(a == b)))) := rfl
theorem eq_b (a b : Bool) : o_eq (.bl a) (.bl b) = some (.val (.bl (a == b))) := rfl
end Mini
namespace Mini
open PySem
theorem all_scal : ∀ ws : List Str, (ws.map D.str).all D.scal = true
  | [] => rfl
  | w :: ws => by rw [List.map_cons, List.all_cons, all_scal ws]; rfl
theorem inB_str (x : Str) : ∀ ws : List Str, inB (.str x) (ws.map D.str) = ws.any (· == x)
  | [] => rfl
  | w :: ws => by
    have ih := inB_str x ws
    unfold inB at ih ⊢
    rw [List.map_cons, List.any_cons, List.any_cons, ih]
    rfl
theorem in_strs (x : Str) (ws : List Str) : o_in (.str x) (.lst (ws.map .str)) = some (.val (.bl (ws.any (· == x)))) := by
  simp only [o_in, o_inb, all_scal, inB_str]
  rfl
theorem nin_strs (x : Str) (ws : List Str) : o_nin (.str x) (.lst (ws.map .str)) = some (.val (.bl (!ws.any (· == x)))) := by
  simp only [o_nin, o_inb, all_scal, inB_str]
  rfl
theorem pyOks_str (k : Nat) : ∀ {ws : List Str}, (∀ s ∈ ws, strFine s = true) → D.pyOks (ws.map .str) k = true
  | [], _ => by simp [D.pyOks]
  | w :: ws, h => by
    rw [List.map_cons, D.pyOks, pyOks_str k fun s hs => h s (List.mem_cons_of_mem _ hs)]
    simp [D.pyOk, h w List.mem_cons_self]
theorem eqvs_rep (x : Str) : ∀ ws : List Str, D.eqvs (ws.map .str) (List.replicate ws.length (.str x)) = ws.all (· == x)
  | [] => by simp [D.eqvs]
  | w :: ws => by
    rw [List.map_cons, List.length_cons, List.replicate_succ, D.eqvs, List.all_cons]
    simp only [eqvs_rep x ws]
    rfl
theorem flat_rep (x : D) : ∀ n : Nat, (List.replicate n [x]).flatten = List.replicate n x
  | 0 => rfl
  | n + 1 => by rw [List.replicate_succ, List.replicate_succ, List.flatten_cons, flat_rep x n]; rfl
theorem mul_def (a : List D) (k : Int) : o_mul (.lst a) (.int k) = guardR (i64 k && decide (a.length * k.toNat ≤ SZ)) (.new (.lst (repL k a))) := rfl
theorem mul_ok {n k : Nat} (hk : k = 1) (h : n ≤ SZ) : (i64 (n : Int) && decide (k * (n : Int).toNat ≤ SZ)) = true := by
  have h2 := h
  rw [sz_val] at h2
  rw [Bool.and_eq_true, i64_def]
  refine ⟨decide_eq_true (by omega), decide_eq_true ?_⟩
  rw [Int.toNat_natCast, hk, Nat.one_mul]
  exact h
theorem mul_rep (x : Str) (n : Nat) (h : n ≤ SZ) : o_mul (.lst [.str x]) (.int (n : Int)) = some (.new (.lst (List.replicate n (.str x)))) := by
  have e : repL (n : Int) [D.str x] = List.replicate n (.str x) := by
    unfold repL
    rw [Int.toNat_natCast, flat_rep]
  rw [mul_def, mul_ok (k := [D.str x].length) List.length_singleton h, e]
  exact if_pos rfl
theorem eq_rep (x : Str) (ws : List Str) (h : ∀ s ∈ ws, strFine s = true) (hx : strFine x = true) : o_eq (.lst (ws.map .str)) (.lst (List.replicate ws.length (.str x))) = some (.val (.bl (ws.all (· == x)))) := by
  have e1 : D.pyOk (.lst (ws.map .str)) 9 = true := by
    show D.pyOks (ws.map .str) 8 = true
    exact pyOks_str 8 h
  have e2 : D.pyOk (.lst (List.replicate ws.length (.str x))) 9 = true := by
    show D.pyOks (List.replicate ws.length (.str x)) 8 = true
    rw [show List.replicate ws.length (D.str x) = (List.replicate ws.length x).map .str by rw [List.map_replicate]]
    exact pyOks_str 8 fun s hs => by rw [(List.mem_replicate.mp hs).2]; exact hx
  have e3 : scal2 (.lst (ws.map .str)) (.lst (List.replicate ws.length (.str x))) = false := rfl
  have e4 : D.eqv (.lst (ws.map .str)) (.lst (List.replicate ws.length (.str x))) = ws.all (· == x) := by
    show D.eqvs (ws.map .str) (List.replicate ws.length (.str x)) = _
    exact eqvs_rep x ws
  simp only [o_eq, o_eqb, e1, e2, e3, e4]
  rfl
theorem rng_map (lo : Int) (n : Nat) : rngL lo n = ((List.range n).map fun i => lo + (i : Nat)).map D.int := by
  unfold rngL
  rw [List.map_map]
  rfl
end Mini
namespace Mini
open PySem
theorem mod_i (a : Int) {b : Int} (h : 0 < b) : o_mod (.int a) (.int b) = some (.val (.int (a % b))) := by
  show guardR (decide (0 < b)) _ = _
  rw [decide_eq_true h]
  rfl
theorem fdiv_i (a : Int) {b : Int} (h : 0 < b) (h2 : b < 1073741824) : o_fdiv (.int a) (.int b) = some (.val (.int (a / b))) := by
  show guardR (fdOk b) _ = _
  rw [fdOk_def, decide_eq_true ⟨h, h2⟩]
  rfl
theorem mul_i1 {a : Int} (b : Int) (h : -(2 ^ 64) < a) (h2 : a < 2 ^ 64) : o_mulI (.int a) (.int b) = some (.val (.int (a * b))) := by
  show guardR (mulOk a b) _ = _
  have e : mulOk a b = true := by rw [mulOk_def, mulOk0, decide_eq_true h, decide_eq_true h2]; rfl
  rw [e]
  rfl
theorem mul_i2 (a : Int) {b : Int} (h : -(2 ^ 64) < b) (h2 : b < 2 ^ 64) : o_mulI (.int a) (.int b) = some (.val (.int (a * b))) := by
  show guardR (mulOk a b) _ = _
  have e : mulOk a b = true := by rw [mulOk_def, mulOk0, decide_eq_true h, decide_eq_true h2]; simp
  rw [e]
  rfl
theorem pow_i {a n : Int} (h0 : 0 ≤ n) (h1 : n ≤ 1000) (h2 : a.natAbs < 2 ^ 1000) : o_pow (.int a) (.int n) = some (.val (.int (a ^ n.toNat))) := by
  show guardR (powOk a n) _ = _
  rw [powOk_def, decide_eq_true ⟨h0, h1, h2⟩]
  rfl
theorem big100 {a : Int} (h0 : 0 ≤ a) (h : a < 2 ^ 100) : a.natAbs < 2 ^ 1000 := by
  have h1 : a.natAbs < 2 ^ 100 := by omega
  exact Nat.lt_of_lt_of_le h1 (Nat.pow_le_pow_right (by decide) (by decide))
/-- a pot that is drawn from: a, b, the count at most n -/
def Pot (n : Int) (p : D) : Prop := ∃ a b c : Int, p = .lst [.int a, .int b, .int c] ∧ 0 ≤ a ∧ 0 ≤ b ∧ b < 2305843009213693952 ∧ 0 ≤ c ∧ c ≤ n
end Mini
namespace Mini
open PySem
theorem flatIn_l (ds : List D) : D.flatIn (.lst ds) = D.flats ds := rfl
theorem Pot.flat {n : Int} {p : D} (h : Pot n p) : p.flatIn = true := by
  obtain ⟨a, b, c, rfl, _⟩ := h
  rfl
theorem Pot.mono {n m : Int} {p : D} (h : Pot n p) (hm : n ≤ m) : Pot m p := by
  obtain ⟨a, b, c, e, h1, h2, h3, h4, h5⟩ := h
  exact ⟨a, b, c, e, h1, h2, h3, h4, by omega⟩
end Mini
namespace Mini
open PySem
/-- the script, or a list as it -/
def IsSq (s : D) (ds : List D) : Prop := s = .scr ds ∨ s = .lst ds
theorem sq_len {s : D} {ds : List D} (h : IsSq s ds) : o_len [s] = some (.val (.int ds.length)) := by rcases h with rfl | rfl <;> rfl
theorem sq_ix {s : D} {ds : List D} {k : Nat} {d : D} (h : IsSq s ds) (e : ds[k]? = some d) : o_ix s (.int (k : Int)) = some (.val d) := by
  have hk := (List.getElem?_eq_some_iff.mp e).1
  rcases h with rfl | rfl <;> simp only [o_ix, D.int?, Option.bind_some, ixP_nat hk, e]
theorem sq_cut {s : D} {ds : List D} (h : IsSq s ds) (lo hi : Option Int) : o_cut s lo hi = some (.new (.lst (cutP ds lo hi))) := by rcases h with rfl | rfl <;> rfl
theorem sum_l (l : List Int) : o_sum [.lst (l.map .int)] = some (.val (.int l.sum)) := by simp only [o_sum, D.seq?, Option.bind_some, ints_map]
end Mini
namespace Mini
open PySem
theorem cut_ft (l : List D) {b e : Nat} (h1 : b ≤ e) (h2 : e ≤ l.length) : cutP l (some (b : Int)) (some (e : Int)) = (l.drop b).take (e - b) := by
  unfold cutP sIxP
  simp only [Int.toNat_natCast]
  rw [if_neg (by omega), if_neg (by omega), Nat.min_eq_left (by omega), Nat.min_eq_left (by omega)]
theorem ix_last {l : List D} {d : D} : o_ix (.lst (l ++ [d])) (.int (-1)) = some (.val d) := by
  have e : ixP (l ++ [d]).length (-1) = some l.length := by
    unfold ixP
    rw [if_neg (by decide), List.length_append, List.length_singleton, if_pos (by omega)]
    congr 1
    omega
  simp only [o_ix, D.int?, Option.bind_some, e, List.getElem?_append_right (Nat.le_refl _), Nat.sub_self, List.getElem?_cons_zero]
end Mini
namespace Mini
open PySem
theorem pyOks_int (k : Nat) : ∀ l : List Int, D.pyOks (l.map .int) k = true
  | [] => by simp [D.pyOks]
  | n :: l => by
    rw [List.map_cons, D.pyOks, pyOks_int k l]
    simp [D.pyOk]
theorem ne_nil (l : List Int) : o_ne (.lst (l.map .int)) (.lst []) = some (.val (.bl (!l.isEmpty))) := by
  have e1 : D.pyOk (.lst (l.map .int)) 9 = true := pyOks_int 8 l
  have e2 : D.pyOk (.lst []) 9 = true := rfl
  have e3 : scal2 (.lst (l.map .int)) (.lst []) = false := rfl
  have e4 : D.eqv (.lst (l.map .int)) (.lst []) = l.isEmpty := by cases l <;> rfl
  simp only [o_ne, o_eqb, e1, e2, e3, e4]
  rfl
theorem sorted_l (l : List Int) : o_sorted [.lst (l.map .int)] = some (.new (.lst ((sortI l).map .int))) := by simp only [o_sorted, D.lst?, Option.bind_some, ints_map]
end Mini
namespace Mini
open PySem
theorem idx_int {x : Int} : ∀ {l : List Int} (n : Nat), x ∈ l → ∃ j, idxOf? (.int x) (l.map .int) n = some (n + j) ∧ l[j]? = some x
  | [], _, h => by cases h
  | a :: l, n, h => by
    rw [List.map_cons, idxOf?]
    by_cases z : a = x
    · exact ⟨0, by rw [if_pos (by rw [z]; show (x == x) = true; exact beq_self_eq_true x)]; rfl, by rw [z]; rfl⟩
    · have hm : x ∈ l := (List.mem_cons.mp h).resolve_left fun e => z e.symm
      obtain ⟨j, h1, h2⟩ := idx_int (n + 1) hm
      refine ⟨j + 1, ?_, h2⟩
      rw [if_neg (by show ¬ (a == x) = true; rw [beq_iff_eq]; exact z), h1]
      congr 1
      omega
theorem scal_ints : ∀ l : List Int, (l.map D.int).all D.scal = true
  | [] => rfl
  | n :: l => by rw [List.map_cons, List.all_cons, scal_ints l]; rfl
theorem index_l {x : Int} {l : List Int} (h : x ∈ l) : ∃ j : Nat, o_index (.lst (l.map .int)) [.int x] = some (.val (.int (j : Int))) ∧ l[j]? = some x := by
  obtain ⟨j, h1, h2⟩ := idx_int 0 h
  refine ⟨j, ?_, h2⟩
  rw [Nat.zero_add] at h1
  have sc : (D.int x).scal = true := rfl
  simp only [o_index, D.lst?, Option.bind_some, sc, scal_ints, and_self, if_true, h1]
end Mini
namespace Mini
open PySem
abbrev rowD (r : List Int) : D := .tup (r.map .int)
theorem rows_map : ∀ rs : List (List Int), D.rows? (rs.map rowD) = some rs
  | [] => rfl
  | r :: rs => by rw [List.map_cons, D.rows?, D.tup?, Option.bind_some, ints_map, Option.bind_some, rows_map rs]; rfl
def hd : List Int → Int
  | [] => 0
  | a :: _ => a
theorem rowLt_hd {a b : List Int} (ha : a ≠ []) (hb : b ≠ []) : (rowLt a b = true → hd a ≤ hd b) ∧ (rowLt a b = false → hd b ≤ hd a) := by
  cases a with
  | nil => exact absurd rfl ha
  | cons x a =>
    cases b with
    | nil => exact absurd rfl hb
    | cons y b =>
      unfold rowLt
      constructor
      · intro h
        have h := of_decide_eq_true h
        rw [List.cons_lt_cons_iff] at h
        show x ≤ y
        omega
      · intro h
        have h := of_decide_eq_false h
        rw [List.cons_lt_cons_iff] at h
        show y ≤ x
        omega
theorem maxR_hd : ∀ (rs : List (List Int)) (r : List Int), r ≠ [] → (∀ x ∈ rs, x ≠ []) → ∃ m, rs.foldl (fun a y => if rowLt a y = true then y else a) r = m ∧ m ∈ r :: rs ∧ ∀ x ∈ r :: rs, hd x ≤ hd m
  | [], r, _, _ => ⟨r, rfl, List.mem_cons_self, fun x hx => by rw [List.mem_singleton.mp hx]; exact Int.le_refl _⟩
  | y :: rs, r, hr, h => by
    have hy := h y List.mem_cons_self
    obtain ⟨q1, q2⟩ := rowLt_hd hr hy
    rw [List.foldl_cons]
    cases z : rowLt r y with
    | true =>
      obtain ⟨m, e, h1, h2⟩ := maxR_hd rs y hy fun x hx => h x (List.mem_cons_of_mem _ hx)
      refine ⟨m, by simpa using e, List.mem_cons_of_mem _ h1, fun x hx => ?_⟩
      rcases List.mem_cons.mp hx with e | hx
      · rw [e]; exact Int.le_trans (q1 z) (h2 y List.mem_cons_self)
      · exact h2 x hx
    | false =>
      obtain ⟨m, e, h1, h2⟩ := maxR_hd rs r hr fun x hx => h x (List.mem_cons_of_mem _ hx)
      refine ⟨m, by simpa using e, ?_, fun x hx => ?_⟩
      · rcases List.mem_cons.mp h1 with e | h1
        · rw [e]; exact List.mem_cons_self
        · exact List.mem_cons_of_mem _ (List.mem_cons_of_mem _ h1)
      · rcases List.mem_cons.mp hx with e | hx
        · rw [e]; exact h2 r List.mem_cons_self
        · rcases List.mem_cons.mp hx with e | hx
          · rw [e]; exact Int.le_trans (q2 z) (h2 r List.mem_cons_self)
          · exact h2 x (List.mem_cons_of_mem _ hx)
theorem max_rows {rs : List (List Int)} (h0 : rs ≠ []) (h : ∀ x ∈ rs, x ≠ []) : ∃ m, o_max [.lst (rs.map rowD)] = some (.val (rowD m)) ∧ m ∈ rs ∧ ∀ x ∈ rs, hd x ≤ hd m := by
  obtain ⟨r, rs, rfl⟩ := List.exists_cons_of_ne_nil h0
  obtain ⟨m, e, h1, h2⟩ := maxR_hd rs r (h r List.mem_cons_self) fun x hx => h x (List.mem_cons_of_mem _ hx)
  refine ⟨m, ?_, h1, h2⟩
  have e1 : D.ints? ((r :: rs).map rowD) = none := rfl
  simp only [o_max, D.seq?, Option.bind_some, e1, rows_map, maxR]
  rw [e]
def aT (l : List Int) (i : Int) : Int := l.getD i.toNat 0
theorem ixl_at {l : List Int} {i : Int} (h0 : 0 ≤ i) (h1 : i < l.length) : o_ix (.lst (l.map .int)) (.int i) = some (.val (.int (aT l i))) := by
  have hk : i.toNat < l.length := by omega
  have := ix_l (l := l.map D.int) (k := i.toNat) (d := .int l[i.toNat]) (by rw [List.getElem?_map, List.getElem?_eq_getElem hk]; rfl)
  rw [Int.toNat_of_nonneg h0] at this
  rw [this]
  unfold aT
  rw [List.getD_eq_getElem?_getD, List.getElem?_eq_getElem hk]
  rfl
theorem aT_nat {l : List Int} {i : Nat} {x : Int} (h : l[i]? = some x) : aT l (i : Int) = x := by
  unfold aT
  rw [Int.toNat_natCast, List.getD_eq_getElem?_getD, h]
  rfl
end Mini

/-! ## T56 -/
namespace G56
open PySem Mini
noncomputable section
/-! ### the pure terms -/
def B__law_cells_80 : SF :=
  (s_ret (e_lstR (it_r1 (e_call o_max (a_cons (e_c (.int 1)) (a_cons (e_call o_min (a_cons (e_v 1) (a_cons (e_call o_len (a_cons (e_v 0) a_nil)) a_nil))) a_nil))))))
def F__law_cells_80 := fn 2 2 B__law_cells_80
def B__law_pot_77 : SF :=
  (s_seq (s_set 2 (e_if (t_v (e_bin o_lt (e_v 1) (e_call o_len (a_cons (e_v 0) a_nil)))) (e_bin o_ix (e_v 0) (e_v 1)) (e_bin o_add (e_bin o_add (e_bin o_mod (e_call o_sum (a_cons (e_cut (e_v 0) p_no (p_e (e_c (.int 1)))) a_nil)) (e_c (.int 1000003))) (e_bin o_mulI (e_c (.int 59221)) (e_v 1))) (e_c (.int 61484))))) (s_seq (s_set 3 (e_bin o_mulI (e_bin o_mod (e_call o_int (a_cons (e_call o_abs (a_cons (e_v 2) a_nil)) a_nil)) (e_bin o_pow (e_bin o_pow (e_c (.int 10)) (e_c (.int 60))) (e_c (.int 5)))) (e_call o_int (a_cons (e_bin o_ge (e_call o_abs (a_cons (e_v 2) a_nil)) (e_bin o_pow (e_c (.int 10)) (e_c (.int 18)))) a_nil)))) (s_seq (s_set 4 (e_bin o_mod (e_call o_int (a_cons (e_v 2) a_nil)) (e_c (.int 2305843009213693951)))) (s_ret (e_lst (a_cons (e_v 3) (a_cons (e_bin o_mod (e_call o_int (a_cons (e_bin o_add (e_bin o_add (e_bin o_mulI (e_v 4) (e_c (.int 124217))) (e_bin o_mulI (e_bin o_mulI (e_c (.int 22456)) (e_v 1)) (e_v 1))) (e_c (.int 78742))) a_nil)) (e_c (.int 2305843009213693921))) (a_cons (e_c (.int 0)) a_nil))))))))
def F__law_pot_77 := fn 2 5 B__law_pot_77
def B__law_take_78 : SF :=
  (s_seq (s_if (t_v (e_bin o_gt (e_bin o_ix (e_o 0) (e_c (.int 0))) (e_c (.int 0)))) (s_seq (s_set 2 (e_bin o_mod (e_call o_int (a_cons (e_bin o_ix (e_o 0) (e_c (.int 0))) a_nil)) (e_v 1))) (s_seq (s_setix st_list 0 (e_c (.int 0)) (e_bin o_fdiv (e_bin o_ix (e_o 0) (e_c (.int 0))) (e_v 1))) (s_ret (e_v 2)))) s_nil) (s_seq (s_setix st_list 0 (e_c (.int 2)) (e_bin o_add (e_bin o_ix (e_o 0) (e_c (.int 2))) (e_c (.int 1)))) (s_seq (s_set 3 (e_bin o_ix (e_lst (a_cons (e_c (.int 2147483647)) (a_cons (e_c (.int 2147483629)) (a_cons (e_c (.int 2147483587)) (a_cons (e_c (.int 2147483579)) (a_cons (e_c (.int 2147483563)) a_nil)))))) (e_bin o_mod (e_call o_int (a_cons (e_bin o_ix (e_o 0) (e_c (.int 2))) a_nil)) (e_c (.int 5))))) (s_seq (s_set 4 (e_bin o_mod (e_call o_int (a_cons (e_bin o_pow (e_call o_int (a_cons (e_bin o_add (e_bin o_add (e_bin o_ix (e_o 0) (e_c (.int 1))) (e_bin o_mulI (e_bin o_mulI (e_c (.int 71943)) (e_bin o_ix (e_o 0) (e_c (.int 2)))) (e_bin o_ix (e_o 0) (e_c (.int 2))))) (e_c (.int 3131))) a_nil)) (e_c (.int 3))) a_nil)) (e_v 3))) (s_seq (s_set 4 (e_bin o_mod (e_call o_int (a_cons (e_bin o_mulI (e_v 4) (e_bin o_add (e_bin o_mod (e_call o_int (a_cons (e_v 4) a_nil)) (e_c (.int 42734))) (e_bin o_mulI (e_c (.int 3508)) (e_bin o_ix (e_o 0) (e_c (.int 2)))))) a_nil)) (e_c (.int 2305843009213693907)))) (s_ret (e_bin o_mod (e_call o_int (a_cons (e_bin o_fdiv (e_v 4) (e_c (.int 9973))) a_nil)) (e_v 1))))))))
def F__law_take_78 := fnM 2 5 B__law_take_78
def B__law_of_79 : SF :=
  (s_ret (e_bin o_ix (e_v 1) (e_callM F__law_take_78 0 (a_cons (e_call o_len (a_cons (e_v 1) a_nil)) a_nil))))
def F__law_of_79 := fnM 2 2 B__law_of_79
def B__law_bounds_81 : SF :=
  (s_seq (s_setO 3 (e_lst a_nil)) (s_seq (s_for (it_r1 (e_v 1)) (tg_n 4) (s_seq (s_set 5 (e_call o_int (a_cons (e_callM F__law_take_78 0 (a_cons (e_bin o_add (e_v 2) (e_c (.int 1))) a_nil)) a_nil))) (s_seq (s_set 6 (e_if (t_v (e_bin o_gt (e_callM F__law_take_78 0 (a_cons (e_c (.int 3)) a_nil)) (e_c (.int 0)))) (e_call o_int (a_cons (e_callM F__law_take_78 0 (a_cons (e_bin o_add (e_v 2) (e_c (.int 1))) a_nil)) a_nil)) (e_v 5))) (s_ex (e_meth m_append 3 (a_cons (e_tup (a_cons (e_call o_min (a_cons (e_v 5) (a_cons (e_v 6) a_nil))) (a_cons (e_call o_max (a_cons (e_v 5) (a_cons (e_v 6) a_nil))) a_nil))) a_nil)))))) (s_ret (e_call o_tuple (a_cons (e_o 3) a_nil)))))
def F__law_bounds_81 := fnM 3 7 B__law_bounds_81
def B_is_tuple_1 : SF :=
  (s_ret (e_and (e_call o_isi (a_cons (e_v 0) (a_cons (e_c (.ty "tuple")) a_nil))) (e_chain o_le o_le (e_v 1) (e_call o_len (a_cons (e_v 0) a_nil)) (e_v 2))))
def F_is_tuple_1 := fn 3 3 B_is_tuple_1
def B_is_whole_2 : SF :=
  (s_ret (e_and (e_call o_isi (a_cons (e_v 0) (a_cons (e_c (.ty "int")) a_nil))) (e_not (e_call o_isi (a_cons (e_v 0) (a_cons (e_c (.ty "bool")) a_nil))))))
def F_is_whole_2 := fn 1 1 B_is_whole_2
def B_is_integer_3 : SF :=
  (s_ret (e_and (e_call F_is_whole_2 (a_cons (e_v 0) a_nil)) (e_chain o_le o_le (e_v 1) (e_v 0) (e_v 2))))
def F_is_integer_3 := fn 3 3 B_is_integer_3
def B_is_bound_18 : SF :=
  (s_seq (s_if (t_or (t_not (t_v (e_call F_is_tuple_1 (a_cons (e_v 0) (a_cons (e_c (.int 2)) (a_cons (e_c (.int 2)) a_nil)))))) (t_not (t_v (e_call F_is_integer_3 (a_cons (e_bin o_ix (e_v 0) (e_c (.int 0))) (a_cons (e_c (.int 0)) (a_cons (e_c (.int 1000)) a_nil))))))) (s_ret (e_c (.bl false))) s_nil) (s_ret (e_call F_is_integer_3 (a_cons (e_bin o_ix (e_v 0) (e_c (.int 1))) (a_cons (e_bin o_ix (e_v 0) (e_c (.int 0))) (a_cons (e_c (.int 1000)) a_nil))))))
def F_is_bound_18 := fn 1 1 B_is_bound_18
def B_check_bounds_19 : SF :=
  (s_if (t_or (t_not (t_v (e_call F_is_tuple_1 (a_cons (e_v 0) (a_cons (e_c (.int 1)) (a_cons (e_c (.int 20)) a_nil)))))) (t_not (t_v (e_call o_all (a_cons (e_lc (it_e (e_v 0)) (tg_n 1) t_yes (e_call F_is_bound_18 (a_cons (e_v 1) a_nil)) [1]) a_nil))))) s_never s_nil)
def F_check_bounds_19 := fn 1 2 B_check_bounds_19
def B_others_of_21 : SF :=
  (s_ret (e_lstS (a_star (e_cut (e_v 0) p_no (p_e (e_v 1))) (a_star (e_cut (e_v 0) (p_e (e_bin o_add (e_v 1) (e_c (.int 1)))) p_no) a_nil))))
def F_others_of_21 := fn 2 2 B_others_of_21
def B_unevenness_22 : SF :=
  (s_seq (s_ex (e_call F_check_bounds_19 (a_cons (e_v 0) a_nil))) (s_seq (s_set 1 (e_bin o_sub (e_call o_max (a_cons (e_lc (it_e (e_v 0)) (tg_t [(tg_n 4), (tg_n 5)]) t_yes (e_v 4) [4, 5]) a_nil)) (e_call o_min (a_cons (e_lc (it_e (e_v 0)) (tg_t [(tg_n 4), (tg_n 5)]) t_yes (e_v 5) [4, 5]) a_nil)))) (s_seq (s_setO 2 (e_lst (a_cons (e_c (.int 0)) a_nil))) (s_seq (s_for (it_enum (e_v 0)) (tg_t [(tg_n 3), (tg_t [(tg_n 4), (tg_n 5)])]) (s_ex (e_meth m_extend 2 (a_cons (e_lc (it_e (e_call F_others_of_21 (a_cons (e_v 0) (a_cons (e_v 3) a_nil)))) (tg_n 6) t_yes (e_bin o_sub (e_v 5) (e_bin o_ix (e_v 6) (e_c (.int 0)))) [6]) a_nil)))) (s_ret (e_tup (a_cons (e_call o_max (a_cons (e_c (.int 0)) (a_cons (e_v 1) a_nil))) (a_cons (e_call o_max (a_cons (e_o 2) a_nil)) a_nil))))))))
def F_unevenness_22 := fn 1 7 B_unevenness_22
def B_even_23 : SF :=
  (s_seq (s_ex (e_call F_check_bounds_19 (a_cons (e_v 0) a_nil))) (s_seq (s_if (t_not (t_v (e_call F_is_integer_3 (a_cons (e_v 1) (a_cons (e_c (.int 0)) (a_cons (e_c (.int 1000)) a_nil)))))) s_never s_nil) (s_seq (s_tgt (tg_t [(tg_n 2), (tg_n 3)]) (e_call F_unevenness_22 (a_cons (e_v 0) a_nil))) (s_ret (e_if (t_v (e_bin o_le (e_v 3) (e_v 1))) (e_c (.str "sure")) (e_if (t_v (e_bin o_gt (e_v 2) (e_v 1))) (e_c (.str "never")) (e_c (.str "open"))))))))
def F_even_23 := fn 2 4 B_even_23
def B_is_row_50 : SF :=
  (s_ret (e_and (e_call F_is_tuple_1 (a_cons (e_v 0) (a_cons (e_c (.int 1)) (a_cons (e_c (.int 260)) a_nil)))) (e_call o_all (a_cons (e_lc (it_e (e_v 0)) (tg_n 1) t_yes (e_call F_is_integer_3 (a_cons (e_v 1) (a_cons (e_c (.int 0)) (a_cons (e_c (.int 1000)) a_nil)))) [1]) a_nil))))
def F_is_row_50 := fn 1 2 B_is_row_50
def B_check_row_52 : SF :=
  (s_if (t_not (t_v (e_call F_is_row_50 (a_cons (e_v 0) a_nil)))) s_never s_nil)
def F_check_row_52 := fn 1 1 B_check_row_52
def B_check_width_53 : SF :=
  (s_seq (s_ex (e_call F_check_row_52 (a_cons (e_v 0) a_nil))) (s_if (t_not (t_v (e_call F_is_integer_3 (a_cons (e_v 1) (a_cons (e_c (.int 0)) (a_cons (e_c (.int 1000)) a_nil)))))) s_never s_nil))
def F_check_width_53 := fn 2 2 B_check_width_53
def B_differ_54 : SF :=
  (s_seq (s_set 3 (e_cut (e_v 0) (p_e (e_v 1)) (p_e (e_v 2)))) (s_ret (e_bin o_sub (e_call o_max (a_cons (e_v 3) a_nil)) (e_call o_min (a_cons (e_v 3) a_nil)))))
def F_differ_54 := fn 3 4 B_differ_54
def B_fewest_parts_55 : SF :=
  (s_seq (s_ex (e_call F_check_width_53 (a_cons (e_v 0) (a_cons (e_v 1) a_nil)))) (s_seq (s_par2 2 3 true true (e_lst (a_cons (e_c (.int 0)) a_nil)) (e_lst a_nil)) (s_seq (s_for (it_r2 (e_c (.int 1)) (e_call o_len (a_cons (e_v 0) a_nil))) (tg_n 4) (s_if (t_v (e_bin o_gt (e_call F_differ_54 (a_cons (e_v 0) (a_cons (e_bin o_ix (e_o 2) (e_un o_neg (e_c (.int 1)))) (a_cons (e_bin o_add (e_v 4) (e_c (.int 1))) a_nil)))) (e_v 1))) (s_seq (s_ex (e_meth m_append 3 (a_cons (e_tup (a_cons (e_bin o_ix (e_o 2) (e_un o_neg (e_c (.int 1)))) (a_cons (e_v 4) a_nil))) a_nil))) (s_ex (e_meth m_append 2 (a_cons (e_v 4) a_nil)))) s_nil)) (s_ret (e_tup (a_cons (e_call o_tuple (a_cons (e_o 2) a_nil)) (a_cons (e_call o_tuple (a_cons (e_o 3) a_nil)) a_nil)))))))
def F_fewest_parts_55 := fn 2 5 B_fewest_parts_55
def B_least_width_56 : SF :=
  (s_seq (s_ex (e_call F_check_row_52 (a_cons (e_v 0) a_nil))) (s_seq (s_if (t_not (t_v (e_call F_is_integer_3 (a_cons (e_v 1) (a_cons (e_c (.int 1)) (a_cons (e_c (.int 260)) a_nil)))))) s_never s_nil) (s_seq (s_par2 2 3 false false (e_un o_neg (e_c (.int 1))) (e_bin o_sub (e_call o_max (a_cons (e_v 0) a_nil)) (e_call o_min (a_cons (e_v 0) a_nil)))) (s_seq (s_while (t_v (e_bin o_gt (e_bin o_sub (e_v 3) (e_v 2)) (e_c (.int 1)))) (s_seq (s_set 4 (e_bin o_fdiv (e_bin o_add (e_v 2) (e_v 3)) (e_c (.int 2)))) (s_if (t_v (e_bin o_le (e_call o_len (a_cons (e_bin o_ix (e_call F_fewest_parts_55 (a_cons (e_v 0) (a_cons (e_v 4) a_nil))) (e_c (.int 0))) a_nil)) (e_v 1))) (s_set 3 (e_v 4)) (s_set 2 (e_v 4))))) (s_ret (e_v 3))))))
def F_least_width_56 := fn 2 5 B_least_width_56
def B_is_sizes_32 : SF :=
  (s_ret (e_and (e_call F_is_tuple_1 (a_cons (e_v 0) (a_cons (e_c (.int 1)) (a_cons (e_c (.int 40)) a_nil)))) (e_call o_all (a_cons (e_lc (it_e (e_v 0)) (tg_n 1) t_yes (e_call F_is_integer_3 (a_cons (e_v 1) (a_cons (e_c (.int 0)) (a_cons (e_c (.int 1000)) a_nil)))) [1]) a_nil))))
def F_is_sizes_32 := fn 1 2 B_is_sizes_32
def B_check_sizes_33 : SF :=
  (s_if (t_not (t_v (e_call F_is_sizes_32 (a_cons (e_v 0) a_nil)))) s_never s_nil)
def F_check_sizes_33 := fn 1 1 B_check_sizes_33
def B_check_number_38 : SF :=
  (s_if (t_not (t_v (e_call F_is_integer_3 (a_cons (e_v 1) (a_cons (e_c (.int 1)) (a_cons (e_call o_len (a_cons (e_v 0) a_nil)) a_nil)))))) s_never s_nil)
def F_check_number_38 := fn 2 2 B_check_number_38
def B_rising_35 : SF :=
  (s_ret (e_sortRL (e_call o_len (a_cons (e_v 0) a_nil)) 0))
def F_rising_35 := fn 1 1 B_rising_35
def B_classes_of_36 : SF :=
  (s_seq (s_par3 2 3 4 false true true (e_call F_rising_35 (a_cons (e_v 0) a_nil)) (e_lst a_nil) (e_lst a_nil)) (s_seq (s_while (t_v (e_bin o_ne (e_v 2) (e_lst a_nil))) (s_seq (s_set 5 (e_bin o_ix (e_v 2) (e_c (.int 0)))) (s_seq (s_set 6 (e_lc (it_e (e_v 2)) (tg_n 7) (t_v (e_bin o_le (e_bin o_sub (e_bin o_ix (e_v 0) (e_v 7)) (e_bin o_ix (e_v 0) (e_v 5))) (e_v 1))) (e_v 7) [7])) (s_seq (s_ex (e_meth m_append 3 (a_cons (e_call o_tuple (a_cons (e_call o_sorted (a_cons (e_v 6) a_nil)) a_nil)) a_nil))) (s_seq (s_ex (e_meth m_append 4 (a_cons (e_v 5) a_nil))) (s_set 2 (e_cut (e_v 2) (p_e (e_call o_len (a_cons (e_v 6) a_nil))) p_no))))))) (s_ret (e_tup (a_cons (e_call o_tuple (a_cons (e_o 3) a_nil)) (a_cons (e_call o_tuple (a_cons (e_o 4) a_nil)) a_nil))))))
def F_classes_of_36 := fn 2 8 B_classes_of_36
def B_least_spread_39 : SF :=
  (s_seq (s_ex (e_call F_check_sizes_33 (a_cons (e_v 0) a_nil))) (s_seq (s_ex (e_call F_check_number_38 (a_cons (e_v 0) (a_cons (e_v 1) a_nil)))) (s_seq (s_par2 2 3 false false (e_c (.int 0)) (e_bin o_sub (e_call o_max (a_cons (e_v 0) a_nil)) (e_call o_min (a_cons (e_v 0) a_nil)))) (s_seq (s_while (t_v (e_bin o_lt (e_v 2) (e_v 3))) (s_seq (s_set 4 (e_bin o_fdiv (e_bin o_add (e_v 2) (e_v 3)) (e_c (.int 2)))) (s_seq (s_set 5 (e_bin o_le (e_call o_len (a_cons (e_bin o_ix (e_call F_classes_of_36 (a_cons (e_v 0) (a_cons (e_v 4) a_nil))) (e_c (.int 0))) a_nil)) (e_v 1))) (s_tgt (tg_t [(tg_n 2), (tg_n 3)]) (e_if (t_v (e_v 5)) (e_tup (a_cons (e_v 2) (a_cons (e_v 4) a_nil))) (e_tup (a_cons (e_bin o_add (e_v 4) (e_c (.int 1))) (a_cons (e_v 3) a_nil)))))))) (s_ret (e_tup (a_cons (e_v 2) (a_cons (e_bin o_ix (e_call F_classes_of_36 (a_cons (e_v 0) (a_cons (e_v 2) a_nil))) (e_c (.int 0))) a_nil))))))))
def F_least_spread_39 := fn 2 6 B_least_spread_39
def B_check_spread_34 : SF :=
  (s_if (t_not (t_v (e_call F_is_integer_3 (a_cons (e_v 0) (a_cons (e_c (.int 0)) (a_cons (e_c (.int 1000)) a_nil)))))) s_never s_nil)
def F_check_spread_34 := fn 1 1 B_check_spread_34
def B_fewest_classes_37 : SF :=
  (s_seq (s_ex (e_call F_check_sizes_33 (a_cons (e_v 0) a_nil))) (s_seq (s_ex (e_call F_check_spread_34 (a_cons (e_v 1) a_nil))) (s_ret (e_call F_classes_of_36 (a_cons (e_v 0) (a_cons (e_v 1) a_nil))))))
def F_fewest_classes_37 := fn 2 2 B_fewest_classes_37
def B__law_are_exact_right_86 : SF :=
  (s_seq (s_par2 2 3 false false (e_call o_tuple (a_cons (e_lc (it_e (e_v 0)) (tg_n 5) t_yes (e_tup (a_cons (e_v 5) (a_cons (e_v 5) a_nil))) [5]) a_nil)) (e_bin o_sub (e_call o_max (a_cons (e_v 0) a_nil)) (e_call o_min (a_cons (e_v 0) a_nil)))) (s_seq (s_if (t_or (t_v (e_bin o_ne (e_call F_unevenness_22 (a_cons (e_v 2) a_nil)) (e_tup (a_cons (e_v 3) (a_cons (e_v 3) a_nil))))) (t_v (e_bin o_ne (e_bin o_ix (e_call F_least_spread_39 (a_cons (e_v 0) (a_cons (e_c (.int 1)) a_nil))) (e_c (.int 0))) (e_v 3)))) (s_ret (e_c (.bl false))) s_nil) (s_seq (s_if (t_v (e_bin o_ne (e_call F_least_width_56 (a_cons (e_v 0) (a_cons (e_c (.int 1)) a_nil))) (e_v 3))) (s_ret (e_c (.bl false))) s_nil) (s_seq (s_set 4 (e_call F_even_23 (a_cons (e_v 2) (a_cons (e_v 1) a_nil)))) (s_seq (s_if (t_v (e_bin o_ne (e_v 4) (e_if (t_v (e_bin o_le (e_v 3) (e_v 1))) (e_c (.str "sure")) (e_c (.str "never"))))) (s_ret (e_c (.bl false))) s_nil) (s_seq (s_if (t_v (e_bin o_ne (e_bin o_eq (e_call o_len (a_cons (e_bin o_ix (e_call F_fewest_classes_37 (a_cons (e_v 0) (a_cons (e_v 1) a_nil))) (e_c (.int 0))) a_nil)) (e_c (.int 1))) (e_bin o_eq (e_v 4) (e_c (.str "sure"))))) (s_ret (e_c (.bl false))) s_nil) (s_ret (e_bin o_eq (e_bin o_eq (e_call o_len (a_cons (e_bin o_ix (e_call F_fewest_parts_55 (a_cons (e_v 0) (a_cons (e_v 1) a_nil))) (e_c (.int 0))) a_nil)) (e_c (.int 1))) (e_bin o_eq (e_v 4) (e_c (.str "sure")))))))))))
def F__law_are_exact_right_86 := fn 2 6 B__law_are_exact_right_86
def B__law_unevenness_82 : SF :=
  (s_seq (s_set 1 (e_bin o_sub (e_call o_max (a_cons (e_lc (it_e (e_v 0)) (tg_t [(tg_n 4), (tg_n 5)]) t_yes (e_v 4) [4, 5]) a_nil)) (e_call o_min (a_cons (e_lc (it_e (e_v 0)) (tg_t [(tg_n 4), (tg_n 5)]) t_yes (e_v 5) [4, 5]) a_nil)))) (s_seq (s_setO 2 (e_lst (a_cons (e_c (.int 0)) a_nil))) (s_seq (s_for (it_enum (e_v 0)) (tg_t [(tg_n 3), (tg_t [(tg_n 4), (tg_n 5)])]) (s_ex (e_meth m_extend 2 (a_cons (e_lc (it_enum (e_v 0)) (tg_t [(tg_n 6), (tg_n 7)]) (t_v (e_bin o_ne (e_v 6) (e_v 3))) (e_bin o_sub (e_v 5) (e_bin o_ix (e_v 7) (e_c (.int 0)))) [6, 7]) a_nil)))) (s_ret (e_tup (a_cons (e_call o_max (a_cons (e_c (.int 0)) (a_cons (e_v 1) a_nil))) (a_cons (e_call o_max (a_cons (e_o 2) a_nil)) a_nil)))))))
def F__law_unevenness_82 := fn 1 8 B__law_unevenness_82
def B_is_bounds_65 : SF :=
  (s_seq (s_if (t_or (t_not (t_v (e_call F_is_tuple_1 (a_cons (e_v 0) (a_cons (e_c (.int 1)) (a_cons (e_c (.int 260)) a_nil)))))) (t_not (t_v (e_call o_all (a_cons (e_lc (it_e (e_v 0)) (tg_n 3) t_yes (e_call F_is_tuple_1 (a_cons (e_v 3) (a_cons (e_c (.int 2)) (a_cons (e_c (.int 2)) a_nil)))) [3]) a_nil))))) (s_ret (e_c (.bl false))) s_nil) (s_seq (s_if (t_not (t_v (e_call o_all (a_cons (e_lc (it_e (e_v 0)) (tg_t [(tg_n 1), (tg_n 2)]) t_yes (e_call F_is_integer_3 (a_cons (e_v 1) (a_cons (e_c (.int 0)) (a_cons (e_c (.int 1000)) a_nil)))) [1, 2]) a_nil)))) (s_ret (e_c (.bl false))) s_nil) (s_ret (e_call o_all (a_cons (e_lc (it_e (e_v 0)) (tg_t [(tg_n 1), (tg_n 2)]) t_yes (e_call F_is_integer_3 (a_cons (e_v 2) (a_cons (e_v 1) (a_cons (e_c (.int 1000)) a_nil)))) [1, 2]) a_nil)))))
def F_is_bounds_65 := fn 1 4 B_is_bounds_65
def B_check_bounds_66 : SF :=
  (s_if (t_not (t_v (e_call F_is_bounds_65 (a_cons (e_v 0) a_nil)))) s_never s_nil)
def F_check_bounds_66 := fn 1 1 B_check_bounds_66
def B_is_band_43 : SF :=
  (s_seq (s_if (t_or (t_not (t_v (e_call F_is_tuple_1 (a_cons (e_v 0) (a_cons (e_c (.int 2)) (a_cons (e_c (.int 2)) a_nil)))))) (t_not (t_v (e_call F_is_integer_3 (a_cons (e_bin o_ix (e_v 0) (e_c (.int 0))) (a_cons (e_c (.int 0)) (a_cons (e_c (.int 1000)) a_nil))))))) (s_ret (e_c (.bl false))) s_nil) (s_ret (e_call F_is_integer_3 (a_cons (e_bin o_ix (e_v 0) (e_c (.int 1))) (a_cons (e_bin o_ix (e_v 0) (e_c (.int 0))) (a_cons (e_c (.int 1000)) a_nil))))))
def F_is_band_43 := fn 1 1 B_is_band_43
def B_check_band_44 : SF :=
  (s_if (t_not (t_v (e_call F_is_band_43 (a_cons (e_v 0) a_nil)))) s_never s_nil)
def F_check_band_44 := fn 1 1 B_check_band_44
def B_verdict_of_70 : SF :=
  (s_seq (s_if (t_v (e_call o_any (a_cons (e_lc (it_e (e_v 0)) (tg_t [(tg_n 2), (tg_n 3)]) t_yes (e_or (e_bin o_lt (e_v 3) (e_bin o_ix (e_v 1) (e_c (.int 0)))) (e_bin o_gt (e_v 2) (e_bin o_ix (e_v 1) (e_c (.int 1))))) [2, 3]) a_nil))) (s_ret (e_c (.str "never"))) s_nil) (s_ret (e_if (t_v (e_call o_all (a_cons (e_lc (it_e (e_v 0)) (tg_t [(tg_n 2), (tg_n 3)]) t_yes (e_and (e_bin o_le (e_bin o_ix (e_v 1) (e_c (.int 0))) (e_v 2)) (e_bin o_le (e_v 3) (e_bin o_ix (e_v 1) (e_c (.int 1))))) [2, 3]) a_nil))) (e_c (.str "sure")) (e_c (.str "open")))))
def F_verdict_of_70 := fn 2 4 B_verdict_of_70
def B_even_71 : SF :=
  (s_seq (s_ex (e_call F_check_bounds_66 (a_cons (e_v 0) a_nil))) (s_seq (s_ex (e_call F_check_band_44 (a_cons (e_v 1) a_nil))) (s_ret (e_call F_verdict_of_70 (a_cons (e_v 0) (a_cons (e_v 1) a_nil))))))
def F_even_71 := fn 2 2 B_even_71
def B__law_word_83 : SF :=
  (s_ret (e_if (t_v (e_bin o_in (e_c (.str "sure")) (e_v 0))) (e_c (.str "sure")) (e_if (t_v (e_bin o_eq (e_v 0) (e_bin o_mul (e_lst (a_cons (e_c (.str "never")) a_nil)) (e_call o_len (a_cons (e_v 0) a_nil))))) (e_c (.str "never")) (e_c (.str "open")))))
def F__law_word_83 := fn 1 1 B__law_word_83
def B__law_are_bands_right_84 : SF :=
  (s_seq (s_set 2 (e_call F_even_23 (a_cons (e_v 0) (a_cons (e_v 1) a_nil)))) (s_seq (s_set 3 (e_lc (it_e (e_v 0)) (tg_t [(tg_n 5), (tg_n 6)]) t_yes (e_v 5) [5, 6])) (s_seq (s_setO 4 (e_lst a_nil)) (s_seq (s_for (it_r2 (e_call o_max (a_cons (e_c (.int 0)) (a_cons (e_bin o_sub (e_call o_min (a_cons (e_v 3) a_nil)) (e_v 1)) a_nil))) (e_bin o_add (e_call o_min (a_cons (e_bin o_sub (e_c (.int 1000)) (e_v 1)) (a_cons (e_call o_max (a_cons (e_v 3) a_nil)) a_nil))) (e_c (.int 1)))) (tg_n 5) (s_ex (e_meth m_append 4 (a_cons (e_call F_even_71 (a_cons (e_v 0) (a_cons (e_tup (a_cons (e_v 5) (a_cons (e_bin o_add (e_v 5) (e_v 1)) a_nil))) a_nil))) a_nil)))) (s_seq (s_if (t_and (t_v (e_bin o_in (e_c (.str "sure")) (e_o 4))) (t_v (e_bin o_ne (e_v 2) (e_c (.str "sure"))))) (s_ret (e_c (.bl false))) s_nil) (s_seq (s_if (t_v (e_bin o_ne (e_bin o_eq (e_v 2) (e_c (.str "never"))) (e_bin o_eq (e_o 4) (e_bin o_mul (e_lst (a_cons (e_c (.str "never")) a_nil)) (e_call o_len (a_cons (e_o 4) a_nil)))))) (s_ret (e_c (.bl false))) s_nil) (s_ret (e_or (e_bin o_eq (e_v 2) (e_call F__law_word_83 (a_cons (e_o 4) a_nil))) (e_and (e_bin o_eq (e_v 2) (e_c (.str "sure"))) (e_and (e_bin o_nin (e_c (.str "sure")) (e_o 4)) (e_bin o_gt (e_call o_len (a_cons (e_v 0) a_nil)) (e_c (.int 0)))))))))))))
def F__law_are_bands_right_84 := fn 2 7 B__law_are_bands_right_84
def B_why_even_27 : SF :=
  (s_seq (s_set 2 (e_call F_even_23 (a_cons (e_v 0) (a_cons (e_v 1) a_nil)))) (s_seq (s_if (t_v (e_bin o_eq (e_v 2) (e_c (.str "sure")))) (s_ret (e_tup (a_cons (e_c (.str "sure")) a_nil))) s_nil) (s_seq (s_tgt (tg_t [(tg_n 3), (tg_n 4)]) (e_tup (a_cons (e_lc (it_e (e_v 0)) (tg_t [(tg_n 13), (tg_n 14)]) t_yes (e_v 13) [13, 14]) (a_cons (e_lc (it_e (e_v 0)) (tg_t [(tg_n 13), (tg_n 14)]) t_yes (e_v 14) [13, 14]) a_nil)))) (s_seq (s_if (t_v (e_bin o_eq (e_v 2) (e_c (.str "never")))) (s_ret (e_tup (a_cons (e_c (.str "never")) (a_cons (e_bm o_index (e_v 3) (a_cons (e_call o_max (a_cons (e_v 3) a_nil)) a_nil)) (a_cons (e_bm o_index (e_v 4) (a_cons (e_call o_min (a_cons (e_v 4) a_nil)) a_nil)) a_nil))))) s_nil) (s_seq (s_set 5 (e_if (t_v (e_bin o_ge (e_call o_max (a_cons (e_v 3) a_nil)) (e_call o_min (a_cons (e_v 4) a_nil)))) (e_call o_max (a_cons (e_v 3) a_nil)) (e_call o_min (a_cons (e_v 4) a_nil)))) (s_seq (s_set 6 (e_call o_tuple (a_cons (e_lc (it_e (e_v 0)) (tg_t [(tg_n 13), (tg_n 14)]) t_yes (e_call o_min (a_cons (e_call o_max (a_cons (e_v 5) (a_cons (e_v 13) a_nil))) (a_cons (e_v 14) a_nil))) [13, 14]) a_nil))) (s_seq (s_setO 7 (e_lst a_nil)) (s_seq (s_for (it_r1 (e_call o_len (a_cons (e_v 0) a_nil))) (tg_n 8) (s_ex (e_meth m_extend 7 (a_cons (e_lc (it_r1 (e_call o_len (a_cons (e_v 0) a_nil))) (tg_n 10) (t_v (e_bin o_ne (e_v 10) (e_v 8))) (e_tup (a_cons (e_bin o_sub (e_bin o_ix (e_v 4) (e_v 10)) (e_bin o_ix (e_v 3) (e_v 8))) (a_cons (e_v 8) (a_cons (e_v 10) a_nil)))) [10]) a_nil)))) (s_seq (s_tgt (tg_t [(tg_n 9), (tg_n 8), (tg_n 10)]) (e_call o_max (a_cons (e_o 7) a_nil))) (s_seq (s_set 11 (e_lc (it_r1 (e_call o_len (a_cons (e_v 0) a_nil))) (tg_n 12) t_yes (e_if (t_v (e_bin o_eq (e_v 12) (e_v 10))) (e_bin o_ix (e_v 4) (e_v 12)) (e_bin o_ix (e_v 3) (e_v 12))) [12])) (s_ret (e_tup (a_cons (e_c (.str "open")) (a_cons (e_v 6) (a_cons (e_call o_tuple (a_cons (e_v 11) a_nil)) a_nil)))))))))))))))
def F_why_even_27 := fn 2 15 B_why_even_27
def B_even_paper_73 : SF :=
  (s_seq (s_set 2 (e_call F_even_71 (a_cons (e_v 0) (a_cons (e_v 1) a_nil)))) (s_seq (s_if (t_v (e_bin o_eq (e_v 2) (e_c (.str "sure")))) (s_ret (e_tup (a_cons (e_c (.str "sure")) a_nil))) s_nil) (s_seq (s_if (t_v (e_bin o_eq (e_v 2) (e_c (.str "never")))) (s_ret (e_tup (a_cons (e_c (.str "never")) (a_cons (e_bin o_ix (e_lc (it_enum (e_v 0)) (tg_t [(tg_n 7), (tg_t [(tg_n 5), (tg_n 6)])]) (t_or (t_v (e_bin o_lt (e_v 6) (e_bin o_ix (e_v 1) (e_c (.int 0))))) (t_v (e_bin o_gt (e_v 5) (e_bin o_ix (e_v 1) (e_c (.int 1)))))) (e_v 7) [7, 5, 6]) (e_c (.int 0))) a_nil)))) s_nil) (s_seq (s_set 3 (e_call o_tuple (a_cons (e_lc (it_e (e_v 0)) (tg_t [(tg_n 5), (tg_n 6)]) t_yes (e_call o_max (a_cons (e_v 5) (a_cons (e_bin o_ix (e_v 1) (e_c (.int 0))) a_nil))) [5, 6]) a_nil))) (s_seq (s_set 4 (e_call o_tuple (a_cons (e_lc (it_e (e_v 0)) (tg_t [(tg_n 5), (tg_n 6)]) t_yes (e_if (t_v (e_bin o_gt (e_v 6) (e_bin o_ix (e_v 1) (e_c (.int 1))))) (e_v 6) (e_v 5)) [5, 6]) a_nil))) (s_ret (e_tup (a_cons (e_c (.str "open")) (a_cons (e_v 3) (a_cons (e_v 4) a_nil))))))))))
def F_even_paper_73 := fn 2 8 B_even_paper_73
def B_shows_even_25 : SF :=
  (s_seq (s_set 3 (e_call F_even_23 (a_cons (e_v 0) (a_cons (e_v 1) a_nil)))) (s_seq (s_if (t_or (t_not (t_v (e_call o_isi (a_cons (e_v 2) (a_cons (e_c (.ty "tuple")) a_nil))))) (t_or (t_v (e_bin o_eq (e_v 2) (e_tup a_nil))) (t_or (t_not (t_v (e_call o_isi (a_cons (e_bin o_ix (e_v 2) (e_c (.int 0))) (a_cons (e_c (.ty "str")) a_nil))))) (t_v (e_bin o_ne (e_bin o_ix (e_v 2) (e_c (.int 0))) (e_v 3)))))) (s_ret (e_c (.bl false))) s_nil) (s_seq (s_if (t_v (e_bin o_eq (e_v 3) (e_c (.str "sure")))) (s_ret (e_bin o_eq (e_call o_len (a_cons (e_v 2) a_nil)) (e_c (.int 1)))) s_nil) (s_seq (s_if (t_v (e_bin o_eq (e_v 3) (e_c (.str "never")))) (s_seq (s_if (t_or (t_v (e_bin o_ne (e_call o_len (a_cons (e_v 2) a_nil)) (e_c (.int 3)))) (t_not (t_v (e_call o_all (a_cons (e_lc (it_e (e_cut (e_v 2) (p_e (e_c (.int 1))) p_no)) (tg_n 8) t_yes (e_call F_is_integer_3 (a_cons (e_v 8) (a_cons (e_c (.int 0)) (a_cons (e_bin o_sub (e_call o_len (a_cons (e_v 0) a_nil)) (e_c (.int 1))) a_nil)))) [8]) a_nil))))) (s_ret (e_c (.bl false))) s_nil) (s_ret (e_bin o_gt (e_bin o_sub (e_bin o_ix (e_bin o_ix (e_v 0) (e_bin o_ix (e_v 2) (e_c (.int 1)))) (e_c (.int 0))) (e_bin o_ix (e_bin o_ix (e_v 0) (e_bin o_ix (e_v 2) (e_c (.int 2)))) (e_c (.int 1)))) (e_v 1)))) s_nil) (s_seq (s_if (t_or (t_v (e_bin o_ne (e_call o_len (a_cons (e_v 2) a_nil)) (e_c (.int 3)))) (t_not (t_v (e_call o_all (a_cons (e_lc (it_e (e_cut (e_v 2) (p_e (e_c (.int 1))) p_no)) (tg_n 4) t_yes (e_call F_is_tuple_1 (a_cons (e_v 4) (a_cons (e_call o_len (a_cons (e_v 0) a_nil)) (a_cons (e_call o_len (a_cons (e_v 0) a_nil)) a_nil)))) [4]) a_nil))))) (s_ret (e_c (.bl false))) s_nil) (s_seq (s_for (it_e (e_cut (e_v 2) (p_e (e_c (.int 1))) p_no)) (tg_n 4) (s_if (t_not (t_v (e_call o_all (a_cons (e_lc (it_zip (e_v 4) (e_v 0)) (tg_t [(tg_n 5), (tg_t [(tg_n 6), (tg_n 7)])]) t_yes (e_call F_is_integer_3 (a_cons (e_v 5) (a_cons (e_v 6) (a_cons (e_v 7) a_nil)))) [5, 6, 7]) a_nil)))) (s_ret (e_c (.bl false))) s_nil)) (s_ret (e_chain o_le o_lt (e_bin o_sub (e_call o_max (a_cons (e_bin o_ix (e_v 2) (e_c (.int 1))) a_nil)) (e_call o_min (a_cons (e_bin o_ix (e_v 2) (e_c (.int 1))) a_nil))) (e_v 1) (e_bin o_sub (e_call o_max (a_cons (e_bin o_ix (e_v 2) (e_c (.int 2))) a_nil)) (e_call o_min (a_cons (e_bin o_ix (e_v 2) (e_c (.int 2))) a_nil)))))))))))
def F_shows_even_25 := fn 3 9 B_shows_even_25
def B_is_row_68 : SF :=
  (s_seq (s_if (t_not (t_v (e_call F_is_tuple_1 (a_cons (e_v 1) (a_cons (e_call o_len (a_cons (e_v 0) a_nil)) (a_cons (e_call o_len (a_cons (e_v 0) a_nil)) a_nil)))))) (s_ret (e_c (.bl false))) s_nil) (s_ret (e_call o_all (a_cons (e_lc (it_zip (e_v 1) (e_v 0)) (tg_t [(tg_n 2), (tg_t [(tg_n 3), (tg_n 4)])]) t_yes (e_call F_is_integer_3 (a_cons (e_v 2) (a_cons (e_v 3) (a_cons (e_v 4) a_nil)))) [2, 3, 4]) a_nil))))
def F_is_row_68 := fn 2 5 B_is_row_68
def B_shows_even_74 : SF :=
  (s_seq (s_set 3 (e_call F_even_71 (a_cons (e_v 0) (a_cons (e_v 1) a_nil)))) (s_seq (s_if (t_or (t_not (t_v (e_call F_is_tuple_1 (a_cons (e_v 2) (a_cons (e_c (.int 1)) (a_cons (e_c (.int 3)) a_nil)))))) (t_or (t_not (t_v (e_call o_isi (a_cons (e_bin o_ix (e_v 2) (e_c (.int 0))) (a_cons (e_c (.ty "str")) a_nil))))) (t_v (e_bin o_ne (e_bin o_ix (e_v 2) (e_c (.int 0))) (e_v 3))))) (s_ret (e_c (.bl false))) s_nil) (s_seq (s_if (t_v (e_bin o_eq (e_v 3) (e_c (.str "sure")))) (s_ret (e_bin o_eq (e_call o_len (a_cons (e_v 2) a_nil)) (e_c (.int 1)))) s_nil) (s_seq (s_if (t_v (e_bin o_eq (e_v 3) (e_c (.str "never")))) (s_seq (s_if (t_or (t_v (e_bin o_ne (e_call o_len (a_cons (e_v 2) a_nil)) (e_c (.int 2)))) (t_not (t_v (e_call F_is_integer_3 (a_cons (e_bin o_ix (e_v 2) (e_c (.int 1))) (a_cons (e_c (.int 0)) (a_cons (e_bin o_sub (e_call o_len (a_cons (e_v 0) a_nil)) (e_c (.int 1))) a_nil))))))) (s_ret (e_c (.bl false))) s_nil) (s_seq (s_tgt (tg_t [(tg_n 4), (tg_n 5)]) (e_bin o_ix (e_v 0) (e_bin o_ix (e_v 2) (e_c (.int 1))))) (s_ret (e_or (e_bin o_lt (e_v 5) (e_bin o_ix (e_v 1) (e_c (.int 0)))) (e_bin o_gt (e_v 4) (e_bin o_ix (e_v 1) (e_c (.int 1)))))))) s_nil) (s_seq (s_if (t_or (t_v (e_bin o_ne (e_call o_len (a_cons (e_v 2) a_nil)) (e_c (.int 3)))) (t_not (t_v (e_call o_all (a_cons (e_lc (it_e (e_cut (e_v 2) (p_e (e_c (.int 1))) p_no)) (tg_n 7) t_yes (e_call F_is_row_68 (a_cons (e_v 0) (a_cons (e_v 7) a_nil))) [7]) a_nil))))) (s_ret (e_c (.bl false))) s_nil) (s_seq (s_set 6 (e_lc (it_e (e_cut (e_v 2) (p_e (e_c (.int 1))) p_no)) (tg_n 7) t_yes (e_call o_all (a_cons (e_lc (it_e (e_v 7)) (tg_n 8) t_yes (e_chain o_le o_le (e_bin o_ix (e_v 1) (e_c (.int 0))) (e_v 8) (e_bin o_ix (e_v 1) (e_c (.int 1)))) [8]) a_nil)) [7])) (s_ret (e_bin o_eq (e_v 6) (e_lst (a_cons (e_c (.bl true)) (a_cons (e_c (.bl false)) a_nil)))))))))))
def F_shows_even_74 := fn 3 9 B_shows_even_74
def B__law_are_papers_right_85 : SF :=
  (s_seq (s_set 3 (e_call F_why_even_27 (a_cons (e_v 1) (a_cons (e_v 2) a_nil)))) (s_seq (s_if (t_v (e_bin o_notB (e_call F_shows_even_25 (a_cons (e_v 1) (a_cons (e_v 2) (a_cons (e_v 3) a_nil)))) (e_c (.bl true)))) (s_ret (e_c (.bl false))) s_nil) (s_seq (s_if (t_v (e_bin o_eq (e_bin o_ix (e_v 3) (e_c (.int 0))) (e_c (.str "never")))) (s_seq (s_tgt (tg_t [(tg_n 4), (tg_n 5)]) (e_cut (e_v 3) (p_e (e_c (.int 1))) p_no)) (s_ret (e_bin o_gt (e_bin o_sub (e_bin o_ix (e_bin o_ix (e_v 1) (e_v 4)) (e_c (.int 0))) (e_bin o_ix (e_bin o_ix (e_v 1) (e_v 5)) (e_c (.int 1)))) (e_v 2)))) s_nil) (s_seq (s_if (t_v (e_bin o_eq (e_bin o_ix (e_v 3) (e_c (.int 0))) (e_c (.str "sure")))) (s_ret (e_bin o_le (e_bin o_ix (e_call F__law_unevenness_82 (a_cons (e_v 1) a_nil)) (e_c (.int 1))) (e_v 2))) s_nil) (s_seq (s_tgt (tg_t [(tg_n 6), (tg_n 7)]) (e_cut (e_v 3) (p_e (e_c (.int 1))) p_no)) (s_seq (s_set 8 (e_tup (a_cons (e_call o_min (a_cons (e_v 6) a_nil)) (a_cons (e_bin o_add (e_call o_min (a_cons (e_v 6) a_nil)) (e_v 2)) a_nil)))) (s_seq (s_if (t_and (t_v (e_bin o_le (e_bin o_ix (e_v 8) (e_c (.int 1))) (e_c (.int 1000)))) (t_v (e_bin o_eq (e_call F_even_71 (a_cons (e_v 1) (a_cons (e_v 8) a_nil))) (e_c (.str "never"))))) (s_ret (e_c (.bl false))) s_nil) (s_seq (s_if (t_or (t_v (e_bin o_gt (e_bin o_sub (e_call o_max (a_cons (e_v 6) a_nil)) (e_call o_min (a_cons (e_v 6) a_nil))) (e_v 2))) (t_v (e_bin o_le (e_bin o_sub (e_call o_max (a_cons (e_v 7) a_nil)) (e_call o_min (a_cons (e_v 7) a_nil))) (e_v 2)))) (s_ret (e_c (.bl false))) s_nil) (s_seq (s_set 9 (e_call o_tuple (a_cons (e_lc (it_e (e_v 7)) (tg_n 4) t_yes (e_tup (a_cons (e_v 4) (a_cons (e_v 4) a_nil))) [4]) a_nil))) (s_seq (s_set 10 (e_call o_int (a_cons (e_callM F__law_take_78 0 (a_cons (e_call o_max (a_cons (e_c (.int 1)) (a_cons (e_bin o_sub (e_c (.int 1000)) (e_v 2)) a_nil))) a_nil)) a_nil))) (s_seq (s_if (t_v (e_bin o_eq (e_call F_even_71 (a_cons (e_v 9) (a_cons (e_tup (a_cons (e_v 10) (a_cons (e_bin o_add (e_v 10) (e_v 2)) a_nil))) a_nil))) (e_c (.str "sure")))) (s_ret (e_c (.bl false))) s_nil) (s_seq (s_if (t_or (t_v (e_bin o_gt (e_bin o_ix (e_v 8) (e_c (.int 1))) (e_c (.int 1000)))) (t_v (e_bin o_ne (e_call F_even_71 (a_cons (e_v 1) (a_cons (e_v 8) a_nil))) (e_c (.str "open"))))) (s_ret (e_c (.bl true))) s_nil) (s_seq (s_set 11 (e_call F_even_paper_73 (a_cons (e_v 1) (a_cons (e_v 8) a_nil)))) (s_seq (s_if (t_v (e_bin o_notB (e_call F_shows_even_74 (a_cons (e_v 1) (a_cons (e_v 8) (a_cons (e_tup (a_cons (e_c (.str "open")) (a_cons (e_v 6) (a_cons (e_bin o_ix (e_v 11) (e_c (.int 2))) a_nil)))) a_nil)))) (e_c (.bl true)))) (s_ret (e_c (.bl false))) s_nil) (s_seq (s_set 12 (e_bin o_sub (e_call o_max (a_cons (e_bin o_ix (e_v 11) (e_c (.int 2))) a_nil)) (e_call o_min (a_cons (e_bin o_ix (e_v 11) (e_c (.int 2))) a_nil)))) (s_ret (e_bin o_eq (e_call F_shows_even_25 (a_cons (e_v 1) (a_cons (e_v 2) (a_cons (e_tup (a_cons (e_c (.str "open")) (a_cons (e_bin o_ix (e_v 11) (e_c (.int 1))) (a_cons (e_bin o_ix (e_v 11) (e_c (.int 2))) a_nil)))) a_nil)))) (e_bin o_gt (e_v 12) (e_v 2)))))))))))))))))))
def F__law_are_papers_right_85 := fnM 3 13 B__law_are_papers_right_85
def B__law_right_87 : SF :=
  (s_seq (s_set 1 (e_callM F__law_of_79 0 (a_cons (e_lst (a_cons (e_c (.int 6)) (a_cons (e_c (.int 25)) (a_cons (e_c (.int 60)) a_nil)))) a_nil))) (s_seq (s_set 2 (e_callM F__law_bounds_81 0 (a_cons (e_bin o_add (e_c (.int 1)) (e_callM F__law_take_78 0 (a_cons (e_callM F__law_of_79 0 (a_cons (e_lst (a_cons (e_c (.int 4)) (a_cons (e_c (.int 20)) a_nil))) a_nil)) a_nil))) (a_cons (e_v 1) a_nil)))) (s_seq (s_set 3 (e_call F_unevenness_22 (a_cons (e_v 2) a_nil))) (s_seq (s_if (t_or (t_v (e_bin o_ne (e_v 3) (e_call F__law_unevenness_82 (a_cons (e_v 2) a_nil)))) (t_v (e_bin o_ne (e_call F_unevenness_22 (a_cons (e_un o_rev (e_v 2)) a_nil)) (e_v 3)))) (s_ret (e_c (.bl false))) s_nil) (s_seq (s_for (it_e (e_tup (a_cons (e_bin o_ix (e_v 3) (e_c (.int 0))) (a_cons (e_call o_max (a_cons (e_c (.int 0)) (a_cons (e_bin o_sub (e_bin o_ix (e_v 3) (e_c (.int 0))) (e_c (.int 1))) a_nil))) (a_cons (e_bin o_ix (e_v 3) (e_c (.int 1))) (a_cons (e_call o_int (a_cons (e_callM F__law_take_78 0 (a_cons (e_bin o_add (e_v 1) (e_c (.int 1))) a_nil)) a_nil)) a_nil)))))) (tg_n 4) (s_seq (s_if (t_or (t_not (t_v (e_call F__law_are_bands_right_84 (a_cons (e_v 2) (a_cons (e_v 4) a_nil))))) (t_not (t_v (e_callM F__law_are_papers_right_85 0 (a_cons (e_v 2) (a_cons (e_v 4) a_nil)))))) (s_ret (e_c (.bl false))) s_nil) (s_if (t_v (e_bin o_ne (e_call F_even_23 (a_cons (e_un o_rev (e_v 2)) (a_cons (e_v 4) a_nil))) (e_call F_even_23 (a_cons (e_v 2) (a_cons (e_v 4) a_nil))))) (s_ret (e_c (.bl false))) s_nil))) (s_ret (e_call F__law_are_exact_right_86 (a_cons (e_call o_tuple (a_cons (e_lc (it_e (e_v 2)) (tg_t [(tg_n 5), (tg_n 6)]) t_yes (e_v 5) [5, 6]) a_nil)) (a_cons (e_call o_int (a_cons (e_callM F__law_take_78 0 (a_cons (e_bin o_add (e_v 1) (e_c (.int 1))) a_nil)) a_nil)) a_nil)))))))))
def F__law_right_87 := fnM 1 7 B__law_right_87
def B_law_88 : SF :=
  (s_seq (s_for (it_e (e_call F__law_cells_80 (a_cons (e_v 0) (a_cons (e_c (.int 3)) a_nil)))) (tg_n 1) (s_seq (s_setO 2 (e_call F__law_pot_77 (a_cons (e_v 0) (a_cons (e_v 1) a_nil)))) (s_if (t_not (t_v (e_call o_all (a_cons (e_lc (it_r1 (e_c (.int 3))) (tg_n 3) t_yes (e_callM F__law_right_87 2 a_nil) [3]) a_nil)))) (s_ret (e_c (.bl false))) s_nil))) (s_ret (e_c (.bl true))))
def F_law_88 := fn 1 4 B_law_88
end
end G56

/-! ## P56 -/
namespace G56
open PySem Mini

theorem whole (i : Int) : F_is_whole_2 [.int i] = some (.val (.bl true)) := rfl
theorem integer (i lo hi : Int) : F_is_integer_3 [.int i, .int lo, .int hi] = some (.val (.bl (decide (lo ≤ i ∧ i ≤ hi)))) := by
  simp only [F_is_integer_3, B_is_integer_3, fn, fnM, fin, finM, R.res, R.resM, e_v, e_o, e_c, e_un, e_bin, e_chain, e_and, e_or, e_not, e_if, t_v, t_and, t_or, t_not, t_yes, a_nil, a_cons, a_star, e_tup, e_lst, e_tupS, e_lstS, e_call, e_callM, e_meth, e_bm, e_cut, p_no, p_e, tg_n, tg_t, tg_s, s_nil, s_then, s_seq, s_set, s_setO, s_par2, s_par3, pick, s_tgt, s_ex, s_ret, s_retN, s_if, s_setix, it_e, it_r1, it_r2, it_enum, it_zip, e_lstR, e_tupR, R.at, R.st, R.ats, R.sts, R.atx, R.atxs, R.new?, R.bl?, R.seq?, D.seq?, D.int?, D.bl?, D.str?, D.tup?, D.lst?, D.ty?, En.g, En.p, En.wipe, En.back, Option.bind_some, Option.bind_none, List.length_cons, List.length_nil, List.map_cons, List.map_nil, List.replicate, List.cons_append, List.nil_append, List.set_cons_zero, List.set_cons_succ, List.getElem?_cons_zero, List.getElem?_cons_succ, List.getElem?_nil, Option.join_some, Option.join_none, Nat.reduceAdd, Nat.reduceSub, reduceIte, if_true, if_false, Bool.false_eq_true, D.flat, D.flats, flatIn_l, Bool.and_true, Bool.true_and, Bool.and_self, ix_t0, ix_t1, ix_t2, ix_l0, ix_l1, ix_l2, len_t, len_l, tup_l, add_i, max_2, min_2, sub_i, lt_i, le_i, gt_i, ge_i, neg_i, ne_i, eq_i, ne_s, eq_s, ne_b, eq_b, int_i, int_b, abs_i, whole]
  by_cases h : lo ≤ i
  · rw [decide_eq_true h]
    simp [fn, fnM, fin, finM, R.res, R.resM, e_v, e_o, e_c, e_un, e_bin, e_chain, e_and, e_or, e_not, e_if, t_v, t_and, t_or, t_not, t_yes, a_nil, a_cons, a_star, e_tup, e_lst, e_tupS, e_lstS, e_call, e_callM, e_meth, e_bm, e_cut, p_no, p_e, tg_n, tg_t, tg_s, s_nil, s_then, s_seq, s_set, s_setO, s_par2, s_par3, pick, s_tgt, s_ex, s_ret, s_retN, s_if, s_setix, it_e, it_r1, it_r2, it_enum, it_zip, e_lstR, e_tupR, R.at, R.st, R.ats, R.sts, R.atx, R.atxs, R.new?, R.bl?, R.seq?, D.seq?, D.int?, D.bl?, D.str?, D.tup?, D.lst?, D.ty?, En.g, En.p, En.wipe, En.back, Option.bind_some, Option.bind_none, List.length_cons, List.length_nil, List.map_cons, List.map_nil, List.replicate, List.cons_append, List.nil_append, List.set_cons_zero, List.set_cons_succ, List.getElem?_cons_zero, List.getElem?_cons_succ, List.getElem?_nil, Option.join_some, Option.join_none, Nat.reduceAdd, Nat.reduceSub, reduceIte, if_true, if_false, Bool.false_eq_true, D.flat, D.flats, flatIn_l, Bool.and_true, Bool.true_and, Bool.and_self, ix_t0, ix_t1, ix_t2, ix_l0, ix_l1, ix_l2, len_t, len_l, tup_l, add_i, max_2, min_2, sub_i, lt_i, le_i, gt_i, ge_i, neg_i, ne_i, eq_i, ne_s, eq_s, ne_b, eq_b, int_i, int_b, abs_i, h]
  · rw [decide_eq_false h]
    simp [fn, fnM, fin, finM, R.res, R.resM, e_v, e_o, e_c, e_un, e_bin, e_chain, e_and, e_or, e_not, e_if, t_v, t_and, t_or, t_not, t_yes, a_nil, a_cons, a_star, e_tup, e_lst, e_tupS, e_lstS, e_call, e_callM, e_meth, e_bm, e_cut, p_no, p_e, tg_n, tg_t, tg_s, s_nil, s_then, s_seq, s_set, s_setO, s_par2, s_par3, pick, s_tgt, s_ex, s_ret, s_retN, s_if, s_setix, it_e, it_r1, it_r2, it_enum, it_zip, e_lstR, e_tupR, R.at, R.st, R.ats, R.sts, R.atx, R.atxs, R.new?, R.bl?, R.seq?, D.seq?, D.int?, D.bl?, D.str?, D.tup?, D.lst?, D.ty?, En.g, En.p, En.wipe, En.back, Option.bind_some, Option.bind_none, List.length_cons, List.length_nil, List.map_cons, List.map_nil, List.replicate, List.cons_append, List.nil_append, List.set_cons_zero, List.set_cons_succ, List.getElem?_cons_zero, List.getElem?_cons_succ, List.getElem?_nil, Option.join_some, Option.join_none, Nat.reduceAdd, Nat.reduceSub, reduceIte, if_true, if_false, Bool.false_eq_true, D.flat, D.flats, flatIn_l, Bool.and_true, Bool.true_and, Bool.and_self, ix_t0, ix_t1, ix_t2, ix_l0, ix_l1, ix_l2, len_t, len_l, tup_l, add_i, max_2, min_2, sub_i, lt_i, le_i, gt_i, ge_i, neg_i, ne_i, eq_i, ne_s, eq_s, ne_b, eq_b, int_i, int_b, abs_i, h]
theorem tuple_ok (ds : List D) (a b : Int) : F_is_tuple_1 [.tup ds, .int a, .int b] = some (.val (.bl (decide (a ≤ ds.length ∧ ds.length ≤ b)))) := by
  have e : o_isi [.tup ds, .ty "tuple"] = some (.val (.bl true)) := rfl
  simp only [F_is_tuple_1, B_is_tuple_1, fn, fnM, fin, finM, R.res, R.resM, e_v, e_o, e_c, e_un, e_bin, e_chain, e_and, e_or, e_not, e_if, t_v, t_and, t_or, t_not, t_yes, a_nil, a_cons, a_star, e_tup, e_lst, e_tupS, e_lstS, e_call, e_callM, e_meth, e_bm, e_cut, p_no, p_e, tg_n, tg_t, tg_s, s_nil, s_then, s_seq, s_set, s_setO, s_par2, s_par3, pick, s_tgt, s_ex, s_ret, s_retN, s_if, s_setix, it_e, it_r1, it_r2, it_enum, it_zip, e_lstR, e_tupR, R.at, R.st, R.ats, R.sts, R.atx, R.atxs, R.new?, R.bl?, R.seq?, D.seq?, D.int?, D.bl?, D.str?, D.tup?, D.lst?, D.ty?, En.g, En.p, En.wipe, En.back, Option.bind_some, Option.bind_none, List.length_cons, List.length_nil, List.map_cons, List.map_nil, List.replicate, List.cons_append, List.nil_append, List.set_cons_zero, List.set_cons_succ, List.getElem?_cons_zero, List.getElem?_cons_succ, List.getElem?_nil, Option.join_some, Option.join_none, Nat.reduceAdd, Nat.reduceSub, reduceIte, if_true, if_false, Bool.false_eq_true, D.flat, D.flats, flatIn_l, Bool.and_true, Bool.true_and, Bool.and_self, ix_t0, ix_t1, ix_t2, ix_l0, ix_l1, ix_l2, len_t, len_l, tup_l, add_i, max_2, min_2, sub_i, lt_i, le_i, gt_i, ge_i, neg_i, ne_i, eq_i, ne_s, eq_s, ne_b, eq_b, int_i, int_b, abs_i, e, o_len]
  by_cases h : a ≤ (ds.length : Int)
  · rw [decide_eq_true h]
    simp [fn, fnM, fin, finM, R.res, R.resM, e_v, e_o, e_c, e_un, e_bin, e_chain, e_and, e_or, e_not, e_if, t_v, t_and, t_or, t_not, t_yes, a_nil, a_cons, a_star, e_tup, e_lst, e_tupS, e_lstS, e_call, e_callM, e_meth, e_bm, e_cut, p_no, p_e, tg_n, tg_t, tg_s, s_nil, s_then, s_seq, s_set, s_setO, s_par2, s_par3, pick, s_tgt, s_ex, s_ret, s_retN, s_if, s_setix, it_e, it_r1, it_r2, it_enum, it_zip, e_lstR, e_tupR, R.at, R.st, R.ats, R.sts, R.atx, R.atxs, R.new?, R.bl?, R.seq?, D.seq?, D.int?, D.bl?, D.str?, D.tup?, D.lst?, D.ty?, En.g, En.p, En.wipe, En.back, Option.bind_some, Option.bind_none, List.length_cons, List.length_nil, List.map_cons, List.map_nil, List.replicate, List.cons_append, List.nil_append, List.set_cons_zero, List.set_cons_succ, List.getElem?_cons_zero, List.getElem?_cons_succ, List.getElem?_nil, Option.join_some, Option.join_none, Nat.reduceAdd, Nat.reduceSub, reduceIte, if_true, if_false, Bool.false_eq_true, D.flat, D.flats, flatIn_l, Bool.and_true, Bool.true_and, Bool.and_self, ix_t0, ix_t1, ix_t2, ix_l0, ix_l1, ix_l2, len_t, len_l, tup_l, add_i, max_2, min_2, sub_i, lt_i, le_i, gt_i, ge_i, neg_i, ne_i, eq_i, ne_s, eq_s, ne_b, eq_b, int_i, int_b, abs_i, h]
  · rw [decide_eq_false h]
    simp [fn, fnM, fin, finM, R.res, R.resM, e_v, e_o, e_c, e_un, e_bin, e_chain, e_and, e_or, e_not, e_if, t_v, t_and, t_or, t_not, t_yes, a_nil, a_cons, a_star, e_tup, e_lst, e_tupS, e_lstS, e_call, e_callM, e_meth, e_bm, e_cut, p_no, p_e, tg_n, tg_t, tg_s, s_nil, s_then, s_seq, s_set, s_setO, s_par2, s_par3, pick, s_tgt, s_ex, s_ret, s_retN, s_if, s_setix, it_e, it_r1, it_r2, it_enum, it_zip, e_lstR, e_tupR, R.at, R.st, R.ats, R.sts, R.atx, R.atxs, R.new?, R.bl?, R.seq?, D.seq?, D.int?, D.bl?, D.str?, D.tup?, D.lst?, D.ty?, En.g, En.p, En.wipe, En.back, Option.bind_some, Option.bind_none, List.length_cons, List.length_nil, List.map_cons, List.map_nil, List.replicate, List.cons_append, List.nil_append, List.set_cons_zero, List.set_cons_succ, List.getElem?_cons_zero, List.getElem?_cons_succ, List.getElem?_nil, Option.join_some, Option.join_none, Nat.reduceAdd, Nat.reduceSub, reduceIte, if_true, if_false, Bool.false_eq_true, D.flat, D.flats, flatIn_l, Bool.and_true, Bool.true_and, Bool.and_self, ix_t0, ix_t1, ix_t2, ix_l0, ix_l1, ix_l2, len_t, len_l, tup_l, add_i, max_2, min_2, sub_i, lt_i, le_i, gt_i, ge_i, neg_i, ne_i, eq_i, ne_s, eq_s, ne_b, eq_b, int_i, int_b, abs_i, h]
end G56
namespace G56
open PySem Mini
abbrev enc (p : Int × Int) : D := .tup [.int p.1, .int p.2]
abbrev bD (B : List (Int × Int)) : D := .tup (B.map enc)
theorem bound (p : Int × Int) : F_is_bound_18 [enc p] = some (.val (.bl (decide ((0 ≤ p.1 ∧ p.1 ≤ 1000) ∧ (p.1 ≤ p.2 ∧ p.2 ≤ 1000))))) := by
  have e : F_is_tuple_1 [enc p, .int 2, .int 2] = some (.val (.bl true)) := by rw [tuple_ok]; rfl
  simp only [F_is_bound_18, B_is_bound_18, fn, fnM, fin, finM, R.res, R.resM, e_v, e_o, e_c, e_un, e_bin, e_chain, e_and, e_or, e_not, e_if, t_v, t_and, t_or, t_not, t_yes, a_nil, a_cons, a_star, e_tup, e_lst, e_tupS, e_lstS, e_call, e_callM, e_meth, e_bm, e_cut, p_no, p_e, tg_n, tg_t, tg_s, s_nil, s_then, s_seq, s_set, s_setO, s_par2, s_par3, pick, s_tgt, s_ex, s_ret, s_retN, s_if, s_setix, it_e, it_r1, it_r2, it_enum, it_zip, e_lstR, e_tupR, R.at, R.st, R.ats, R.sts, R.atx, R.atxs, R.new?, R.bl?, R.seq?, D.seq?, D.int?, D.bl?, D.str?, D.tup?, D.lst?, D.ty?, En.g, En.p, En.wipe, En.back, Option.bind_some, Option.bind_none, List.length_cons, List.length_nil, List.map_cons, List.map_nil, List.replicate, List.cons_append, List.nil_append, List.set_cons_zero, List.set_cons_succ, List.getElem?_cons_zero, List.getElem?_cons_succ, List.getElem?_nil, Option.join_some, Option.join_none, Nat.reduceAdd, Nat.reduceSub, reduceIte, if_true, if_false, Bool.false_eq_true, D.flat, D.flats, flatIn_l, Bool.and_true, Bool.true_and, Bool.and_self, ix_t0, ix_t1, ix_t2, ix_l0, ix_l1, ix_l2, len_t, len_l, tup_l, add_i, max_2, min_2, sub_i, lt_i, le_i, gt_i, ge_i, neg_i, ne_i, eq_i, ne_s, eq_s, ne_b, eq_b, int_i, int_b, abs_i, e, ix_t0, ix_t1, integer, Bool.not_true]
  by_cases h : 0 ≤ p.1 ∧ p.1 ≤ 1000
  · simp [fn, fnM, fin, finM, R.res, R.resM, e_v, e_o, e_c, e_un, e_bin, e_chain, e_and, e_or, e_not, e_if, t_v, t_and, t_or, t_not, t_yes, a_nil, a_cons, a_star, e_tup, e_lst, e_tupS, e_lstS, e_call, e_callM, e_meth, e_bm, e_cut, p_no, p_e, tg_n, tg_t, tg_s, s_nil, s_then, s_seq, s_set, s_setO, s_par2, s_par3, pick, s_tgt, s_ex, s_ret, s_retN, s_if, s_setix, it_e, it_r1, it_r2, it_enum, it_zip, e_lstR, e_tupR, R.at, R.st, R.ats, R.sts, R.atx, R.atxs, R.new?, R.bl?, R.seq?, D.seq?, D.int?, D.bl?, D.str?, D.tup?, D.lst?, D.ty?, En.g, En.p, En.wipe, En.back, Option.bind_some, Option.bind_none, List.length_cons, List.length_nil, List.map_cons, List.map_nil, List.replicate, List.cons_append, List.nil_append, List.set_cons_zero, List.set_cons_succ, List.getElem?_cons_zero, List.getElem?_cons_succ, List.getElem?_nil, Option.join_some, Option.join_none, Nat.reduceAdd, Nat.reduceSub, reduceIte, if_true, if_false, Bool.false_eq_true, D.flat, D.flats, flatIn_l, Bool.and_true, Bool.true_and, Bool.and_self, ix_t0, ix_t1, ix_t2, ix_l0, ix_l1, ix_l2, len_t, len_l, tup_l, add_i, max_2, min_2, sub_i, lt_i, le_i, gt_i, ge_i, neg_i, ne_i, eq_i, ne_s, eq_s, ne_b, eq_b, int_i, int_b, abs_i, h, integer]
  · simp [fn, fnM, fin, finM, R.res, R.resM, e_v, e_o, e_c, e_un, e_bin, e_chain, e_and, e_or, e_not, e_if, t_v, t_and, t_or, t_not, t_yes, a_nil, a_cons, a_star, e_tup, e_lst, e_tupS, e_lstS, e_call, e_callM, e_meth, e_bm, e_cut, p_no, p_e, tg_n, tg_t, tg_s, s_nil, s_then, s_seq, s_set, s_setO, s_par2, s_par3, pick, s_tgt, s_ex, s_ret, s_retN, s_if, s_setix, it_e, it_r1, it_r2, it_enum, it_zip, e_lstR, e_tupR, R.at, R.st, R.ats, R.sts, R.atx, R.atxs, R.new?, R.bl?, R.seq?, D.seq?, D.int?, D.bl?, D.str?, D.tup?, D.lst?, D.ty?, En.g, En.p, En.wipe, En.back, Option.bind_some, Option.bind_none, List.length_cons, List.length_nil, List.map_cons, List.map_nil, List.replicate, List.cons_append, List.nil_append, List.set_cons_zero, List.set_cons_succ, List.getElem?_cons_zero, List.getElem?_cons_succ, List.getElem?_nil, Option.join_some, Option.join_none, Nat.reduceAdd, Nat.reduceSub, reduceIte, if_true, if_false, Bool.false_eq_true, D.flat, D.flats, flatIn_l, Bool.and_true, Bool.true_and, Bool.and_self, ix_t0, ix_t1, ix_t2, ix_l0, ix_l1, ix_l2, len_t, len_l, tup_l, add_i, max_2, min_2, sub_i, lt_i, le_i, gt_i, ge_i, neg_i, ne_i, eq_i, ne_s, eq_s, ne_b, eq_b, int_i, int_b, abs_i, h]
/-- bounds that the program takes -/
structure Ok (B : List (Int × Int)) : Prop where
  pos : B ≠ []
  few : B.length ≤ 20
  fine : ∀ p ∈ B, 0 ≤ p.1 ∧ p.1 ≤ p.2 ∧ p.2 ≤ 1000
theorem all_true {α : Type} {f : α → Bool} {l : List α} (h : ∀ a ∈ l, f a = true) : (l.map f).all id = true := by
  rw [List.all_map]
  exact List.all_eq_true.mpr h
theorem check {B : List (Int × Int)} (h : Ok B) : F_check_bounds_19 [bD B] = some (.val .non) := by
  have e : F_is_tuple_1 [bD B, .int 1, .int 20] = some (.val (.bl true)) := by
    have h1 := h.few
    have h2 := List.length_pos_iff.mpr h.pos
    rw [tuple_ok, decide_eq_true (by rw [List.length_map]; omega)]
  have e2 : ∀ e0 : En, e0 = [some (bD B), none] → e_lc (it_e (e_v 0)) (tg_n 1) t_yes (e_call F_is_bound_18 (a_cons (e_v 1) a_nil)) [1] e0 = some (.new (.lst ((B.map fun p => true).map .bl)), e0) := by
    rintro _ rfl
    have hl := lc_enc (g := tg_n 1) (t := t_yes) (f := e_call F_is_bound_18 (a_cons (e_v 1) a_nil)) (vs := [1]) (e := [some (bD B), none]) enc (fun _ => true) (fun p => .bl true) B (fun p hp => by
      refine ⟨_, _, rfl, rfl, fun _ => ⟨.val (.bl true), [some (bD B), some (enc p)], ?_, rfl, rfl⟩, fun z => by cases z⟩
      have hb := h.fine p hp
      simp only [fn, fnM, fin, finM, R.res, R.resM, e_v, e_o, e_c, e_un, e_bin, e_chain, e_and, e_or, e_not, e_if, t_v, t_and, t_or, t_not, t_yes, a_nil, a_cons, a_star, e_tup, e_lst, e_tupS, e_lstS, e_call, e_callM, e_meth, e_bm, e_cut, p_no, p_e, tg_n, tg_t, tg_s, s_nil, s_then, s_seq, s_set, s_setO, s_par2, s_par3, pick, s_tgt, s_ex, s_ret, s_retN, s_if, s_setix, it_e, it_r1, it_r2, it_enum, it_zip, e_lstR, e_tupR, R.at, R.st, R.ats, R.sts, R.atx, R.atxs, R.new?, R.bl?, R.seq?, D.seq?, D.int?, D.bl?, D.str?, D.tup?, D.lst?, D.ty?, En.g, En.p, En.wipe, En.back, Option.bind_some, Option.bind_none, List.length_cons, List.length_nil, List.map_cons, List.map_nil, List.replicate, List.cons_append, List.nil_append, List.set_cons_zero, List.set_cons_succ, List.getElem?_cons_zero, List.getElem?_cons_succ, List.getElem?_nil, Option.join_some, Option.join_none, Nat.reduceAdd, Nat.reduceSub, reduceIte, if_true, if_false, Bool.false_eq_true, D.flat, D.flats, flatIn_l, Bool.and_true, Bool.true_and, Bool.and_self, ix_t0, ix_t1, ix_t2, ix_l0, ix_l1, ix_l2, len_t, len_l, tup_l, add_i, max_2, min_2, sub_i, lt_i, le_i, gt_i, ge_i, neg_i, ne_i, eq_i, ne_s, eq_s, ne_b, eq_b, int_i, int_b, abs_i, bound]
      rw [decide_eq_true (by omega)])
    simp only [e_lc, fn, fnM, fin, finM, R.res, R.resM, e_v, e_o, e_c, e_un, e_bin, e_chain, e_and, e_or, e_not, e_if, t_v, t_and, t_or, t_not, t_yes, a_nil, a_cons, a_star, e_tup, e_lst, e_tupS, e_lstS, e_call, e_callM, e_meth, e_bm, e_cut, p_no, p_e, tg_n, tg_t, tg_s, s_nil, s_then, s_seq, s_set, s_setO, s_par2, s_par3, pick, s_tgt, s_ex, s_ret, s_retN, s_if, s_setix, it_e, it_r1, it_r2, it_enum, it_zip, e_lstR, e_tupR, R.at, R.st, R.ats, R.sts, R.atx, R.atxs, R.new?, R.bl?, R.seq?, D.seq?, D.int?, D.bl?, D.str?, D.tup?, D.lst?, D.ty?, En.g, En.p, En.wipe, En.back, Option.bind_some, Option.bind_none, List.length_cons, List.length_nil, List.map_cons, List.map_nil, List.replicate, List.cons_append, List.nil_append, List.set_cons_zero, List.set_cons_succ, List.getElem?_cons_zero, List.getElem?_cons_succ, List.getElem?_nil, Option.join_some, Option.join_none, Nat.reduceAdd, Nat.reduceSub, reduceIte, if_true, if_false, Bool.false_eq_true, D.flat, D.flats, flatIn_l, Bool.and_true, Bool.true_and, Bool.and_self, ix_t0, ix_t1, ix_t2, ix_l0, ix_l1, ix_l2, len_t, len_l, tup_l, add_i, max_2, min_2, sub_i, lt_i, le_i, gt_i, ge_i, neg_i, ne_i, eq_i, ne_s, eq_s, ne_b, eq_b, int_i, int_b, abs_i, hl, filt_true, List.map_map]
    rfl
  simp only [F_check_bounds_19, B_check_bounds_19, fn, fnM, fin, finM, R.res, R.resM, e_v, e_o, e_c, e_un, e_bin, e_chain, e_and, e_or, e_not, e_if, t_v, t_and, t_or, t_not, t_yes, a_nil, a_cons, a_star, e_tup, e_lst, e_tupS, e_lstS, e_call, e_callM, e_meth, e_bm, e_cut, p_no, p_e, tg_n, tg_t, tg_s, s_nil, s_then, s_seq, s_set, s_setO, s_par2, s_par3, pick, s_tgt, s_ex, s_ret, s_retN, s_if, s_setix, it_e, it_r1, it_r2, it_enum, it_zip, e_lstR, e_tupR, R.at, R.st, R.ats, R.sts, R.atx, R.atxs, R.new?, R.bl?, R.seq?, D.seq?, D.int?, D.bl?, D.str?, D.tup?, D.lst?, D.ty?, En.g, En.p, En.wipe, En.back, Option.bind_some, Option.bind_none, List.length_cons, List.length_nil, List.map_cons, List.map_nil, List.replicate, List.cons_append, List.nil_append, List.set_cons_zero, List.set_cons_succ, List.getElem?_cons_zero, List.getElem?_cons_succ, List.getElem?_nil, Option.join_some, Option.join_none, Nat.reduceAdd, Nat.reduceSub, reduceIte, if_true, if_false, Bool.false_eq_true, D.flat, D.flats, flatIn_l, Bool.and_true, Bool.true_and, Bool.and_self, ix_t0, ix_t1, ix_t2, ix_l0, ix_l1, ix_l2, len_t, len_l, tup_l, add_i, max_2, min_2, sub_i, lt_i, le_i, gt_i, ge_i, neg_i, ne_i, eq_i, ne_s, eq_s, ne_b, eq_b, int_i, int_b, abs_i, e, e2 _ rfl, all_l, Bool.not_true]
  rw [all_true fun _ _ => rfl]
  simp [fn, fnM, fin, finM, R.res, R.resM, e_v, e_o, e_c, e_un, e_bin, e_chain, e_and, e_or, e_not, e_if, t_v, t_and, t_or, t_not, t_yes, a_nil, a_cons, a_star, e_tup, e_lst, e_tupS, e_lstS, e_call, e_callM, e_meth, e_bm, e_cut, p_no, p_e, tg_n, tg_t, tg_s, s_nil, s_then, s_seq, s_set, s_setO, s_par2, s_par3, pick, s_tgt, s_ex, s_ret, s_retN, s_if, s_setix, it_e, it_r1, it_r2, it_enum, it_zip, e_lstR, e_tupR, R.at, R.st, R.ats, R.sts, R.atx, R.atxs, R.new?, R.bl?, R.seq?, D.seq?, D.int?, D.bl?, D.str?, D.tup?, D.lst?, D.ty?, En.g, En.p, En.wipe, En.back, Option.bind_some, Option.bind_none, List.length_cons, List.length_nil, List.map_cons, List.map_nil, List.replicate, List.cons_append, List.nil_append, List.set_cons_zero, List.set_cons_succ, List.getElem?_cons_zero, List.getElem?_cons_succ, List.getElem?_nil, Option.join_some, Option.join_none, Nat.reduceAdd, Nat.reduceSub, reduceIte, if_true, if_false, Bool.false_eq_true, D.flat, D.flats, flatIn_l, Bool.and_true, Bool.true_and, Bool.and_self, ix_t0, ix_t1, ix_t2, ix_l0, ix_l1, ix_l2, len_t, len_l, tup_l, add_i, max_2, min_2, sub_i, lt_i, le_i, gt_i, ge_i, neg_i, ne_i, eq_i, ne_s, eq_s, ne_b, eq_b, int_i, int_b, abs_i]
end G56
namespace G56
open PySem Mini
abbrev oth (B : List (Int × Int)) (k : Nat) : List (Int × Int) := B.take k ++ B.drop (k + 1)
theorem sts_vals : ∀ ds : List D, R.sts (ds.map R.val) = some ds
  | [] => rfl
  | d :: ds => by rw [List.map_cons, R.sts, sts_vals ds]; rfl
theorem others {B : List (Int × Int)} {k : Nat} (h : Ok B) (hk : k < B.length) : F_others_of_21 [bD B, .int (k : Int)] = some (.new (.lst ((oth B k).map enc))) := by
  have e1 := cut_to (B.map enc) k (by rw [List.length_map]; omega)
  have e2 := cut_from (B.map enc) (k + 1)
  have hl : ((B.map enc).take k ++ (B.map enc).drop (k + 1)).length ≤ SZ := by
    have := h.few
    rw [List.length_append, List.length_take, List.length_drop, List.length_map]
    rw [sz_val]
    omega
  have e3 : ((B.map enc).take k ++ (B.map enc).drop (k + 1)) = (oth B k).map enc := by rw [List.map_append, List.map_take, List.map_drop]
  simp only [F_others_of_21, B_others_of_21, fn, fnM, fin, finM, R.res, R.resM, e_v, e_o, e_c, e_un, e_bin, e_chain, e_and, e_or, e_not, e_if, t_v, t_and, t_or, t_not, t_yes, a_nil, a_cons, a_star, e_tup, e_lst, e_tupS, e_lstS, e_call, e_callM, e_meth, e_bm, e_cut, p_no, p_e, tg_n, tg_t, tg_s, s_nil, s_then, s_seq, s_set, s_setO, s_par2, s_par3, pick, s_tgt, s_ex, s_ret, s_retN, s_if, s_setix, it_e, it_r1, it_r2, it_enum, it_zip, e_lstR, e_tupR, R.at, R.st, R.ats, R.sts, R.atx, R.atxs, R.new?, R.bl?, R.seq?, D.seq?, D.int?, D.bl?, D.str?, D.tup?, D.lst?, D.ty?, En.g, En.p, En.wipe, En.back, Option.bind_some, Option.bind_none, List.length_cons, List.length_nil, List.map_cons, List.map_nil, List.replicate, List.cons_append, List.nil_append, List.set_cons_zero, List.set_cons_succ, List.getElem?_cons_zero, List.getElem?_cons_succ, List.getElem?_nil, Option.join_some, Option.join_none, Nat.reduceAdd, Nat.reduceSub, reduceIte, if_true, if_false, Bool.false_eq_true, D.flat, D.flats, flatIn_l, Bool.and_true, Bool.true_and, Bool.and_self, ix_t0, ix_t1, ix_t2, ix_l0, ix_l1, ix_l2, len_t, len_l, tup_l, add_i, max_2, min_2, sub_i, lt_i, le_i, gt_i, ge_i, neg_i, ne_i, eq_i, ne_s, eq_s, ne_b, eq_b, int_i, int_b, abs_i, o_cut, e1, List.append_nil]
  rw [show ((k : Int) + 1) = ((k + 1 : Nat) : Int) from rfl, e2]
  simp only [← List.map_append, sts_vals, fn, fnM, fin, finM, R.res, R.resM, e_v, e_o, e_c, e_un, e_bin, e_chain, e_and, e_or, e_not, e_if, t_v, t_and, t_or, t_not, t_yes, a_nil, a_cons, a_star, e_tup, e_lst, e_tupS, e_lstS, e_call, e_callM, e_meth, e_bm, e_cut, p_no, p_e, tg_n, tg_t, tg_s, s_nil, s_then, s_seq, s_set, s_setO, s_par2, s_par3, pick, s_tgt, s_ex, s_ret, s_retN, s_if, s_setix, it_e, it_r1, it_r2, it_enum, it_zip, e_lstR, e_tupR, R.at, R.st, R.ats, R.sts, R.atx, R.atxs, R.new?, R.bl?, R.seq?, D.seq?, D.int?, D.bl?, D.str?, D.tup?, D.lst?, D.ty?, En.g, En.p, En.wipe, En.back, Option.bind_some, Option.bind_none, List.length_cons, List.length_nil, List.map_cons, List.map_nil, List.replicate, List.cons_append, List.nil_append, List.set_cons_zero, List.set_cons_succ, List.getElem?_cons_zero, List.getElem?_cons_succ, List.getElem?_nil, Option.join_some, Option.join_none, Nat.reduceAdd, Nat.reduceSub, reduceIte, if_true, if_false, Bool.false_eq_true, D.flat, D.flats, flatIn_l, Bool.and_true, Bool.true_and, Bool.and_self, ix_t0, ix_t1, ix_t2, ix_l0, ix_l1, ix_l2, len_t, len_l, tup_l, add_i, max_2, min_2, sub_i, lt_i, le_i, gt_i, ge_i, neg_i, ne_i, eq_i, ne_s, eq_s, ne_b, eq_b, int_i, int_b, abs_i]
  rw [if_pos hl, e3]
  simp only [fn, fnM, fin, finM, R.res, R.resM, e_v, e_o, e_c, e_un, e_bin, e_chain, e_and, e_or, e_not, e_if, t_v, t_and, t_or, t_not, t_yes, a_nil, a_cons, a_star, e_tup, e_lst, e_tupS, e_lstS, e_call, e_callM, e_meth, e_bm, e_cut, p_no, p_e, tg_n, tg_t, tg_s, s_nil, s_then, s_seq, s_set, s_setO, s_par2, s_par3, pick, s_tgt, s_ex, s_ret, s_retN, s_if, s_setix, it_e, it_r1, it_r2, it_enum, it_zip, e_lstR, e_tupR, R.at, R.st, R.ats, R.sts, R.atx, R.atxs, R.new?, R.bl?, R.seq?, D.seq?, D.int?, D.bl?, D.str?, D.tup?, D.lst?, D.ty?, En.g, En.p, En.wipe, En.back, Option.bind_some, Option.bind_none, List.length_cons, List.length_nil, List.map_cons, List.map_nil, List.replicate, List.cons_append, List.nil_append, List.set_cons_zero, List.set_cons_succ, List.getElem?_cons_zero, List.getElem?_cons_succ, List.getElem?_nil, Option.join_some, Option.join_none, Nat.reduceAdd, Nat.reduceSub, reduceIte, if_true, if_false, Bool.false_eq_true, D.flat, D.flats, flatIn_l, Bool.and_true, Bool.true_and, Bool.and_self, ix_t0, ix_t1, ix_t2, ix_l0, ix_l1, ix_l2, len_t, len_l, tup_l, add_i, max_2, min_2, sub_i, lt_i, le_i, gt_i, ge_i, neg_i, ne_i, eq_i, ne_s, eq_s, ne_b, eq_b, int_i, int_b, abs_i, flats_map (f := enc) (fun p => rfl), if_true]
/-- all differences of one's most and another's least -/
def dl (B : List (Int × Int)) : List Int := 0 :: B.zipIdx.flatMap fun x => (oth B x.2).map fun q => x.1.2 - q.1
theorem mem_oth {B : List (Int × Int)} {k : Nat} {q : Int × Int} : q ∈ oth B k ↔ ∃ j, j ≠ k ∧ B[j]? = some q := by
  constructor
  · intro h
    rcases List.mem_append.mp h with h | h
    · obtain ⟨j, hj⟩ := List.mem_iff_getElem?.mp h
      have hl := (List.getElem?_eq_some_iff.mp hj).1
      rw [List.length_take] at hl
      exact ⟨j, by omega, by rw [List.getElem?_take] at hj; rw [if_pos (by omega)] at hj; exact hj⟩
    · obtain ⟨j, hj⟩ := List.mem_iff_getElem?.mp h
      rw [List.getElem?_drop] at hj
      exact ⟨k + 1 + j, by omega, hj⟩
  · rintro ⟨j, hn, hj⟩
    rcases Nat.lt_or_gt_of_ne hn with hl | hl
    · refine List.mem_append_left _ (List.mem_iff_getElem?.mpr ⟨j, ?_⟩)
      rw [List.getElem?_take, if_pos hl]
      exact hj
    · refine List.mem_append_right _ (List.mem_iff_getElem?.mpr ⟨j - (k + 1), ?_⟩)
      rw [List.getElem?_drop, show k + 1 + (j - (k + 1)) = j by omega]
      exact hj
theorem mem_zip {B : List (Int × Int)} {p : Int × Int} {k : Nat} : (p, k) ∈ B.zipIdx ↔ B[k]? = some p := by
  rw [List.mem_zipIdx_iff_getElem?]
theorem mem_dl {B : List (Int × Int)} {v : Int} : v ∈ dl B ↔ v = 0 ∨ ∃ (i j : Nat) (p q : Int × Int), i ≠ j ∧ B[i]? = some p ∧ B[j]? = some q ∧ v = p.2 - q.1 := by
  unfold dl
  rw [List.mem_cons]
  refine or_congr Iff.rfl ⟨fun h => ?_, fun ⟨i, j, p, q, hn, hp, hq, e⟩ => ?_⟩
  · obtain ⟨⟨p, i⟩, h1, h2⟩ := List.mem_flatMap.mp h
    obtain ⟨q, h3, e⟩ := List.mem_map.mp h2
    obtain ⟨j, hj, hq⟩ := mem_oth.mp h3
    exact ⟨i, j, p, q, Ne.symm hj, mem_zip.mp h1, hq, e.symm⟩
  · exact List.mem_flatMap.mpr ⟨(p, i), mem_zip.mpr hp, List.mem_map.mpr ⟨q, mem_oth.mpr ⟨j, Ne.symm hn, hq⟩, e.symm⟩⟩
/-- the least unevenness before the cut at 0; the two -/
def low (B : List (Int × Int)) : Int := mx (B.map (·.1)) - mn (B.map (·.2))
def lst (B : List (Int × Int)) : Int := max 0 (low B)
def mst (B : List (Int × Int)) : Int := mx (dl B)
theorem los {B : List (Int × Int)} {it : IF} {e : En} (i j : Nat) : True := trivial
end G56
namespace G56
open PySem Mini
theorem len_oth (B : List (Int × Int)) (k : Nat) : (oth B k).length ≤ B.length := by
  rw [List.length_append, List.length_take, List.length_drop]
  omega
theorem uneven {B : List (Int × Int)} (h : Ok B) : F_unevenness_22 [bD B] = some (.val (.tup [.int (lst B), .int (mst B)])) := by
  have e0 : ∀ (x1 x2 : Option D), e_lc (it_e (e_v 0)) (tg_t [tg_n 4, tg_n 5]) t_yes (e_v 4) [4, 5] [some (bD B), x1, x2, none, none, none, none] = some (.new (.lst ((B.map (·.1)).map .int)), [some (bD B), x1, x2, none, none, none, none]) := fun x1 x2 => by
    refine lcX enc B (fun p => .int p.1) (e' := [some (bD B), x1, x2, none, none, none, none]) ?_ (List.map_map).symm rfl ?_
    · rfl
    exact fun p hp => ⟨[some (bD B), x1, x2, none, some (.int p.1), some (.int p.2), none], .val (.int p.1), _, rfl, rfl, rfl, rfl⟩
  have e1 : ∀ (x1 x2 : Option D), e_lc (it_e (e_v 0)) (tg_t [tg_n 4, tg_n 5]) t_yes (e_v 5) [4, 5] [some (bD B), x1, x2, none, none, none, none] = some (.new (.lst ((B.map (·.2)).map .int)), [some (bD B), x1, x2, none, none, none, none]) := fun x1 x2 => by
    refine lcX enc B (fun p => .int p.2) (e' := [some (bD B), x1, x2, none, none, none, none]) ?_ (List.map_map).symm rfl ?_
    · rfl
    exact fun p hp => ⟨[some (bD B), x1, x2, none, some (.int p.1), some (.int p.2), none], .val (.int p.2), _, rfl, rfl, rfl, rfl⟩
  have n1 : B.map (·.1) ≠ [] := fun z => h.pos (List.map_eq_nil_iff.mp z)
  have n2 : B.map (·.2) ≠ [] := fun z => h.pos (List.map_eq_nil_iff.mp z)
  obtain ⟨e', h1, x3, x4, x5, h2⟩ := for_pre (fun x : (Int × Int) × Nat => D.tup [.int (x.2 : Nat), enc x.1]) (g := tg_t [tg_n 3, tg_t [tg_n 4, tg_n 5]])
    (b := s_ex (e_meth m_extend 2 (a_cons (e_lc (it_e (e_call F_others_of_21 (a_cons (e_v 0) (a_cons (e_v 3) a_nil)))) (tg_n 6) t_yes (e_bin o_sub (e_v 5) (e_bin o_ix (e_v 6) (e_c (.int 0)))) [6]) a_nil)))
    (fun done e => ∃ x3 x4 x5, e = [some (bD B), some (.int (low B)), some (.lst ((0 :: done.flatMap fun x => (oth B x.2).map fun q => x.1.2 - q.1).map .int)), x3, x4, x5, none]) B.zipIdx
    [some (bD B), some (.int (low B)), some (.lst [.int 0]), none, none, none, none] ⟨none, none, none, rfl⟩ (fun done a rest e hf hi => by
      obtain ⟨x3, x4, x5, rfl⟩ := hi
      obtain ⟨p, k⟩ := a
      have hz : B[k]? = some p := mem_zip.mp (by rw [hf]; exact List.mem_append_right _ List.mem_cons_self)
      have hk := (List.getElem?_eq_some_iff.mp hz).1
      have hd : done.length + (rest.length + 1) = B.length := by
        have := congrArg List.length hf
        rw [List.length_zipIdx, List.length_append, List.length_cons] at this
        exact this.symm
      refine ⟨[some (bD B), some (.int (low B)), some (.lst ((0 :: done.flatMap fun x => (oth B x.2).map fun q => x.1.2 - q.1).map .int)), some (.int (k : Nat)), some (.int p.1), some (.int p.2), none], [some (bD B), some (.int (low B)), some (.lst ((0 :: (done ++ [(p, k)]).flatMap fun x => (oth B x.2).map fun q => x.1.2 - q.1).map .int)), some (.int (k : Nat)), some (.int p.1), some (.int p.2), none], rfl, .inl ?_, _, _, _, rfl⟩
      have lc : ∀ acc : D, e_lc (it_e (e_call F_others_of_21 (a_cons (e_v 0) (a_cons (e_v 3) a_nil)))) (tg_n 6) t_yes (e_bin o_sub (e_v 5) (e_bin o_ix (e_v 6) (e_c (.int 0)))) [6] [some (bD B), some (.int (low B)), some acc, some (.int (k : Nat)), some (.int p.1), some (.int p.2), none] =
          some (.new (.lst (((oth B k).map fun q => p.2 - q.1).map .int)), [some (bD B), some (.int (low B)), some acc, some (.int (k : Nat)), some (.int p.1), some (.int p.2), none]) := fun acc => by
        refine lcX enc (oth B k) (fun q => .int (p.2 - q.1)) (e' := [some (bD B), some (.int (low B)), some acc, some (.int (k : Nat)), some (.int p.1), some (.int p.2), none]) ?_ (List.map_map).symm rfl ?_
        · simp only [fn, fnM, fin, finM, R.res, R.resM, e_v, e_o, e_c, e_un, e_bin, e_chain, e_and, e_or, e_not, e_if, t_v, t_and, t_or, t_not, t_yes, a_nil, a_cons, a_star, e_tup, e_lst, e_tupS, e_lstS, e_call, e_callM, e_meth, e_bm, e_cut, p_no, p_e, tg_n, tg_t, tg_s, s_nil, s_then, s_seq, s_set, s_setO, s_par2, s_par3, pick, s_tgt, s_ex, s_ret, s_retN, s_if, s_setix, it_e, it_r1, it_r2, it_enum, it_zip, e_lstR, e_tupR, R.at, R.st, R.ats, R.sts, R.atx, R.atxs, R.new?, R.bl?, R.seq?, D.seq?, D.int?, D.bl?, D.str?, D.tup?, D.lst?, D.ty?, En.g, En.p, En.wipe, En.back, Option.bind_some, Option.bind_none, List.length_cons, List.length_nil, List.map_cons, List.map_nil, List.replicate, List.cons_append, List.nil_append, List.set_cons_zero, List.set_cons_succ, List.getElem?_cons_zero, List.getElem?_cons_succ, List.getElem?_nil, Option.join_some, Option.join_none, Nat.reduceAdd, Nat.reduceSub, reduceIte, if_true, if_false, Bool.false_eq_true, D.flat, D.flats, flatIn_l, Bool.and_true, Bool.true_and, Bool.and_self, ix_t0, ix_t1, ix_t2, ix_l0, ix_l1, ix_l2, len_t, len_l, tup_l, add_i, max_2, min_2, sub_i, lt_i, le_i, gt_i, ge_i, neg_i, ne_i, eq_i, ne_s, eq_s, ne_b, eq_b, int_i, int_b, abs_i, others h hk]
        exact fun q hq => ⟨[some (bD B), some (.int (low B)), some acc, some (.int (k : Nat)), some (.int p.1), some (.int p.2), some (enc q)], .val (.int (p.2 - q.1)), [some (bD B), some (.int (low B)), some acc, some (.int (k : Nat)), some (.int p.1), some (.int p.2), some (enc q)], rfl, rfl, rfl, rfl⟩
      have hlen : ((0 :: done.flatMap fun x => (oth B x.2).map fun q => x.1.2 - q.1).map D.int).length + (((oth B k).map fun q => p.2 - q.1).map D.int).length ≤ SZ := by
        have l1 := len_flat (l := done) (c := 20) (f := fun x : (Int × Int) × Nat => (oth B x.2).map fun q => x.1.2 - q.1) fun a _ => by
          rw [List.length_map]
          exact Nat.le_trans (len_oth B a.2) h.few
        have l2 := len_oth B k
        have l3 := h.few
        rw [List.length_map, List.length_map, List.length_map, List.length_cons]
        rw [sz_val]
        have : done.length * 20 ≤ 20 * 20 := Nat.mul_le_mul (by omega) (Nat.le_refl _)
        omega
      simp only [s_ex, e_meth, a_cons, a_nil, En.g, D.lst?, lc, m_extend, List.getElem?_cons_zero, List.getElem?_cons_succ, Option.join_some, Option.bind_some, R.sts, R.st]
      rw [if_pos hlen]
      simp only [fn, fnM, fin, finM, R.res, R.resM, e_v, e_o, e_c, e_un, e_bin, e_chain, e_and, e_or, e_not, e_if, t_v, t_and, t_or, t_not, t_yes, a_nil, a_cons, a_star, e_tup, e_lst, e_tupS, e_lstS, e_call, e_callM, e_meth, e_bm, e_cut, p_no, p_e, tg_n, tg_t, tg_s, s_nil, s_then, s_seq, s_set, s_setO, s_par2, s_par3, pick, s_tgt, s_ex, s_ret, s_retN, s_if, s_setix, it_e, it_r1, it_r2, it_enum, it_zip, e_lstR, e_tupR, R.at, R.st, R.ats, R.sts, R.atx, R.atxs, R.new?, R.bl?, R.seq?, D.seq?, D.int?, D.bl?, D.str?, D.tup?, D.lst?, D.ty?, En.g, En.p, En.wipe, En.back, Option.bind_some, Option.bind_none, List.length_cons, List.length_nil, List.map_cons, List.map_nil, List.replicate, List.cons_append, List.nil_append, List.set_cons_zero, List.set_cons_succ, List.getElem?_cons_zero, List.getElem?_cons_succ, List.getElem?_nil, Option.join_some, Option.join_none, Nat.reduceAdd, Nat.reduceSub, reduceIte, if_true, if_false, Bool.false_eq_true, D.flat, D.flats, flatIn_l, Bool.and_true, Bool.true_and, Bool.and_self, ix_t0, ix_t1, ix_t2, ix_l0, ix_l1, ix_l2, len_t, len_l, tup_l, add_i, max_2, min_2, sub_i, lt_i, le_i, gt_i, ge_i, neg_i, ne_i, eq_i, ne_s, eq_s, ne_b, eq_b, int_i, int_b, abs_i, List.flatMap_append, List.flatMap_cons, List.flatMap_nil, List.append_nil, List.map_append])
  subst h2
  have h3 : forLoop (tg_t [tg_n 3, tg_t [tg_n 4, tg_n 5]]) (s_ex (e_meth m_extend 2 (a_cons (e_lc (it_e (e_call F_others_of_21 (a_cons (e_v 0) (a_cons (e_v 3) a_nil)))) (tg_n 6) t_yes (e_bin o_sub (e_v 5) (e_bin o_ix (e_v 6) (e_c (.int 0)))) [6]) a_nil))) (enumFrom 0 (B.map enc))
      [some (bD B), some (.int (low B)), some (.lst [.int 0]), none, none, none, none] = some (.nx [some (bD B), some (.int (low B)), some (.lst ((dl B).map .int)), x3, x4, x5, none]) := by
    rw [enum_enc]
    exact h1
  simp only [F_unevenness_22, B_unevenness_22, fn, fnM, fin, finM, R.res, R.resM, e_v, e_o, e_c, e_un, e_bin, e_chain, e_and, e_or, e_not, e_if, t_v, t_and, t_or, t_not, t_yes, a_nil, a_cons, a_star, e_tup, e_lst, e_tupS, e_lstS, e_call, e_callM, e_meth, e_bm, e_cut, p_no, p_e, tg_n, tg_t, tg_s, s_nil, s_then, s_seq, s_set, s_setO, s_par2, s_par3, pick, s_tgt, s_ex, s_ret, s_retN, s_if, s_setix, it_e, it_r1, it_r2, it_enum, it_zip, e_lstR, e_tupR, R.at, R.st, R.ats, R.sts, R.atx, R.atxs, R.new?, R.bl?, R.seq?, D.seq?, D.int?, D.bl?, D.str?, D.tup?, D.lst?, D.ty?, En.g, En.p, En.wipe, En.back, Option.bind_some, Option.bind_none, List.length_cons, List.length_nil, List.map_cons, List.map_nil, List.replicate, List.cons_append, List.nil_append, List.set_cons_zero, List.set_cons_succ, List.getElem?_cons_zero, List.getElem?_cons_succ, List.getElem?_nil, Option.join_some, Option.join_none, Nat.reduceAdd, Nat.reduceSub, reduceIte, if_true, if_false, Bool.false_eq_true, D.flat, D.flats, flatIn_l, Bool.and_true, Bool.true_and, Bool.and_self, ix_t0, ix_t1, ix_t2, ix_l0, ix_l1, ix_l2, len_t, len_l, tup_l, add_i, max_2, min_2, sub_i, lt_i, le_i, gt_i, ge_i, neg_i, ne_i, eq_i, ne_s, eq_s, ne_b, eq_b, int_i, int_b, abs_i, check h, e0, e1, max_l n1, min_l n2, s_for]
  rw [show (mx (B.map (·.1)) - mn (B.map (·.2))) = low B from rfl, h3]
  simp only [fn, fnM, fin, finM, R.res, R.resM, e_v, e_o, e_c, e_un, e_bin, e_chain, e_and, e_or, e_not, e_if, t_v, t_and, t_or, t_not, t_yes, a_nil, a_cons, a_star, e_tup, e_lst, e_tupS, e_lstS, e_call, e_callM, e_meth, e_bm, e_cut, p_no, p_e, tg_n, tg_t, tg_s, s_nil, s_then, s_seq, s_set, s_setO, s_par2, s_par3, pick, s_tgt, s_ex, s_ret, s_retN, s_if, s_setix, it_e, it_r1, it_r2, it_enum, it_zip, e_lstR, e_tupR, R.at, R.st, R.ats, R.sts, R.atx, R.atxs, R.new?, R.bl?, R.seq?, D.seq?, D.int?, D.bl?, D.str?, D.tup?, D.lst?, D.ty?, En.g, En.p, En.wipe, En.back, Option.bind_some, Option.bind_none, List.length_cons, List.length_nil, List.map_cons, List.map_nil, List.replicate, List.cons_append, List.nil_append, List.set_cons_zero, List.set_cons_succ, List.getElem?_cons_zero, List.getElem?_cons_succ, List.getElem?_nil, Option.join_some, Option.join_none, Nat.reduceAdd, Nat.reduceSub, reduceIte, if_true, if_false, Bool.false_eq_true, D.flat, D.flats, flatIn_l, Bool.and_true, Bool.true_and, Bool.and_self, ix_t0, ix_t1, ix_t2, ix_l0, ix_l1, ix_l2, len_t, len_l, tup_l, add_i, max_2, min_2, sub_i, lt_i, le_i, gt_i, ge_i, neg_i, ne_i, eq_i, ne_s, eq_s, ne_b, eq_b, int_i, int_b, abs_i, max_l (show dl B ≠ [] from fun z => by cases z)]
  rfl
end G56
namespace G56
open PySem Mini
def dl2 (B : List (Int × Int)) : List Int := 0 :: B.zipIdx.flatMap fun x => (B.zipIdx.filter fun y => !((y.2 : Int) == (x.2 : Int))).map fun y => x.1.2 - y.1.1
theorem mem_dl2 {B : List (Int × Int)} {v : Int} : v ∈ dl2 B ↔ v = 0 ∨ ∃ (i j : Nat) (p q : Int × Int), i ≠ j ∧ B[i]? = some p ∧ B[j]? = some q ∧ v = p.2 - q.1 := by
  unfold dl2
  rw [List.mem_cons]
  refine or_congr Iff.rfl ⟨fun h => ?_, fun ⟨i, j, p, q, hn, hp, hq, e⟩ => ?_⟩
  · obtain ⟨⟨p, i⟩, h1, h2⟩ := List.mem_flatMap.mp h
    obtain ⟨⟨q, j⟩, h3, e⟩ := List.mem_map.mp h2
    obtain ⟨h4, h5⟩ := List.mem_filter.mp h3
    refine ⟨i, j, p, q, fun z => ?_, mem_zip.mp h1, mem_zip.mp h4, e.symm⟩
    subst z
    simp at h5
  · refine List.mem_flatMap.mpr ⟨(p, i), mem_zip.mpr hp, List.mem_map.mpr ⟨(q, j), List.mem_filter.mpr ⟨mem_zip.mpr hq, ?_⟩, e.symm⟩⟩
    simp only [Bool.not_eq_true', beq_eq_false_iff_ne]
    exact fun z => hn (Int.ofNat_inj.mp z).symm
theorem mst2 (B : List (Int × Int)) : mx (dl2 B) = mst B := mx_congr fun v => mem_dl2.trans mem_dl.symm
theorem law_uneven {B : List (Int × Int)} (h : Ok B) : F__law_unevenness_82 [bD B] = some (.val (.tup [.int (lst B), .int (mst B)])) := by
  have e0 : ∀ (x1 x2 : Option D), e_lc (it_e (e_v 0)) (tg_t [tg_n 4, tg_n 5]) t_yes (e_v 4) [4, 5] [some (bD B), x1, x2, none, none, none, none, none] = some (.new (.lst ((B.map (·.1)).map .int)), [some (bD B), x1, x2, none, none, none, none, none]) := fun x1 x2 => by
    refine lcX enc B (fun p => .int p.1) (e' := [some (bD B), x1, x2, none, none, none, none, none]) ?_ (List.map_map).symm rfl ?_
    · rfl
    exact fun p hp => ⟨[some (bD B), x1, x2, none, some (.int p.1), some (.int p.2), none, none], .val (.int p.1), _, rfl, rfl, rfl, rfl⟩
  have e1 : ∀ (x1 x2 : Option D), e_lc (it_e (e_v 0)) (tg_t [tg_n 4, tg_n 5]) t_yes (e_v 5) [4, 5] [some (bD B), x1, x2, none, none, none, none, none] = some (.new (.lst ((B.map (·.2)).map .int)), [some (bD B), x1, x2, none, none, none, none, none]) := fun x1 x2 => by
    refine lcX enc B (fun p => .int p.2) (e' := [some (bD B), x1, x2, none, none, none, none, none]) ?_ (List.map_map).symm rfl ?_
    · rfl
    exact fun p hp => ⟨[some (bD B), x1, x2, none, some (.int p.1), some (.int p.2), none, none], .val (.int p.2), _, rfl, rfl, rfl, rfl⟩
  have n1 : B.map (·.1) ≠ [] := fun z => h.pos (List.map_eq_nil_iff.mp z)
  have n2 : B.map (·.2) ≠ [] := fun z => h.pos (List.map_eq_nil_iff.mp z)
  obtain ⟨e', h1, x3, x4, x5, h2⟩ := for_pre (fun x : (Int × Int) × Nat => D.tup [.int (x.2 : Nat), enc x.1]) (g := tg_t [tg_n 3, tg_t [tg_n 4, tg_n 5]])
    (b := s_ex (e_meth m_extend 2 (a_cons (e_lc (it_enum (e_v 0)) (tg_t [tg_n 6, tg_n 7]) (t_v (e_bin o_ne (e_v 6) (e_v 3))) (e_bin o_sub (e_v 5) (e_bin o_ix (e_v 7) (e_c (.int 0)))) [6, 7]) a_nil)))
    (fun done e => ∃ x3 x4 x5, e = [some (bD B), some (.int (low B)), some (.lst ((0 :: done.flatMap fun x => (B.zipIdx.filter fun y => !((y.2 : Int) == (x.2 : Int))).map fun y => x.1.2 - y.1.1).map .int)), x3, x4, x5, none, none]) B.zipIdx
    [some (bD B), some (.int (low B)), some (.lst [.int 0]), none, none, none, none, none] ⟨none, none, none, rfl⟩ (fun done a rest e hf hi => by
      obtain ⟨x3, x4, x5, rfl⟩ := hi
      obtain ⟨p, k⟩ := a
      have hd : done.length + (rest.length + 1) = B.length := by
        have := congrArg List.length hf
        rw [List.length_zipIdx, List.length_append, List.length_cons] at this
        exact this.symm
      refine ⟨[some (bD B), some (.int (low B)), some (.lst ((0 :: done.flatMap fun x => (B.zipIdx.filter fun y => !((y.2 : Int) == (x.2 : Int))).map fun y => x.1.2 - y.1.1).map .int)), some (.int (k : Nat)), some (.int p.1), some (.int p.2), none, none],
        [some (bD B), some (.int (low B)), some (.lst ((0 :: (done ++ [(p, k)]).flatMap fun x => (B.zipIdx.filter fun y => !((y.2 : Int) == (x.2 : Int))).map fun y => x.1.2 - y.1.1).map .int)), some (.int (k : Nat)), some (.int p.1), some (.int p.2), none, none], rfl, .inl ?_, _, _, _, rfl⟩
      have lc : ∀ acc : D, e_lc (it_enum (e_v 0)) (tg_t [tg_n 6, tg_n 7]) (t_v (e_bin o_ne (e_v 6) (e_v 3))) (e_bin o_sub (e_v 5) (e_bin o_ix (e_v 7) (e_c (.int 0)))) [6, 7] [some (bD B), some (.int (low B)), some acc, some (.int (k : Nat)), some (.int p.1), some (.int p.2), none, none] =
          some (.new (.lst (((B.zipIdx.filter fun y => !((y.2 : Int) == (k : Int))).map fun y => p.2 - y.1.1).map .int)), [some (bD B), some (.int (low B)), some acc, some (.int (k : Nat)), some (.int p.1), some (.int p.2), none, none]) := fun acc => by
        refine lcY (fun x : (Int × Int) × Nat => D.tup [.int (x.2 : Nat), enc x.1]) B.zipIdx (fun y => !((y.2 : Int) == (k : Int))) (fun y => .int (p.2 - y.1.1)) (e' := [some (bD B), some (.int (low B)), some acc, some (.int (k : Nat)), some (.int p.1), some (.int p.2), none, none]) ?_ (List.map_map).symm rfl ?_
        · simp only [fn, fnM, fin, finM, R.res, R.resM, e_v, e_o, e_c, e_un, e_bin, e_chain, e_and, e_or, e_not, e_if, t_v, t_and, t_or, t_not, t_yes, a_nil, a_cons, a_star, e_tup, e_lst, e_tupS, e_lstS, e_call, e_callM, e_meth, e_bm, e_cut, p_no, p_e, tg_n, tg_t, tg_s, s_nil, s_then, s_seq, s_set, s_setO, s_par2, s_par3, pick, s_tgt, s_ex, s_ret, s_retN, s_if, s_setix, it_e, it_r1, it_r2, it_enum, it_zip, e_lstR, e_tupR, R.at, R.st, R.ats, R.sts, R.atx, R.atxs, R.new?, R.bl?, R.seq?, D.seq?, D.int?, D.bl?, D.str?, D.tup?, D.lst?, D.ty?, En.g, En.p, En.wipe, En.back, Option.bind_some, Option.bind_none, List.length_cons, List.length_nil, List.map_cons, List.map_nil, List.replicate, List.cons_append, List.nil_append, List.set_cons_zero, List.set_cons_succ, List.getElem?_cons_zero, List.getElem?_cons_succ, List.getElem?_nil, Option.join_some, Option.join_none, Nat.reduceAdd, Nat.reduceSub, reduceIte, if_true, if_false, Bool.false_eq_true, D.flat, D.flats, flatIn_l, Bool.and_true, Bool.true_and, Bool.and_self, ix_t0, ix_t1, ix_t2, ix_l0, ix_l1, ix_l2, len_t, len_l, tup_l, add_i, max_2, min_2, sub_i, lt_i, le_i, gt_i, ge_i, neg_i, ne_i, eq_i, ne_s, eq_s, ne_b, eq_b, int_i, int_b, abs_i, enum_enc]
        intro y hy
        exact ⟨[some (bD B), some (.int (low B)), some acc, some (.int (k : Nat)), some (.int p.1), some (.int p.2), some (.int (y.2 : Nat)), some (enc y.1)], [some (bD B), some (.int (low B)), some acc, some (.int (k : Nat)), some (.int p.1), some (.int p.2), some (.int (y.2 : Nat)), some (enc y.1)], rfl, rfl,
          fun _ => ⟨.val (.int (p.2 - y.1.1)), [some (bD B), some (.int (low B)), some acc, some (.int (k : Nat)), some (.int p.1), some (.int p.2), some (.int (y.2 : Nat)), some (enc y.1)], rfl, rfl, rfl⟩, fun _ => rfl⟩
      have hlen : ((0 :: done.flatMap fun x => (B.zipIdx.filter fun y => !((y.2 : Int) == (x.2 : Int))).map fun y => x.1.2 - y.1.1).map D.int).length + (((B.zipIdx.filter fun y => !((y.2 : Int) == (k : Int))).map fun y => p.2 - y.1.1).map D.int).length ≤ SZ := by
        have l0 : ∀ f : (Int × Int) × Nat → Bool, (B.zipIdx.filter f).length ≤ 20 := fun f => Nat.le_trans (List.length_filter_le _ _) (by rw [List.length_zipIdx]; exact h.few)
        have l1 := len_flat (l := done) (c := 20) (f := fun x : (Int × Int) × Nat => (B.zipIdx.filter fun y => !((y.2 : Int) == (x.2 : Int))).map fun y => x.1.2 - y.1.1) fun a _ => by
          rw [List.length_map]
          exact l0 _
        have l2 := l0 fun y => !((y.2 : Int) == (k : Int))
        have l3 := h.few
        rw [List.length_map, List.length_map, List.length_map, List.length_cons]
        rw [sz_val]
        have : done.length * 20 ≤ 20 * 20 := Nat.mul_le_mul (by omega) (Nat.le_refl _)
        omega
      simp only [s_ex, e_meth, a_cons, a_nil, En.g, D.lst?, lc, m_extend, List.getElem?_cons_zero, List.getElem?_cons_succ, Option.join_some, Option.bind_some, R.sts, R.st]
      rw [if_pos hlen]
      simp only [fn, fnM, fin, finM, R.res, R.resM, e_v, e_o, e_c, e_un, e_bin, e_chain, e_and, e_or, e_not, e_if, t_v, t_and, t_or, t_not, t_yes, a_nil, a_cons, a_star, e_tup, e_lst, e_tupS, e_lstS, e_call, e_callM, e_meth, e_bm, e_cut, p_no, p_e, tg_n, tg_t, tg_s, s_nil, s_then, s_seq, s_set, s_setO, s_par2, s_par3, pick, s_tgt, s_ex, s_ret, s_retN, s_if, s_setix, it_e, it_r1, it_r2, it_enum, it_zip, e_lstR, e_tupR, R.at, R.st, R.ats, R.sts, R.atx, R.atxs, R.new?, R.bl?, R.seq?, D.seq?, D.int?, D.bl?, D.str?, D.tup?, D.lst?, D.ty?, En.g, En.p, En.wipe, En.back, Option.bind_some, Option.bind_none, List.length_cons, List.length_nil, List.map_cons, List.map_nil, List.replicate, List.cons_append, List.nil_append, List.set_cons_zero, List.set_cons_succ, List.getElem?_cons_zero, List.getElem?_cons_succ, List.getElem?_nil, Option.join_some, Option.join_none, Nat.reduceAdd, Nat.reduceSub, reduceIte, if_true, if_false, Bool.false_eq_true, D.flat, D.flats, flatIn_l, Bool.and_true, Bool.true_and, Bool.and_self, ix_t0, ix_t1, ix_t2, ix_l0, ix_l1, ix_l2, len_t, len_l, tup_l, add_i, max_2, min_2, sub_i, lt_i, le_i, gt_i, ge_i, neg_i, ne_i, eq_i, ne_s, eq_s, ne_b, eq_b, int_i, int_b, abs_i, List.flatMap_append, List.flatMap_cons, List.flatMap_nil, List.append_nil, List.map_append])
  subst h2
  have h3 : forLoop (tg_t [tg_n 3, tg_t [tg_n 4, tg_n 5]]) (s_ex (e_meth m_extend 2 (a_cons (e_lc (it_enum (e_v 0)) (tg_t [tg_n 6, tg_n 7]) (t_v (e_bin o_ne (e_v 6) (e_v 3))) (e_bin o_sub (e_v 5) (e_bin o_ix (e_v 7) (e_c (.int 0)))) [6, 7]) a_nil))) (enumFrom 0 (B.map enc))
      [some (bD B), some (.int (low B)), some (.lst [.int 0]), none, none, none, none, none] = some (.nx [some (bD B), some (.int (low B)), some (.lst ((dl2 B).map .int)), x3, x4, x5, none, none]) := by
    rw [enum_enc]
    exact h1
  simp only [F__law_unevenness_82, B__law_unevenness_82, fn, fnM, fin, finM, R.res, R.resM, e_v, e_o, e_c, e_un, e_bin, e_chain, e_and, e_or, e_not, e_if, t_v, t_and, t_or, t_not, t_yes, a_nil, a_cons, a_star, e_tup, e_lst, e_tupS, e_lstS, e_call, e_callM, e_meth, e_bm, e_cut, p_no, p_e, tg_n, tg_t, tg_s, s_nil, s_then, s_seq, s_set, s_setO, s_par2, s_par3, pick, s_tgt, s_ex, s_ret, s_retN, s_if, s_setix, it_e, it_r1, it_r2, it_enum, it_zip, e_lstR, e_tupR, R.at, R.st, R.ats, R.sts, R.atx, R.atxs, R.new?, R.bl?, R.seq?, D.seq?, D.int?, D.bl?, D.str?, D.tup?, D.lst?, D.ty?, En.g, En.p, En.wipe, En.back, Option.bind_some, Option.bind_none, List.length_cons, List.length_nil, List.map_cons, List.map_nil, List.replicate, List.cons_append, List.nil_append, List.set_cons_zero, List.set_cons_succ, List.getElem?_cons_zero, List.getElem?_cons_succ, List.getElem?_nil, Option.join_some, Option.join_none, Nat.reduceAdd, Nat.reduceSub, reduceIte, if_true, if_false, Bool.false_eq_true, D.flat, D.flats, flatIn_l, Bool.and_true, Bool.true_and, Bool.and_self, ix_t0, ix_t1, ix_t2, ix_l0, ix_l1, ix_l2, len_t, len_l, tup_l, add_i, max_2, min_2, sub_i, lt_i, le_i, gt_i, ge_i, neg_i, ne_i, eq_i, ne_s, eq_s, ne_b, eq_b, int_i, int_b, abs_i, e0, e1, max_l n1, min_l n2, s_for]
  rw [show (mx (B.map (·.1)) - mn (B.map (·.2))) = low B from rfl, h3]
  simp only [fn, fnM, fin, finM, R.res, R.resM, e_v, e_o, e_c, e_un, e_bin, e_chain, e_and, e_or, e_not, e_if, t_v, t_and, t_or, t_not, t_yes, a_nil, a_cons, a_star, e_tup, e_lst, e_tupS, e_lstS, e_call, e_callM, e_meth, e_bm, e_cut, p_no, p_e, tg_n, tg_t, tg_s, s_nil, s_then, s_seq, s_set, s_setO, s_par2, s_par3, pick, s_tgt, s_ex, s_ret, s_retN, s_if, s_setix, it_e, it_r1, it_r2, it_enum, it_zip, e_lstR, e_tupR, R.at, R.st, R.ats, R.sts, R.atx, R.atxs, R.new?, R.bl?, R.seq?, D.seq?, D.int?, D.bl?, D.str?, D.tup?, D.lst?, D.ty?, En.g, En.p, En.wipe, En.back, Option.bind_some, Option.bind_none, List.length_cons, List.length_nil, List.map_cons, List.map_nil, List.replicate, List.cons_append, List.nil_append, List.set_cons_zero, List.set_cons_succ, List.getElem?_cons_zero, List.getElem?_cons_succ, List.getElem?_nil, Option.join_some, Option.join_none, Nat.reduceAdd, Nat.reduceSub, reduceIte, if_true, if_false, Bool.false_eq_true, D.flat, D.flats, flatIn_l, Bool.and_true, Bool.true_and, Bool.and_self, ix_t0, ix_t1, ix_t2, ix_l0, ix_l1, ix_l2, len_t, len_l, tup_l, add_i, max_2, min_2, sub_i, lt_i, le_i, gt_i, ge_i, neg_i, ne_i, eq_i, ne_s, eq_s, ne_b, eq_b, int_i, int_b, abs_i, max_l (show dl2 B ≠ [] from fun z => by cases z), mst2]
  rfl
/-! ### even -/
abbrev sSure : Str := "sure"
abbrev sNever : Str := "never"
abbrev sOpen : Str := "open"
def word (B : List (Int × Int)) (w : Int) : Str := if mst B ≤ w then sSure else if w < lst B then sNever else sOpen
theorem even {B : List (Int × Int)} {w : Int} (h : Ok B) (h0 : 0 ≤ w) (h1 : w ≤ 1000) : F_even_23 [bD B, .int w] = some (.val (.str (word B w))) := by
  simp only [F_even_23, B_even_23, fn, fnM, fin, finM, R.res, R.resM, e_v, e_o, e_c, e_un, e_bin, e_chain, e_and, e_or, e_not, e_if, t_v, t_and, t_or, t_not, t_yes, a_nil, a_cons, a_star, e_tup, e_lst, e_tupS, e_lstS, e_call, e_callM, e_meth, e_bm, e_cut, p_no, p_e, tg_n, tg_t, tg_s, s_nil, s_then, s_seq, s_set, s_setO, s_par2, s_par3, pick, s_tgt, s_ex, s_ret, s_retN, s_if, s_setix, it_e, it_r1, it_r2, it_enum, it_zip, e_lstR, e_tupR, R.at, R.st, R.ats, R.sts, R.atx, R.atxs, R.new?, R.bl?, R.seq?, D.seq?, D.int?, D.bl?, D.str?, D.tup?, D.lst?, D.ty?, En.g, En.p, En.wipe, En.back, Option.bind_some, Option.bind_none, List.length_cons, List.length_nil, List.map_cons, List.map_nil, List.replicate, List.cons_append, List.nil_append, List.set_cons_zero, List.set_cons_succ, List.getElem?_cons_zero, List.getElem?_cons_succ, List.getElem?_nil, Option.join_some, Option.join_none, Nat.reduceAdd, Nat.reduceSub, reduceIte, if_true, if_false, Bool.false_eq_true, D.flat, D.flats, flatIn_l, Bool.and_true, Bool.true_and, Bool.and_self, ix_t0, ix_t1, ix_t2, ix_l0, ix_l1, ix_l2, len_t, len_l, tup_l, add_i, max_2, min_2, sub_i, lt_i, le_i, gt_i, ge_i, neg_i, ne_i, eq_i, ne_s, eq_s, ne_b, eq_b, int_i, int_b, abs_i, check h, integer, uneven h, decide_eq_true (show 0 ≤ w ∧ w ≤ 1000 from ⟨h0, h1⟩), Bool.not_true]
  unfold word
  by_cases h2 : mst B ≤ w
  · simp [fn, fnM, fin, finM, R.res, R.resM, e_v, e_o, e_c, e_un, e_bin, e_chain, e_and, e_or, e_not, e_if, t_v, t_and, t_or, t_not, t_yes, a_nil, a_cons, a_star, e_tup, e_lst, e_tupS, e_lstS, e_call, e_callM, e_meth, e_bm, e_cut, p_no, p_e, tg_n, tg_t, tg_s, s_nil, s_then, s_seq, s_set, s_setO, s_par2, s_par3, pick, s_tgt, s_ex, s_ret, s_retN, s_if, s_setix, it_e, it_r1, it_r2, it_enum, it_zip, e_lstR, e_tupR, R.at, R.st, R.ats, R.sts, R.atx, R.atxs, R.new?, R.bl?, R.seq?, D.seq?, D.int?, D.bl?, D.str?, D.tup?, D.lst?, D.ty?, En.g, En.p, En.wipe, En.back, Option.bind_some, Option.bind_none, List.length_cons, List.length_nil, List.map_cons, List.map_nil, List.replicate, List.cons_append, List.nil_append, List.set_cons_zero, List.set_cons_succ, List.getElem?_cons_zero, List.getElem?_cons_succ, List.getElem?_nil, Option.join_some, Option.join_none, Nat.reduceAdd, Nat.reduceSub, reduceIte, if_true, if_false, Bool.false_eq_true, D.flat, D.flats, flatIn_l, Bool.and_true, Bool.true_and, Bool.and_self, ix_t0, ix_t1, ix_t2, ix_l0, ix_l1, ix_l2, len_t, len_l, tup_l, add_i, max_2, min_2, sub_i, lt_i, le_i, gt_i, ge_i, neg_i, ne_i, eq_i, ne_s, eq_s, ne_b, eq_b, int_i, int_b, abs_i, h2]
  · by_cases h3 : w < lst B
    · simp [fn, fnM, fin, finM, R.res, R.resM, e_v, e_o, e_c, e_un, e_bin, e_chain, e_and, e_or, e_not, e_if, t_v, t_and, t_or, t_not, t_yes, a_nil, a_cons, a_star, e_tup, e_lst, e_tupS, e_lstS, e_call, e_callM, e_meth, e_bm, e_cut, p_no, p_e, tg_n, tg_t, tg_s, s_nil, s_then, s_seq, s_set, s_setO, s_par2, s_par3, pick, s_tgt, s_ex, s_ret, s_retN, s_if, s_setix, it_e, it_r1, it_r2, it_enum, it_zip, e_lstR, e_tupR, R.at, R.st, R.ats, R.sts, R.atx, R.atxs, R.new?, R.bl?, R.seq?, D.seq?, D.int?, D.bl?, D.str?, D.tup?, D.lst?, D.ty?, En.g, En.p, En.wipe, En.back, Option.bind_some, Option.bind_none, List.length_cons, List.length_nil, List.map_cons, List.map_nil, List.replicate, List.cons_append, List.nil_append, List.set_cons_zero, List.set_cons_succ, List.getElem?_cons_zero, List.getElem?_cons_succ, List.getElem?_nil, Option.join_some, Option.join_none, Nat.reduceAdd, Nat.reduceSub, reduceIte, if_true, if_false, Bool.false_eq_true, D.flat, D.flats, flatIn_l, Bool.and_true, Bool.true_and, Bool.and_self, ix_t0, ix_t1, ix_t2, ix_l0, ix_l1, ix_l2, len_t, len_l, tup_l, add_i, max_2, min_2, sub_i, lt_i, le_i, gt_i, ge_i, neg_i, ne_i, eq_i, ne_s, eq_s, ne_b, eq_b, int_i, int_b, abs_i, h2, h3]
    · simp [fn, fnM, fin, finM, R.res, R.resM, e_v, e_o, e_c, e_un, e_bin, e_chain, e_and, e_or, e_not, e_if, t_v, t_and, t_or, t_not, t_yes, a_nil, a_cons, a_star, e_tup, e_lst, e_tupS, e_lstS, e_call, e_callM, e_meth, e_bm, e_cut, p_no, p_e, tg_n, tg_t, tg_s, s_nil, s_then, s_seq, s_set, s_setO, s_par2, s_par3, pick, s_tgt, s_ex, s_ret, s_retN, s_if, s_setix, it_e, it_r1, it_r2, it_enum, it_zip, e_lstR, e_tupR, R.at, R.st, R.ats, R.sts, R.atx, R.atxs, R.new?, R.bl?, R.seq?, D.seq?, D.int?, D.bl?, D.str?, D.tup?, D.lst?, D.ty?, En.g, En.p, En.wipe, En.back, Option.bind_some, Option.bind_none, List.length_cons, List.length_nil, List.map_cons, List.map_nil, List.replicate, List.cons_append, List.nil_append, List.set_cons_zero, List.set_cons_succ, List.getElem?_cons_zero, List.getElem?_cons_succ, List.getElem?_nil, Option.join_some, Option.join_none, Nat.reduceAdd, Nat.reduceSub, reduceIte, if_true, if_false, Bool.false_eq_true, D.flat, D.flats, flatIn_l, Bool.and_true, Bool.true_and, Bool.and_self, ix_t0, ix_t1, ix_t2, ix_l0, ix_l1, ix_l2, len_t, len_l, tup_l, add_i, max_2, min_2, sub_i, lt_i, le_i, gt_i, ge_i, neg_i, ne_i, eq_i, ne_s, eq_s, ne_b, eq_b, int_i, int_b, abs_i, h2, h3]
end G56
namespace G56
open PySem Mini
/-! ### turned round -/
theorem rev_get {B : List (Int × Int)} {i : Nat} {p : Int × Int} (h : B.reverse[i]? = some p) : i < B.length ∧ B[B.length - 1 - i]? = some p := by
  have hl := (List.getElem?_eq_some_iff.mp h).1
  rw [List.length_reverse] at hl
  rw [List.getElem?_reverse hl] at h
  exact ⟨hl, h⟩
theorem dl_rev1 {B : List (Int × Int)} {v : Int} (h : v ∈ dl B.reverse) : v ∈ dl B := by
  rcases mem_dl.mp h with h | ⟨i, j, p, q, hn, hp, hq, e⟩
  · exact mem_dl.mpr (.inl h)
  · obtain ⟨l1, h1⟩ := rev_get hp
    obtain ⟨l2, h2⟩ := rev_get hq
    exact mem_dl.mpr (.inr ⟨_, _, p, q, by omega, h1, h2, e⟩)
theorem mst_rev (B : List (Int × Int)) : mst B.reverse = mst B := mx_congr fun v => ⟨dl_rev1, fun h => dl_rev1 (by rw [List.reverse_reverse]; exact h)⟩
theorem lst_rev (B : List (Int × Int)) : lst B.reverse = lst B := by
  unfold lst low
  rw [mx_congr (l := B.reverse.map (·.1)) (l' := B.map (·.1)) fun v => by simp, mn_congr (l := B.reverse.map (·.2)) (l' := B.map (·.2)) fun v => by simp]
theorem word_rev (B : List (Int × Int)) (w : Int) : word B.reverse w = word B w := by
  unfold word
  rw [mst_rev, lst_rev]
theorem Ok.rev {B : List (Int × Int)} (h : Ok B) : Ok B.reverse := ⟨fun z => h.pos (List.reverse_eq_nil_iff.mp z), by rw [List.length_reverse]; exact h.few, fun p hp => h.fine p (List.mem_reverse.mp hp)⟩
theorem o_rev_B (B : List (Int × Int)) : o_rev (bD B) = some (.val (bD B.reverse)) := by
  show some (R.val (.tup (B.map enc).reverse)) = _
  rw [← List.map_reverse]
/-! ### one band -/
def verd (B : List (Int × Int)) (a b : Int) : Str := if (B.any fun p => decide (p.2 < a) || decide (b < p.1)) = true then sNever else if (B.all fun p => decide (a ≤ p.1) && decide (p.2 ≤ b)) = true then sSure else sOpen
theorem bounds_ok {B : List (Int × Int)} (h : Ok B) : F_is_bounds_65 [bD B] = some (.val (.bl true)) := by
  have e : F_is_tuple_1 [bD B, .int 1, .int 260] = some (.val (.bl true)) := by
    have h1 := h.few
    have h2 := List.length_pos_iff.mpr h.pos
    rw [tuple_ok, decide_eq_true (by rw [List.length_map]; omega)]
  have t2 : ∀ p : Int × Int, F_is_tuple_1 [enc p, .int 2, .int 2] = some (.val (.bl true)) := fun p => by rw [tuple_ok]; rfl
  have e1 : e_lc (it_e (e_v 0)) (tg_n 3) t_yes (e_call F_is_tuple_1 (a_cons (e_v 3) (a_cons (e_c (.int 2)) (a_cons (e_c (.int 2)) a_nil)))) [3] [some (bD B), none, none, none] = some (.new (.lst ((B.map fun _ => true).map .bl)), [some (bD B), none, none, none]) := by
    refine lcX enc B (fun p => .bl true) (e' := [some (bD B), none, none, none]) ?_ (List.map_map).symm rfl ?_
    · rfl
    exact fun p hp => ⟨[some (bD B), none, none, some (enc p)], .val (.bl true), [some (bD B), none, none, some (enc p)], rfl, by simp only [fn, fnM, fin, finM, R.res, R.resM, e_v, e_o, e_c, e_un, e_bin, e_chain, e_and, e_or, e_not, e_if, t_v, t_and, t_or, t_not, t_yes, a_nil, a_cons, a_star, e_tup, e_lst, e_tupS, e_lstS, e_call, e_callM, e_meth, e_bm, e_cut, p_no, p_e, tg_n, tg_t, tg_s, s_nil, s_then, s_seq, s_set, s_setO, s_par2, s_par3, pick, s_tgt, s_ex, s_ret, s_retN, s_if, s_setix, it_e, it_r1, it_r2, it_enum, it_zip, e_lstR, e_tupR, R.at, R.st, R.ats, R.sts, R.atx, R.atxs, R.new?, R.bl?, R.seq?, D.seq?, D.int?, D.bl?, D.str?, D.tup?, D.lst?, D.ty?, En.g, En.p, En.wipe, En.back, Option.bind_some, Option.bind_none, List.length_cons, List.length_nil, List.map_cons, List.map_nil, List.replicate, List.cons_append, List.nil_append, List.set_cons_zero, List.set_cons_succ, List.getElem?_cons_zero, List.getElem?_cons_succ, List.getElem?_nil, Option.join_some, Option.join_none, Nat.reduceAdd, Nat.reduceSub, reduceIte, if_true, if_false, Bool.false_eq_true, D.flat, D.flats, flatIn_l, Bool.and_true, Bool.true_and, Bool.and_self, ix_t0, ix_t1, ix_t2, ix_l0, ix_l1, ix_l2, len_t, len_l, tup_l, add_i, max_2, min_2, sub_i, lt_i, le_i, gt_i, ge_i, neg_i, ne_i, eq_i, ne_s, eq_s, ne_b, eq_b, int_i, int_b, abs_i, t2], rfl, rfl⟩
  have e2 : e_lc (it_e (e_v 0)) (tg_t [tg_n 1, tg_n 2]) t_yes (e_call F_is_integer_3 (a_cons (e_v 1) (a_cons (e_c (.int 0)) (a_cons (e_c (.int 1000)) a_nil)))) [1, 2] [some (bD B), none, none, none] = some (.new (.lst ((B.map fun _ => true).map .bl)), [some (bD B), none, none, none]) := by
    refine lcX enc B (fun p => .bl true) (e' := [some (bD B), none, none, none]) ?_ (List.map_map).symm rfl ?_
    · rfl
    exact fun p hp => ⟨[some (bD B), some (.int p.1), some (.int p.2), none], .val (.bl true), [some (bD B), some (.int p.1), some (.int p.2), none], rfl, by
      have := h.fine p hp
      simp only [fn, fnM, fin, finM, R.res, R.resM, e_v, e_o, e_c, e_un, e_bin, e_chain, e_and, e_or, e_not, e_if, t_v, t_and, t_or, t_not, t_yes, a_nil, a_cons, a_star, e_tup, e_lst, e_tupS, e_lstS, e_call, e_callM, e_meth, e_bm, e_cut, p_no, p_e, tg_n, tg_t, tg_s, s_nil, s_then, s_seq, s_set, s_setO, s_par2, s_par3, pick, s_tgt, s_ex, s_ret, s_retN, s_if, s_setix, it_e, it_r1, it_r2, it_enum, it_zip, e_lstR, e_tupR, R.at, R.st, R.ats, R.sts, R.atx, R.atxs, R.new?, R.bl?, R.seq?, D.seq?, D.int?, D.bl?, D.str?, D.tup?, D.lst?, D.ty?, En.g, En.p, En.wipe, En.back, Option.bind_some, Option.bind_none, List.length_cons, List.length_nil, List.map_cons, List.map_nil, List.replicate, List.cons_append, List.nil_append, List.set_cons_zero, List.set_cons_succ, List.getElem?_cons_zero, List.getElem?_cons_succ, List.getElem?_nil, Option.join_some, Option.join_none, Nat.reduceAdd, Nat.reduceSub, reduceIte, if_true, if_false, Bool.false_eq_true, D.flat, D.flats, flatIn_l, Bool.and_true, Bool.true_and, Bool.and_self, ix_t0, ix_t1, ix_t2, ix_l0, ix_l1, ix_l2, len_t, len_l, tup_l, add_i, max_2, min_2, sub_i, lt_i, le_i, gt_i, ge_i, neg_i, ne_i, eq_i, ne_s, eq_s, ne_b, eq_b, int_i, int_b, abs_i, integer, decide_eq_true (show 0 ≤ p.1 ∧ p.1 ≤ 1000 by omega)], rfl, rfl⟩
  have e3 : e_lc (it_e (e_v 0)) (tg_t [tg_n 1, tg_n 2]) t_yes (e_call F_is_integer_3 (a_cons (e_v 2) (a_cons (e_v 1) (a_cons (e_c (.int 1000)) a_nil)))) [1, 2] [some (bD B), none, none, none] = some (.new (.lst ((B.map fun _ => true).map .bl)), [some (bD B), none, none, none]) := by
    refine lcX enc B (fun p => .bl true) (e' := [some (bD B), none, none, none]) ?_ (List.map_map).symm rfl ?_
    · rfl
    exact fun p hp => ⟨[some (bD B), some (.int p.1), some (.int p.2), none], .val (.bl true), [some (bD B), some (.int p.1), some (.int p.2), none], rfl, by
      have := h.fine p hp
      simp only [fn, fnM, fin, finM, R.res, R.resM, e_v, e_o, e_c, e_un, e_bin, e_chain, e_and, e_or, e_not, e_if, t_v, t_and, t_or, t_not, t_yes, a_nil, a_cons, a_star, e_tup, e_lst, e_tupS, e_lstS, e_call, e_callM, e_meth, e_bm, e_cut, p_no, p_e, tg_n, tg_t, tg_s, s_nil, s_then, s_seq, s_set, s_setO, s_par2, s_par3, pick, s_tgt, s_ex, s_ret, s_retN, s_if, s_setix, it_e, it_r1, it_r2, it_enum, it_zip, e_lstR, e_tupR, R.at, R.st, R.ats, R.sts, R.atx, R.atxs, R.new?, R.bl?, R.seq?, D.seq?, D.int?, D.bl?, D.str?, D.tup?, D.lst?, D.ty?, En.g, En.p, En.wipe, En.back, Option.bind_some, Option.bind_none, List.length_cons, List.length_nil, List.map_cons, List.map_nil, List.replicate, List.cons_append, List.nil_append, List.set_cons_zero, List.set_cons_succ, List.getElem?_cons_zero, List.getElem?_cons_succ, List.getElem?_nil, Option.join_some, Option.join_none, Nat.reduceAdd, Nat.reduceSub, reduceIte, if_true, if_false, Bool.false_eq_true, D.flat, D.flats, flatIn_l, Bool.and_true, Bool.true_and, Bool.and_self, ix_t0, ix_t1, ix_t2, ix_l0, ix_l1, ix_l2, len_t, len_l, tup_l, add_i, max_2, min_2, sub_i, lt_i, le_i, gt_i, ge_i, neg_i, ne_i, eq_i, ne_s, eq_s, ne_b, eq_b, int_i, int_b, abs_i, integer, decide_eq_true (show p.1 ≤ p.2 ∧ p.2 ≤ 1000 by omega)], rfl, rfl⟩
  have al : (B.map fun _ => true).all id = true := all_true fun _ _ => rfl
  simp only [F_is_bounds_65, B_is_bounds_65, fn, fnM, fin, finM, R.res, R.resM, e_v, e_o, e_c, e_un, e_bin, e_chain, e_and, e_or, e_not, e_if, t_v, t_and, t_or, t_not, t_yes, a_nil, a_cons, a_star, e_tup, e_lst, e_tupS, e_lstS, e_call, e_callM, e_meth, e_bm, e_cut, p_no, p_e, tg_n, tg_t, tg_s, s_nil, s_then, s_seq, s_set, s_setO, s_par2, s_par3, pick, s_tgt, s_ex, s_ret, s_retN, s_if, s_setix, it_e, it_r1, it_r2, it_enum, it_zip, e_lstR, e_tupR, R.at, R.st, R.ats, R.sts, R.atx, R.atxs, R.new?, R.bl?, R.seq?, D.seq?, D.int?, D.bl?, D.str?, D.tup?, D.lst?, D.ty?, En.g, En.p, En.wipe, En.back, Option.bind_some, Option.bind_none, List.length_cons, List.length_nil, List.map_cons, List.map_nil, List.replicate, List.cons_append, List.nil_append, List.set_cons_zero, List.set_cons_succ, List.getElem?_cons_zero, List.getElem?_cons_succ, List.getElem?_nil, Option.join_some, Option.join_none, Nat.reduceAdd, Nat.reduceSub, reduceIte, if_true, if_false, Bool.false_eq_true, D.flat, D.flats, flatIn_l, Bool.and_true, Bool.true_and, Bool.and_self, ix_t0, ix_t1, ix_t2, ix_l0, ix_l1, ix_l2, len_t, len_l, tup_l, add_i, max_2, min_2, sub_i, lt_i, le_i, gt_i, ge_i, neg_i, ne_i, eq_i, ne_s, eq_s, ne_b, eq_b, int_i, int_b, abs_i, e, e1, e2, e3, all_l, al, Bool.not_true]
theorem band_ok {a b : Int} (h0 : 0 ≤ a) (h1 : a ≤ b) (h2 : b ≤ 1000) : F_check_band_44 [.tup [.int a, .int b]] = some (.val .non) := by
  have e : F_is_tuple_1 [.tup [.int a, .int b], .int 2, .int 2] = some (.val (.bl true)) := by rw [tuple_ok]; rfl
  simp only [F_check_band_44, B_check_band_44, F_is_band_43, B_is_band_43, fn, fnM, fin, finM, R.res, R.resM, e_v, e_o, e_c, e_un, e_bin, e_chain, e_and, e_or, e_not, e_if, t_v, t_and, t_or, t_not, t_yes, a_nil, a_cons, a_star, e_tup, e_lst, e_tupS, e_lstS, e_call, e_callM, e_meth, e_bm, e_cut, p_no, p_e, tg_n, tg_t, tg_s, s_nil, s_then, s_seq, s_set, s_setO, s_par2, s_par3, pick, s_tgt, s_ex, s_ret, s_retN, s_if, s_setix, it_e, it_r1, it_r2, it_enum, it_zip, e_lstR, e_tupR, R.at, R.st, R.ats, R.sts, R.atx, R.atxs, R.new?, R.bl?, R.seq?, D.seq?, D.int?, D.bl?, D.str?, D.tup?, D.lst?, D.ty?, En.g, En.p, En.wipe, En.back, Option.bind_some, Option.bind_none, List.length_cons, List.length_nil, List.map_cons, List.map_nil, List.replicate, List.cons_append, List.nil_append, List.set_cons_zero, List.set_cons_succ, List.getElem?_cons_zero, List.getElem?_cons_succ, List.getElem?_nil, Option.join_some, Option.join_none, Nat.reduceAdd, Nat.reduceSub, reduceIte, if_true, if_false, Bool.false_eq_true, D.flat, D.flats, flatIn_l, Bool.and_true, Bool.true_and, Bool.and_self, ix_t0, ix_t1, ix_t2, ix_l0, ix_l1, ix_l2, len_t, len_l, tup_l, add_i, max_2, min_2, sub_i, lt_i, le_i, gt_i, ge_i, neg_i, ne_i, eq_i, ne_s, eq_s, ne_b, eq_b, int_i, int_b, abs_i, e, integer, Bool.not_true, decide_eq_true (show 0 ≤ a ∧ a ≤ 1000 by omega), decide_eq_true (show a ≤ b ∧ b ≤ 1000 by omega)]
theorem any_map {α : Type} (f : α → Bool) (l : List α) : (l.map f).any id = l.any f := by rw [List.any_map]; rfl
theorem all_map {α : Type} (f : α → Bool) (l : List α) : (l.map f).all id = l.all f := by rw [List.all_map]; rfl
theorem verdict {B : List (Int × Int)} {a b : Int} : F_verdict_of_70 [bD B, .tup [.int a, .int b]] = some (.val (.str (verd B a b))) := by
  have e1 : e_lc (it_e (e_v 0)) (tg_t [tg_n 2, tg_n 3]) t_yes (e_or (e_bin o_lt (e_v 3) (e_bin o_ix (e_v 1) (e_c (.int 0)))) (e_bin o_gt (e_v 2) (e_bin o_ix (e_v 1) (e_c (.int 1))))) [2, 3] [some (bD B), some (.tup [.int a, .int b]), none, none] =
      some (.new (.lst ((B.map fun p => decide (p.2 < a) || decide (b < p.1)).map .bl)), [some (bD B), some (.tup [.int a, .int b]), none, none]) := by
    refine lcX enc B (fun p => .bl (decide (p.2 < a) || decide (b < p.1))) (e' := [some (bD B), some (.tup [.int a, .int b]), none, none]) ?_ (List.map_map).symm rfl ?_
    · rfl
    exact fun p hp => ⟨[some (bD B), some (.tup [.int a, .int b]), some (.int p.1), some (.int p.2)], .val (.bl (decide (p.2 < a) || decide (b < p.1))), [some (bD B), some (.tup [.int a, .int b]), some (.int p.1), some (.int p.2)], rfl, by
      simp only [fn, fnM, fin, finM, R.res, R.resM, e_v, e_o, e_c, e_un, e_bin, e_chain, e_and, e_or, e_not, e_if, t_v, t_and, t_or, t_not, t_yes, a_nil, a_cons, a_star, e_tup, e_lst, e_tupS, e_lstS, e_call, e_callM, e_meth, e_bm, e_cut, p_no, p_e, tg_n, tg_t, tg_s, s_nil, s_then, s_seq, s_set, s_setO, s_par2, s_par3, pick, s_tgt, s_ex, s_ret, s_retN, s_if, s_setix, it_e, it_r1, it_r2, it_enum, it_zip, e_lstR, e_tupR, R.at, R.st, R.ats, R.sts, R.atx, R.atxs, R.new?, R.bl?, R.seq?, D.seq?, D.int?, D.bl?, D.str?, D.tup?, D.lst?, D.ty?, En.g, En.p, En.wipe, En.back, Option.bind_some, Option.bind_none, List.length_cons, List.length_nil, List.map_cons, List.map_nil, List.replicate, List.cons_append, List.nil_append, List.set_cons_zero, List.set_cons_succ, List.getElem?_cons_zero, List.getElem?_cons_succ, List.getElem?_nil, Option.join_some, Option.join_none, Nat.reduceAdd, Nat.reduceSub, reduceIte, if_true, if_false, Bool.false_eq_true, D.flat, D.flats, flatIn_l, Bool.and_true, Bool.true_and, Bool.and_self, ix_t0, ix_t1, ix_t2, ix_l0, ix_l1, ix_l2, len_t, len_l, tup_l, add_i, max_2, min_2, sub_i, lt_i, le_i, gt_i, ge_i, neg_i, ne_i, eq_i, ne_s, eq_s, ne_b, eq_b, int_i, int_b, abs_i]
      by_cases z : p.2 < a
      · simp [z]
      · simp [z, fn, fnM, fin, finM, R.res, R.resM, e_v, e_o, e_c, e_un, e_bin, e_chain, e_and, e_or, e_not, e_if, t_v, t_and, t_or, t_not, t_yes, a_nil, a_cons, a_star, e_tup, e_lst, e_tupS, e_lstS, e_call, e_callM, e_meth, e_bm, e_cut, p_no, p_e, tg_n, tg_t, tg_s, s_nil, s_then, s_seq, s_set, s_setO, s_par2, s_par3, pick, s_tgt, s_ex, s_ret, s_retN, s_if, s_setix, it_e, it_r1, it_r2, it_enum, it_zip, e_lstR, e_tupR, R.at, R.st, R.ats, R.sts, R.atx, R.atxs, R.new?, R.bl?, R.seq?, D.seq?, D.int?, D.bl?, D.str?, D.tup?, D.lst?, D.ty?, En.g, En.p, En.wipe, En.back, Option.bind_some, Option.bind_none, List.length_cons, List.length_nil, List.map_cons, List.map_nil, List.replicate, List.cons_append, List.nil_append, List.set_cons_zero, List.set_cons_succ, List.getElem?_cons_zero, List.getElem?_cons_succ, List.getElem?_nil, Option.join_some, Option.join_none, Nat.reduceAdd, Nat.reduceSub, reduceIte, if_true, if_false, Bool.false_eq_true, D.flat, D.flats, flatIn_l, Bool.and_true, Bool.true_and, Bool.and_self, ix_t0, ix_t1, ix_t2, ix_l0, ix_l1, ix_l2, len_t, len_l, tup_l, add_i, max_2, min_2, sub_i, lt_i, le_i, gt_i, ge_i, neg_i, ne_i, eq_i, ne_s, eq_s, ne_b, eq_b, int_i, int_b, abs_i], rfl, rfl⟩
  have e2 : e_lc (it_e (e_v 0)) (tg_t [tg_n 2, tg_n 3]) t_yes (e_and (e_bin o_le (e_bin o_ix (e_v 1) (e_c (.int 0))) (e_v 2)) (e_bin o_le (e_v 3) (e_bin o_ix (e_v 1) (e_c (.int 1))))) [2, 3] [some (bD B), some (.tup [.int a, .int b]), none, none] =
      some (.new (.lst ((B.map fun p => decide (a ≤ p.1) && decide (p.2 ≤ b)).map .bl)), [some (bD B), some (.tup [.int a, .int b]), none, none]) := by
    refine lcX enc B (fun p => .bl (decide (a ≤ p.1) && decide (p.2 ≤ b))) (e' := [some (bD B), some (.tup [.int a, .int b]), none, none]) ?_ (List.map_map).symm rfl ?_
    · rfl
    exact fun p hp => ⟨[some (bD B), some (.tup [.int a, .int b]), some (.int p.1), some (.int p.2)], .val (.bl (decide (a ≤ p.1) && decide (p.2 ≤ b))), [some (bD B), some (.tup [.int a, .int b]), some (.int p.1), some (.int p.2)], rfl, by
      simp only [fn, fnM, fin, finM, R.res, R.resM, e_v, e_o, e_c, e_un, e_bin, e_chain, e_and, e_or, e_not, e_if, t_v, t_and, t_or, t_not, t_yes, a_nil, a_cons, a_star, e_tup, e_lst, e_tupS, e_lstS, e_call, e_callM, e_meth, e_bm, e_cut, p_no, p_e, tg_n, tg_t, tg_s, s_nil, s_then, s_seq, s_set, s_setO, s_par2, s_par3, pick, s_tgt, s_ex, s_ret, s_retN, s_if, s_setix, it_e, it_r1, it_r2, it_enum, it_zip, e_lstR, e_tupR, R.at, R.st, R.ats, R.sts, R.atx, R.atxs, R.new?, R.bl?, R.seq?, D.seq?, D.int?, D.bl?, D.str?, D.tup?, D.lst?, D.ty?, En.g, En.p, En.wipe, En.back, Option.bind_some, Option.bind_none, List.length_cons, List.length_nil, List.map_cons, List.map_nil, List.replicate, List.cons_append, List.nil_append, List.set_cons_zero, List.set_cons_succ, List.getElem?_cons_zero, List.getElem?_cons_succ, List.getElem?_nil, Option.join_some, Option.join_none, Nat.reduceAdd, Nat.reduceSub, reduceIte, if_true, if_false, Bool.false_eq_true, D.flat, D.flats, flatIn_l, Bool.and_true, Bool.true_and, Bool.and_self, ix_t0, ix_t1, ix_t2, ix_l0, ix_l1, ix_l2, len_t, len_l, tup_l, add_i, max_2, min_2, sub_i, lt_i, le_i, gt_i, ge_i, neg_i, ne_i, eq_i, ne_s, eq_s, ne_b, eq_b, int_i, int_b, abs_i]
      by_cases z : a ≤ p.1
      · simp [z, fn, fnM, fin, finM, R.res, R.resM, e_v, e_o, e_c, e_un, e_bin, e_chain, e_and, e_or, e_not, e_if, t_v, t_and, t_or, t_not, t_yes, a_nil, a_cons, a_star, e_tup, e_lst, e_tupS, e_lstS, e_call, e_callM, e_meth, e_bm, e_cut, p_no, p_e, tg_n, tg_t, tg_s, s_nil, s_then, s_seq, s_set, s_setO, s_par2, s_par3, pick, s_tgt, s_ex, s_ret, s_retN, s_if, s_setix, it_e, it_r1, it_r2, it_enum, it_zip, e_lstR, e_tupR, R.at, R.st, R.ats, R.sts, R.atx, R.atxs, R.new?, R.bl?, R.seq?, D.seq?, D.int?, D.bl?, D.str?, D.tup?, D.lst?, D.ty?, En.g, En.p, En.wipe, En.back, Option.bind_some, Option.bind_none, List.length_cons, List.length_nil, List.map_cons, List.map_nil, List.replicate, List.cons_append, List.nil_append, List.set_cons_zero, List.set_cons_succ, List.getElem?_cons_zero, List.getElem?_cons_succ, List.getElem?_nil, Option.join_some, Option.join_none, Nat.reduceAdd, Nat.reduceSub, reduceIte, if_true, if_false, Bool.false_eq_true, D.flat, D.flats, flatIn_l, Bool.and_true, Bool.true_and, Bool.and_self, ix_t0, ix_t1, ix_t2, ix_l0, ix_l1, ix_l2, len_t, len_l, tup_l, add_i, max_2, min_2, sub_i, lt_i, le_i, gt_i, ge_i, neg_i, ne_i, eq_i, ne_s, eq_s, ne_b, eq_b, int_i, int_b, abs_i]
      · simp [z], rfl, rfl⟩
  simp only [F_verdict_of_70, B_verdict_of_70, fn, fnM, fin, finM, R.res, R.resM, e_v, e_o, e_c, e_un, e_bin, e_chain, e_and, e_or, e_not, e_if, t_v, t_and, t_or, t_not, t_yes, a_nil, a_cons, a_star, e_tup, e_lst, e_tupS, e_lstS, e_call, e_callM, e_meth, e_bm, e_cut, p_no, p_e, tg_n, tg_t, tg_s, s_nil, s_then, s_seq, s_set, s_setO, s_par2, s_par3, pick, s_tgt, s_ex, s_ret, s_retN, s_if, s_setix, it_e, it_r1, it_r2, it_enum, it_zip, e_lstR, e_tupR, R.at, R.st, R.ats, R.sts, R.atx, R.atxs, R.new?, R.bl?, R.seq?, D.seq?, D.int?, D.bl?, D.str?, D.tup?, D.lst?, D.ty?, En.g, En.p, En.wipe, En.back, Option.bind_some, Option.bind_none, List.length_cons, List.length_nil, List.map_cons, List.map_nil, List.replicate, List.cons_append, List.nil_append, List.set_cons_zero, List.set_cons_succ, List.getElem?_cons_zero, List.getElem?_cons_succ, List.getElem?_nil, Option.join_some, Option.join_none, Nat.reduceAdd, Nat.reduceSub, reduceIte, if_true, if_false, Bool.false_eq_true, D.flat, D.flats, flatIn_l, Bool.and_true, Bool.true_and, Bool.and_self, ix_t0, ix_t1, ix_t2, ix_l0, ix_l1, ix_l2, len_t, len_l, tup_l, add_i, max_2, min_2, sub_i, lt_i, le_i, gt_i, ge_i, neg_i, ne_i, eq_i, ne_s, eq_s, ne_b, eq_b, int_i, int_b, abs_i, e1, e2, all_l, any_l, any_map, all_map]
  unfold verd
  cases (B.any fun p => decide (p.2 < a) || decide (b < p.1)) with
  | true => simp [fn, fnM, fin, finM, R.res, R.resM, e_v, e_o, e_c, e_un, e_bin, e_chain, e_and, e_or, e_not, e_if, t_v, t_and, t_or, t_not, t_yes, a_nil, a_cons, a_star, e_tup, e_lst, e_tupS, e_lstS, e_call, e_callM, e_meth, e_bm, e_cut, p_no, p_e, tg_n, tg_t, tg_s, s_nil, s_then, s_seq, s_set, s_setO, s_par2, s_par3, pick, s_tgt, s_ex, s_ret, s_retN, s_if, s_setix, it_e, it_r1, it_r2, it_enum, it_zip, e_lstR, e_tupR, R.at, R.st, R.ats, R.sts, R.atx, R.atxs, R.new?, R.bl?, R.seq?, D.seq?, D.int?, D.bl?, D.str?, D.tup?, D.lst?, D.ty?, En.g, En.p, En.wipe, En.back, Option.bind_some, Option.bind_none, List.length_cons, List.length_nil, List.map_cons, List.map_nil, List.replicate, List.cons_append, List.nil_append, List.set_cons_zero, List.set_cons_succ, List.getElem?_cons_zero, List.getElem?_cons_succ, List.getElem?_nil, Option.join_some, Option.join_none, Nat.reduceAdd, Nat.reduceSub, reduceIte, if_true, if_false, Bool.false_eq_true, D.flat, D.flats, flatIn_l, Bool.and_true, Bool.true_and, Bool.and_self, ix_t0, ix_t1, ix_t2, ix_l0, ix_l1, ix_l2, len_t, len_l, tup_l, add_i, max_2, min_2, sub_i, lt_i, le_i, gt_i, ge_i, neg_i, ne_i, eq_i, ne_s, eq_s, ne_b, eq_b, int_i, int_b, abs_i]
  | false =>
    simp only [fn, fnM, fin, finM, R.res, R.resM, e_v, e_o, e_c, e_un, e_bin, e_chain, e_and, e_or, e_not, e_if, t_v, t_and, t_or, t_not, t_yes, a_nil, a_cons, a_star, e_tup, e_lst, e_tupS, e_lstS, e_call, e_callM, e_meth, e_bm, e_cut, p_no, p_e, tg_n, tg_t, tg_s, s_nil, s_then, s_seq, s_set, s_setO, s_par2, s_par3, pick, s_tgt, s_ex, s_ret, s_retN, s_if, s_setix, it_e, it_r1, it_r2, it_enum, it_zip, e_lstR, e_tupR, R.at, R.st, R.ats, R.sts, R.atx, R.atxs, R.new?, R.bl?, R.seq?, D.seq?, D.int?, D.bl?, D.str?, D.tup?, D.lst?, D.ty?, En.g, En.p, En.wipe, En.back, Option.bind_some, Option.bind_none, List.length_cons, List.length_nil, List.map_cons, List.map_nil, List.replicate, List.cons_append, List.nil_append, List.set_cons_zero, List.set_cons_succ, List.getElem?_cons_zero, List.getElem?_cons_succ, List.getElem?_nil, Option.join_some, Option.join_none, Nat.reduceAdd, Nat.reduceSub, reduceIte, if_true, if_false, Bool.false_eq_true, D.flat, D.flats, flatIn_l, Bool.and_true, Bool.true_and, Bool.and_self, ix_t0, ix_t1, ix_t2, ix_l0, ix_l1, ix_l2, len_t, len_l, tup_l, add_i, max_2, min_2, sub_i, lt_i, le_i, gt_i, ge_i, neg_i, ne_i, eq_i, ne_s, eq_s, ne_b, eq_b, int_i, int_b, abs_i, e2, all_l, all_map]
    cases (B.all fun p => decide (a ≤ p.1) && decide (p.2 ≤ b)) with
    | true => simp [fn, fnM, fin, finM, R.res, R.resM, e_v, e_o, e_c, e_un, e_bin, e_chain, e_and, e_or, e_not, e_if, t_v, t_and, t_or, t_not, t_yes, a_nil, a_cons, a_star, e_tup, e_lst, e_tupS, e_lstS, e_call, e_callM, e_meth, e_bm, e_cut, p_no, p_e, tg_n, tg_t, tg_s, s_nil, s_then, s_seq, s_set, s_setO, s_par2, s_par3, pick, s_tgt, s_ex, s_ret, s_retN, s_if, s_setix, it_e, it_r1, it_r2, it_enum, it_zip, e_lstR, e_tupR, R.at, R.st, R.ats, R.sts, R.atx, R.atxs, R.new?, R.bl?, R.seq?, D.seq?, D.int?, D.bl?, D.str?, D.tup?, D.lst?, D.ty?, En.g, En.p, En.wipe, En.back, Option.bind_some, Option.bind_none, List.length_cons, List.length_nil, List.map_cons, List.map_nil, List.replicate, List.cons_append, List.nil_append, List.set_cons_zero, List.set_cons_succ, List.getElem?_cons_zero, List.getElem?_cons_succ, List.getElem?_nil, Option.join_some, Option.join_none, Nat.reduceAdd, Nat.reduceSub, reduceIte, if_true, if_false, Bool.false_eq_true, D.flat, D.flats, flatIn_l, Bool.and_true, Bool.true_and, Bool.and_self, ix_t0, ix_t1, ix_t2, ix_l0, ix_l1, ix_l2, len_t, len_l, tup_l, add_i, max_2, min_2, sub_i, lt_i, le_i, gt_i, ge_i, neg_i, ne_i, eq_i, ne_s, eq_s, ne_b, eq_b, int_i, int_b, abs_i]
    | false => simp [fn, fnM, fin, finM, R.res, R.resM, e_v, e_o, e_c, e_un, e_bin, e_chain, e_and, e_or, e_not, e_if, t_v, t_and, t_or, t_not, t_yes, a_nil, a_cons, a_star, e_tup, e_lst, e_tupS, e_lstS, e_call, e_callM, e_meth, e_bm, e_cut, p_no, p_e, tg_n, tg_t, tg_s, s_nil, s_then, s_seq, s_set, s_setO, s_par2, s_par3, pick, s_tgt, s_ex, s_ret, s_retN, s_if, s_setix, it_e, it_r1, it_r2, it_enum, it_zip, e_lstR, e_tupR, R.at, R.st, R.ats, R.sts, R.atx, R.atxs, R.new?, R.bl?, R.seq?, D.seq?, D.int?, D.bl?, D.str?, D.tup?, D.lst?, D.ty?, En.g, En.p, En.wipe, En.back, Option.bind_some, Option.bind_none, List.length_cons, List.length_nil, List.map_cons, List.map_nil, List.replicate, List.cons_append, List.nil_append, List.set_cons_zero, List.set_cons_succ, List.getElem?_cons_zero, List.getElem?_cons_succ, List.getElem?_nil, Option.join_some, Option.join_none, Nat.reduceAdd, Nat.reduceSub, reduceIte, if_true, if_false, Bool.false_eq_true, D.flat, D.flats, flatIn_l, Bool.and_true, Bool.true_and, Bool.and_self, ix_t0, ix_t1, ix_t2, ix_l0, ix_l1, ix_l2, len_t, len_l, tup_l, add_i, max_2, min_2, sub_i, lt_i, le_i, gt_i, ge_i, neg_i, ne_i, eq_i, ne_s, eq_s, ne_b, eq_b, int_i, int_b, abs_i]
theorem even_sure {B : List (Int × Int)} {a b : Int} (h : Ok B) (h0 : 0 ≤ a) (h1 : a ≤ b) (h2 : b ≤ 1000) : F_even_71 [bD B, .tup [.int a, .int b]] = some (.val (.str (verd B a b))) := by
  simp only [F_even_71, B_even_71, F_check_bounds_66, B_check_bounds_66, fn, fnM, fin, finM, R.res, R.resM, e_v, e_o, e_c, e_un, e_bin, e_chain, e_and, e_or, e_not, e_if, t_v, t_and, t_or, t_not, t_yes, a_nil, a_cons, a_star, e_tup, e_lst, e_tupS, e_lstS, e_call, e_callM, e_meth, e_bm, e_cut, p_no, p_e, tg_n, tg_t, tg_s, s_nil, s_then, s_seq, s_set, s_setO, s_par2, s_par3, pick, s_tgt, s_ex, s_ret, s_retN, s_if, s_setix, it_e, it_r1, it_r2, it_enum, it_zip, e_lstR, e_tupR, R.at, R.st, R.ats, R.sts, R.atx, R.atxs, R.new?, R.bl?, R.seq?, D.seq?, D.int?, D.bl?, D.str?, D.tup?, D.lst?, D.ty?, En.g, En.p, En.wipe, En.back, Option.bind_some, Option.bind_none, List.length_cons, List.length_nil, List.map_cons, List.map_nil, List.replicate, List.cons_append, List.nil_append, List.set_cons_zero, List.set_cons_succ, List.getElem?_cons_zero, List.getElem?_cons_succ, List.getElem?_nil, Option.join_some, Option.join_none, Nat.reduceAdd, Nat.reduceSub, reduceIte, if_true, if_false, Bool.false_eq_true, D.flat, D.flats, flatIn_l, Bool.and_true, Bool.true_and, Bool.and_self, ix_t0, ix_t1, ix_t2, ix_l0, ix_l1, ix_l2, len_t, len_l, tup_l, add_i, max_2, min_2, sub_i, lt_i, le_i, gt_i, ge_i, neg_i, ne_i, eq_i, ne_s, eq_s, ne_b, eq_b, int_i, int_b, abs_i, bounds_ok h, band_ok h0 h1 h2, verdict, Bool.not_true]
end G56
namespace G56
open PySem Mini
/-! ### the words told band by band -/
def lw (ws : List Str) : Str := if (ws.any (· == sSure)) = true then sSure else if (ws.all (· == sNever)) = true then sNever else sOpen
theorem law_word {ws : List Str} (h : ∀ s ∈ ws, strFine s = true) (hl : ws.length ≤ 5000) : F__law_word_83 [.lst (ws.map .str)] = some (.val (.str (lw ws))) := by
  have e : o_mul (.lst [.str "never"]) (.int (ws.length : Int)) = some (.new (.lst (List.replicate ws.length (.str "never")))) := mul_rep _ _ (by rw [sz_val]; omega)
  have e2 := eq_rep "never" ws h (by decide +kernel)
  simp only [F__law_word_83, B__law_word_83, fn, fnM, fin, finM, R.res, R.resM, e_v, e_o, e_c, e_un, e_bin, e_chain, e_and, e_or, e_not, e_if, t_v, t_and, t_or, t_not, t_yes, a_nil, a_cons, a_star, e_tup, e_lst, e_tupS, e_lstS, e_call, e_callM, e_meth, e_bm, e_cut, p_no, p_e, tg_n, tg_t, tg_s, s_nil, s_then, s_seq, s_set, s_setO, s_par2, s_par3, pick, s_tgt, s_ex, s_ret, s_retN, s_if, s_setix, it_e, it_r1, it_r2, it_enum, it_zip, e_lstR, e_tupR, R.at, R.st, R.ats, R.sts, R.atx, R.atxs, R.new?, R.bl?, R.seq?, D.seq?, D.int?, D.bl?, D.str?, D.tup?, D.lst?, D.ty?, En.g, En.p, En.wipe, En.back, Option.bind_some, Option.bind_none, List.length_cons, List.length_nil, List.map_cons, List.map_nil, List.replicate, List.cons_append, List.nil_append, List.set_cons_zero, List.set_cons_succ, List.getElem?_cons_zero, List.getElem?_cons_succ, List.getElem?_nil, Option.join_some, Option.join_none, Nat.reduceAdd, Nat.reduceSub, reduceIte, if_true, if_false, Bool.false_eq_true, D.flat, D.flats, flatIn_l, Bool.and_true, Bool.true_and, Bool.and_self, ix_t0, ix_t1, ix_t2, ix_l0, ix_l1, ix_l2, len_t, len_l, tup_l, add_i, max_2, min_2, sub_i, lt_i, le_i, gt_i, ge_i, neg_i, ne_i, eq_i, ne_s, eq_s, ne_b, eq_b, int_i, int_b, abs_i, in_strs, List.length_map, e, e2]
  unfold lw
  cases (ws.any (· == sSure)) with
  | true => simp [fn, fnM, fin, finM, R.res, R.resM, e_v, e_o, e_c, e_un, e_bin, e_chain, e_and, e_or, e_not, e_if, t_v, t_and, t_or, t_not, t_yes, a_nil, a_cons, a_star, e_tup, e_lst, e_tupS, e_lstS, e_call, e_callM, e_meth, e_bm, e_cut, p_no, p_e, tg_n, tg_t, tg_s, s_nil, s_then, s_seq, s_set, s_setO, s_par2, s_par3, pick, s_tgt, s_ex, s_ret, s_retN, s_if, s_setix, it_e, it_r1, it_r2, it_enum, it_zip, e_lstR, e_tupR, R.at, R.st, R.ats, R.sts, R.atx, R.atxs, R.new?, R.bl?, R.seq?, D.seq?, D.int?, D.bl?, D.str?, D.tup?, D.lst?, D.ty?, En.g, En.p, En.wipe, En.back, Option.bind_some, Option.bind_none, List.length_cons, List.length_nil, List.map_cons, List.map_nil, List.replicate, List.cons_append, List.nil_append, List.set_cons_zero, List.set_cons_succ, List.getElem?_cons_zero, List.getElem?_cons_succ, List.getElem?_nil, Option.join_some, Option.join_none, Nat.reduceAdd, Nat.reduceSub, reduceIte, if_true, if_false, Bool.false_eq_true, D.flat, D.flats, flatIn_l, Bool.and_true, Bool.true_and, Bool.and_self, ix_t0, ix_t1, ix_t2, ix_l0, ix_l1, ix_l2, len_t, len_l, tup_l, add_i, max_2, min_2, sub_i, lt_i, le_i, gt_i, ge_i, neg_i, ne_i, eq_i, ne_s, eq_s, ne_b, eq_b, int_i, int_b, abs_i]
  | false =>
    simp only [fn, fnM, fin, finM, R.res, R.resM, e_v, e_o, e_c, e_un, e_bin, e_chain, e_and, e_or, e_not, e_if, t_v, t_and, t_or, t_not, t_yes, a_nil, a_cons, a_star, e_tup, e_lst, e_tupS, e_lstS, e_call, e_callM, e_meth, e_bm, e_cut, p_no, p_e, tg_n, tg_t, tg_s, s_nil, s_then, s_seq, s_set, s_setO, s_par2, s_par3, pick, s_tgt, s_ex, s_ret, s_retN, s_if, s_setix, it_e, it_r1, it_r2, it_enum, it_zip, e_lstR, e_tupR, R.at, R.st, R.ats, R.sts, R.atx, R.atxs, R.new?, R.bl?, R.seq?, D.seq?, D.int?, D.bl?, D.str?, D.tup?, D.lst?, D.ty?, En.g, En.p, En.wipe, En.back, Option.bind_some, Option.bind_none, List.length_cons, List.length_nil, List.map_cons, List.map_nil, List.replicate, List.cons_append, List.nil_append, List.set_cons_zero, List.set_cons_succ, List.getElem?_cons_zero, List.getElem?_cons_succ, List.getElem?_nil, Option.join_some, Option.join_none, Nat.reduceAdd, Nat.reduceSub, reduceIte, if_true, if_false, Bool.false_eq_true, D.flat, D.flats, flatIn_l, Bool.and_true, Bool.true_and, Bool.and_self, ix_t0, ix_t1, ix_t2, ix_l0, ix_l1, ix_l2, len_t, len_l, tup_l, add_i, max_2, min_2, sub_i, lt_i, le_i, gt_i, ge_i, neg_i, ne_i, eq_i, ne_s, eq_s, ne_b, eq_b, int_i, int_b, abs_i, List.length_map, e, e2]
    cases (ws.all (· == sNever)) with
    | true => simp [fn, fnM, fin, finM, R.res, R.resM, e_v, e_o, e_c, e_un, e_bin, e_chain, e_and, e_or, e_not, e_if, t_v, t_and, t_or, t_not, t_yes, a_nil, a_cons, a_star, e_tup, e_lst, e_tupS, e_lstS, e_call, e_callM, e_meth, e_bm, e_cut, p_no, p_e, tg_n, tg_t, tg_s, s_nil, s_then, s_seq, s_set, s_setO, s_par2, s_par3, pick, s_tgt, s_ex, s_ret, s_retN, s_if, s_setix, it_e, it_r1, it_r2, it_enum, it_zip, e_lstR, e_tupR, R.at, R.st, R.ats, R.sts, R.atx, R.atxs, R.new?, R.bl?, R.seq?, D.seq?, D.int?, D.bl?, D.str?, D.tup?, D.lst?, D.ty?, En.g, En.p, En.wipe, En.back, Option.bind_some, Option.bind_none, List.length_cons, List.length_nil, List.map_cons, List.map_nil, List.replicate, List.cons_append, List.nil_append, List.set_cons_zero, List.set_cons_succ, List.getElem?_cons_zero, List.getElem?_cons_succ, List.getElem?_nil, Option.join_some, Option.join_none, Nat.reduceAdd, Nat.reduceSub, reduceIte, if_true, if_false, Bool.false_eq_true, D.flat, D.flats, flatIn_l, Bool.and_true, Bool.true_and, Bool.and_self, ix_t0, ix_t1, ix_t2, ix_l0, ix_l1, ix_l2, len_t, len_l, tup_l, add_i, max_2, min_2, sub_i, lt_i, le_i, gt_i, ge_i, neg_i, ne_i, eq_i, ne_s, eq_s, ne_b, eq_b, int_i, int_b, abs_i]
    | false => simp [fn, fnM, fin, finM, R.res, R.resM, e_v, e_o, e_c, e_un, e_bin, e_chain, e_and, e_or, e_not, e_if, t_v, t_and, t_or, t_not, t_yes, a_nil, a_cons, a_star, e_tup, e_lst, e_tupS, e_lstS, e_call, e_callM, e_meth, e_bm, e_cut, p_no, p_e, tg_n, tg_t, tg_s, s_nil, s_then, s_seq, s_set, s_setO, s_par2, s_par3, pick, s_tgt, s_ex, s_ret, s_retN, s_if, s_setix, it_e, it_r1, it_r2, it_enum, it_zip, e_lstR, e_tupR, R.at, R.st, R.ats, R.sts, R.atx, R.atxs, R.new?, R.bl?, R.seq?, D.seq?, D.int?, D.bl?, D.str?, D.tup?, D.lst?, D.ty?, En.g, En.p, En.wipe, En.back, Option.bind_some, Option.bind_none, List.length_cons, List.length_nil, List.map_cons, List.map_nil, List.replicate, List.cons_append, List.nil_append, List.set_cons_zero, List.set_cons_succ, List.getElem?_cons_zero, List.getElem?_cons_succ, List.getElem?_nil, Option.join_some, Option.join_none, Nat.reduceAdd, Nat.reduceSub, reduceIte, if_true, if_false, Bool.false_eq_true, D.flat, D.flats, flatIn_l, Bool.and_true, Bool.true_and, Bool.and_self, ix_t0, ix_t1, ix_t2, ix_l0, ix_l1, ix_l2, len_t, len_l, tup_l, add_i, max_2, min_2, sub_i, lt_i, le_i, gt_i, ge_i, neg_i, ne_i, eq_i, ne_s, eq_s, ne_b, eq_b, int_i, int_b, abs_i]
theorem s1 : (sSure == sNever) = false := by decide
theorem s2 : (sOpen == sNever) = false := by decide
theorem s3 : (sOpen == sSure) = false := by decide
theorem s4 : (sNever == sSure) = false := by decide
theorem s5 : (sNever == sOpen) = false := by decide
theorem s6 : (sSure == sOpen) = false := by decide
theorem n1 : sSure ≠ sNever := by decide
theorem n2 : sOpen ≠ sNever := by decide
theorem n3 : sOpen ≠ sSure := by decide
theorem n4 : sNever ≠ sSure := by decide
theorem verd_never {B : List (Int × Int)} {a b : Int} : verd B a b = sNever ↔ ∃ p ∈ B, p.2 < a ∨ b < p.1 := by
  unfold verd
  split
  · rename_i h
    obtain ⟨p, hp, h⟩ := List.any_eq_true.mp h
    simp only [Bool.or_eq_true, decide_eq_true_eq] at h
    exact ⟨fun _ => ⟨p, hp, h⟩, fun _ => rfl⟩
  · rename_i h
    have no : ¬ ∃ p ∈ B, p.2 < a ∨ b < p.1 := fun ⟨p, hp, h1⟩ => h (List.any_eq_true.mpr ⟨p, hp, by simpa using h1⟩)
    split <;> exact ⟨fun z => absurd z (by decide), fun z => absurd z no⟩
theorem verd_sure {B : List (Int × Int)} {a b : Int} (h : verd B a b = sSure) : ∀ p ∈ B, a ≤ p.1 ∧ p.2 ≤ b := by
  unfold verd at h
  split at h
  · exact absurd h (by decide)
  · split at h
    · rename_i h2
      intro p hp
      have := List.all_eq_true.mp h2 p hp
      simpa using this
    · exact absurd h (by decide)
theorem verd_fine (B : List (Int × Int)) (a b : Int) : strFine (verd B a b) = true := by
  unfold verd
  split
  · decide +kernel
  · split <;> decide +kernel
theorem pos_low {B : List (Int × Int)} (h : Ok B) : (∃ p ∈ B, p.1 = mx (B.map (·.1))) ∧ (∃ p ∈ B, p.2 = mn (B.map (·.2))) := by
  have m1 := mx_mem (l := B.map (·.1)) fun z => h.pos (List.map_eq_nil_iff.mp z)
  have m2 := mn_mem (l := B.map (·.2)) fun z => h.pos (List.map_eq_nil_iff.mp z)
  exact ⟨List.mem_map.mp m1, List.mem_map.mp m2⟩
theorem mst_le {B : List (Int × Int)} {w : Int} : mst B ≤ w ↔ 0 ≤ w ∧ ∀ (i j : Nat) (p q : Int × Int), i ≠ j → B[i]? = some p → B[j]? = some q → p.2 - q.1 ≤ w := by
  constructor
  · intro h
    refine ⟨Int.le_trans (mx_le (mem_dl.mpr (.inl rfl))) h, fun i j p q hn hp hq => Int.le_trans (mx_le (mem_dl.mpr (.inr ⟨i, j, p, q, hn, hp, hq, rfl⟩))) h⟩
  · rintro ⟨h0, h⟩
    rcases mem_dl.mp (mx_mem (l := dl B) fun z => by cases z) with e | ⟨i, j, p, q, hn, hp, hq, e⟩
    · show mx (dl B) ≤ w
      omega
    · show mx (dl B) ≤ w
      rw [e]
      exact h i j p q hn hp hq
/-- the bands that are tried -/
def lo0 (B : List (Int × Int)) (w : Int) : Int := max 0 (mn (B.map (·.1)) - w)
def hi0 (B : List (Int × Int)) (w : Int) : Int := min (1000 - w) (mx (B.map (·.1))) + 1
def Ls (B : List (Int × Int)) (w : Int) : List Int := (List.range (hi0 B w - lo0 B w).toNat).map fun i => lo0 B w + (i : Nat)
theorem mem_Ls {B : List (Int × Int)} {w l : Int} : l ∈ Ls B w ↔ lo0 B w ≤ l ∧ l < hi0 B w := by
  unfold Ls
  rw [List.mem_map]
  constructor
  · rintro ⟨i, hi, rfl⟩
    have := List.mem_range.mp hi
    omega
  · rintro ⟨h1, h2⟩
    exact ⟨(l - lo0 B w).toNat, List.mem_range.mpr (by omega), by omega⟩
def ws (B : List (Int × Int)) (w : Int) : List Str := (Ls B w).map fun l => verd B l (l + w)
theorem wA {B : List (Int × Int)} {w : Int} (h : Ok B) (h0 : 0 ≤ w) (hs : (ws B w).any (· == sSure) = true) : word B w = sSure := by
  obtain ⟨s, hs, e⟩ := List.any_eq_true.mp hs
  obtain ⟨l, hl, e2⟩ := List.mem_map.mp hs
  have e3 : s = sSure := eq_of_beq e
  have v := verd_sure (e2.trans e3)
  unfold word
  rw [if_pos (mst_le.mpr ⟨h0, fun i j p q _ hp hq => by
    have a := v p (List.mem_of_getElem? hp)
    have b := v q (List.mem_of_getElem? hq)
    omega⟩)]
theorem wB {B : List (Int × Int)} {w : Int} (h : Ok B) (h0 : 0 ≤ w) (h1 : w ≤ 1000) : (word B w == sNever) = (ws B w).all (· == sNever) := by
  obtain ⟨⟨p, hp, ep⟩, q, hq, eq⟩ := pos_low h
  have fp := h.fine p hp
  have fq := h.fine q hq
  have lb : low B = p.1 - q.2 := by unfold low; rw [← ep, ← eq]
  by_cases c : w < lst B
  · -- never
    have c2 : w < p.1 - q.2 := by unfold lst at c; omega
    have nm : ¬ mst B ≤ w := fun z => by
      obtain ⟨i, hi⟩ := List.mem_iff_getElem?.mp hp
      obtain ⟨j, hj⟩ := List.mem_iff_getElem?.mp hq
      have hij : j ≠ i := fun z => by subst z; rw [hi] at hj; cases hj; omega
      by_cases hji : i = j
      · exact hij hji.symm
      · have := (mst_le.mp z).2 i j p q hji hi hj
        omega
    have e1 : word B w = sNever := by unfold word; rw [if_neg nm, if_pos c]
    rw [e1]
    have e2 : (ws B w).all (· == sNever) = true := List.all_eq_true.mpr fun s hs => by
      obtain ⟨l, hl, e⟩ := List.mem_map.mp hs
      have hv : verd B l (l + w) = sNever := by
        rw [verd_never]
        by_cases z : q.2 < l
        · exact ⟨q, hq, .inl z⟩
        · exact ⟨p, hp, .inr (by omega)⟩
      rw [← e]
      show (verd B l (l + w) == sNever) = true
      rw [hv]
      rfl
    rw [e2]
    decide
  · have c2 : p.1 - q.2 ≤ w := by unfold lst at c; omega
    have e1 : (word B w == sNever) = false := by
      unfold word
      split
      · exact s1
      · first | exact s2 | (rw [if_neg c]; exact s2)
    rw [e1]
    symm
    rw [List.all_eq_false]
    have m1 := mn_le (l := B.map (·.1)) (x := p.1) (List.mem_map.mpr ⟨p, hp, rfl⟩)
    refine ⟨verd B (max 0 (p.1 - w)) (max 0 (p.1 - w) + w), List.mem_map.mpr ⟨max 0 (p.1 - w), mem_Ls.mpr ⟨by unfold lo0; omega, by unfold hi0; rw [← ep]; omega⟩, rfl⟩, fun z => ?_⟩
    obtain ⟨r, hr, z⟩ := verd_never.mp (eq_of_beq z)
    have g1 := mx_le (l := B.map (·.1)) (x := r.1) (List.mem_map.mpr ⟨r, hr, rfl⟩)
    have g2 := mn_le (l := B.map (·.2)) (x := r.2) (List.mem_map.mpr ⟨r, hr, rfl⟩)
    have g3 := h.fine r hr
    rw [← ep] at g1
    rw [← eq] at g2
    omega
end G56
namespace G56
open PySem Mini
theorem word3 (B : List (Int × Int)) (w : Int) : word B w = sSure ∨ word B w = sNever ∨ word B w = sOpen := by
  unfold word
  split
  · exact .inl rfl
  · split
    · exact .inr (.inl rfl)
    · exact .inr (.inr rfl)
theorem bands_right {B : List (Int × Int)} {w : Int} (h : Ok B) (h0 : 0 ≤ w) (h1 : w ≤ 1000) : F__law_are_bands_right_84 [bD B, .int w] = some (.val (.bl true)) := by
  have lc : ∀ (x2 x4 : Option D), e_lc (it_e (e_v 0)) (tg_t [tg_n 5, tg_n 6]) t_yes (e_v 5) [5, 6] [some (bD B), some (.int w), x2, none, x4, none, none] = some (.new (.lst ((B.map (·.1)).map .int)), [some (bD B), some (.int w), x2, none, x4, none, none]) := fun x2 x4 => by
    refine lcX enc B (fun p => .int p.1) (e' := [some (bD B), some (.int w), x2, none, x4, none, none]) ?_ (List.map_map).symm rfl ?_
    · rfl
    exact fun p hp => ⟨[some (bD B), some (.int w), x2, none, x4, some (.int p.1), some (.int p.2)], .val (.int p.1), _, rfl, rfl, rfl, rfl⟩
  have n1 : B.map (·.1) ≠ [] := fun z => h.pos (List.map_eq_nil_iff.mp z)
  obtain ⟨pl, hpl, epl⟩ := List.mem_map.mp (mn_mem n1)
  obtain ⟨ph, hph, eph⟩ := List.mem_map.mp (mx_mem n1)
  have fl := h.fine pl hpl
  have fh := h.fine ph hph
  have hlo : 0 ≤ lo0 B w ∧ lo0 B w ≤ 1000 := by unfold lo0; omega
  have hhi : 1 ≤ hi0 B w ∧ hi0 B w ≤ 1001 := by unfold hi0; omega
  have hin : ∀ l ∈ Ls B w, 0 ≤ l ∧ l + w ≤ 1000 := fun l hl => by
    have := mem_Ls.mp hl
    unfold hi0 at this
    omega
  have hlen : (Ls B w).length ≤ 1001 := by unfold Ls; rw [List.length_map, List.length_range]; omega
  obtain ⟨e', f1, x5, f2⟩ := for_pre (fun l : Int => D.int l) (g := tg_n 5) (b := s_ex (e_meth m_append 4 (a_cons (e_call F_even_71 (a_cons (e_v 0) (a_cons (e_tup (a_cons (e_v 5) (a_cons (e_bin o_add (e_v 5) (e_v 1)) a_nil))) a_nil))) a_nil)))
    (fun done e => ∃ x5, e = [some (bD B), some (.int w), some (.str (word B w)), some (.lst ((B.map (·.1)).map .int)), some (.lst ((done.map fun l => verd B l (l + w)).map .str)), x5, none]) (Ls B w)
    [some (bD B), some (.int w), some (.str (word B w)), some (.lst ((B.map (·.1)).map .int)), some (.lst []), none, none] ⟨none, rfl⟩ (fun done l rest e hf hi => by
      obtain ⟨x5, rfl⟩ := hi
      have hm : l ∈ Ls B w := by rw [hf]; exact List.mem_append_right _ List.mem_cons_self
      have hb := hin l hm
      have hd : done.length < 1001 := by
        have := congrArg List.length hf
        rw [List.length_append, List.length_cons] at this
        omega
      refine ⟨[some (bD B), some (.int w), some (.str (word B w)), some (.lst ((B.map (·.1)).map .int)), some (.lst ((done.map fun l => verd B l (l + w)).map .str)), some (.int l), none],
        [some (bD B), some (.int w), some (.str (word B w)), some (.lst ((B.map (·.1)).map .int)), some (.lst (((done ++ [l]).map fun l => verd B l (l + w)).map .str)), some (.int l), none], rfl, .inl ?_, _, rfl⟩
      have hz : ((done.map fun l => verd B l (l + w)).map D.str).length < SZ := by rw [List.length_map, List.length_map, sz_val]; omega
      simp only [fn, fnM, fin, finM, R.res, R.resM, e_v, e_o, e_c, e_un, e_bin, e_chain, e_and, e_or, e_not, e_if, t_v, t_and, t_or, t_not, t_yes, a_nil, a_cons, a_star, e_tup, e_lst, e_tupS, e_lstS, e_call, e_callM, e_meth, e_bm, e_cut, p_no, p_e, tg_n, tg_t, tg_s, s_nil, s_then, s_seq, s_set, s_setO, s_par2, s_par3, pick, s_tgt, s_ex, s_ret, s_retN, s_if, s_setix, it_e, it_r1, it_r2, it_enum, it_zip, e_lstR, e_tupR, R.at, R.st, R.ats, R.sts, R.atx, R.atxs, R.new?, R.bl?, R.seq?, D.seq?, D.int?, D.bl?, D.str?, D.tup?, D.lst?, D.ty?, En.g, En.p, En.wipe, En.back, Option.bind_some, Option.bind_none, List.length_cons, List.length_nil, List.map_cons, List.map_nil, List.replicate, List.cons_append, List.nil_append, List.set_cons_zero, List.set_cons_succ, List.getElem?_cons_zero, List.getElem?_cons_succ, List.getElem?_nil, Option.join_some, Option.join_none, Nat.reduceAdd, Nat.reduceSub, reduceIte, if_true, if_false, Bool.false_eq_true, D.flat, D.flats, flatIn_l, Bool.and_true, Bool.true_and, Bool.and_self, ix_t0, ix_t1, ix_t2, ix_l0, ix_l1, ix_l2, len_t, len_l, tup_l, add_i, max_2, min_2, sub_i, lt_i, le_i, gt_i, ge_i, neg_i, ne_i, eq_i, ne_s, eq_s, ne_b, eq_b, int_i, int_b, abs_i, even_sure h hb.1 (show l ≤ l + w by omega) hb.2, m_append]
      rw [if_pos hz]
      simp only [fn, fnM, fin, finM, R.res, R.resM, e_v, e_o, e_c, e_un, e_bin, e_chain, e_and, e_or, e_not, e_if, t_v, t_and, t_or, t_not, t_yes, a_nil, a_cons, a_star, e_tup, e_lst, e_tupS, e_lstS, e_call, e_callM, e_meth, e_bm, e_cut, p_no, p_e, tg_n, tg_t, tg_s, s_nil, s_then, s_seq, s_set, s_setO, s_par2, s_par3, pick, s_tgt, s_ex, s_ret, s_retN, s_if, s_setix, it_e, it_r1, it_r2, it_enum, it_zip, e_lstR, e_tupR, R.at, R.st, R.ats, R.sts, R.atx, R.atxs, R.new?, R.bl?, R.seq?, D.seq?, D.int?, D.bl?, D.str?, D.tup?, D.lst?, D.ty?, En.g, En.p, En.wipe, En.back, Option.bind_some, Option.bind_none, List.length_cons, List.length_nil, List.map_cons, List.map_nil, List.replicate, List.cons_append, List.nil_append, List.set_cons_zero, List.set_cons_succ, List.getElem?_cons_zero, List.getElem?_cons_succ, List.getElem?_nil, Option.join_some, Option.join_none, Nat.reduceAdd, Nat.reduceSub, reduceIte, if_true, if_false, Bool.false_eq_true, D.flat, D.flats, flatIn_l, Bool.and_true, Bool.true_and, Bool.and_self, ix_t0, ix_t1, ix_t2, ix_l0, ix_l1, ix_l2, len_t, len_l, tup_l, add_i, max_2, min_2, sub_i, lt_i, le_i, gt_i, ge_i, neg_i, ne_i, eq_i, ne_s, eq_s, ne_b, eq_b, int_i, int_b, abs_i, List.map_append])
  subst f2
  have en : forLoop (tg_n 5) (s_ex (e_meth m_append 4 (a_cons (e_call F_even_71 (a_cons (e_v 0) (a_cons (e_tup (a_cons (e_v 5) (a_cons (e_bin o_add (e_v 5) (e_v 1)) a_nil))) a_nil))) a_nil))) (rngL (lo0 B w) (hi0 B w - lo0 B w).toNat)
      [some (bD B), some (.int w), some (.str (word B w)), some (.lst ((B.map (·.1)).map .int)), some (.lst []), none, none] = some (.nx [some (bD B), some (.int w), some (.str (word B w)), some (.lst ((B.map (·.1)).map .int)), some (.lst ((ws B w).map .str)), x5, none]) := by
    rw [rng_map]
    exact f1
  have rok : rngOk (lo0 B w) = true ∧ rngOk (hi0 B w) = true ∧ le24 (hi0 B w - lo0 B w) = true := ⟨by rw [rngOk_def]; exact decide_eq_true (by omega), by rw [rngOk_def]; exact decide_eq_true (by omega), by rw [le24_def]; exact decide_eq_true (by omega)⟩
  have fine : ∀ s ∈ ws B w, strFine s = true := fun s hs => by
    obtain ⟨l, _, e⟩ := List.mem_map.mp hs
    rw [← e]
    exact verd_fine _ _ _
  have wl : (ws B w).length ≤ 1001 := by unfold ws; rw [List.length_map]; exact hlen
  have m1 : o_mul (.lst [.str "never"]) (.int ((ws B w).length : Int)) = some (.new (.lst (List.replicate (ws B w).length (.str "never")))) := mul_rep _ _ (by rw [sz_val]; omega)
  have m2 := eq_rep "never" (ws B w) fine (by decide +kernel)
  have lwd := law_word fine (by omega)
  have a := wA h h0
  have b := wB h h0 h1
  have gt0 : decide ((0 : Int) < ((B.map enc).length : Int)) = true := decide_eq_true (by
    have := List.length_pos_iff.mpr h.pos
    rw [List.length_map]
    omega)
  simp only [F__law_are_bands_right_84, B__law_are_bands_right_84, fn, fnM, fin, finM, R.res, R.resM, e_v, e_o, e_c, e_un, e_bin, e_chain, e_and, e_or, e_not, e_if, t_v, t_and, t_or, t_not, t_yes, a_nil, a_cons, a_star, e_tup, e_lst, e_tupS, e_lstS, e_call, e_callM, e_meth, e_bm, e_cut, p_no, p_e, tg_n, tg_t, tg_s, s_nil, s_then, s_seq, s_set, s_setO, s_par2, s_par3, pick, s_tgt, s_ex, s_ret, s_retN, s_if, s_setix, it_e, it_r1, it_r2, it_enum, it_zip, e_lstR, e_tupR, R.at, R.st, R.ats, R.sts, R.atx, R.atxs, R.new?, R.bl?, R.seq?, D.seq?, D.int?, D.bl?, D.str?, D.tup?, D.lst?, D.ty?, En.g, En.p, En.wipe, En.back, Option.bind_some, Option.bind_none, List.length_cons, List.length_nil, List.map_cons, List.map_nil, List.replicate, List.cons_append, List.nil_append, List.set_cons_zero, List.set_cons_succ, List.getElem?_cons_zero, List.getElem?_cons_succ, List.getElem?_nil, Option.join_some, Option.join_none, Nat.reduceAdd, Nat.reduceSub, reduceIte, if_true, if_false, Bool.false_eq_true, D.flat, D.flats, flatIn_l, Bool.and_true, Bool.true_and, Bool.and_self, ix_t0, ix_t1, ix_t2, ix_l0, ix_l1, ix_l2, len_t, len_l, tup_l, add_i, max_2, min_2, sub_i, lt_i, le_i, gt_i, ge_i, neg_i, ne_i, eq_i, ne_s, eq_s, ne_b, eq_b, int_i, int_b, abs_i, even h h0 h1, lc, max_l n1, min_l n1, s_for]
  rw [show max 0 (mn (B.map (·.1)) - w) = lo0 B w from rfl, show min (1000 - w) (mx (B.map (·.1))) + 1 = hi0 B w from rfl]
  simp only [rok, and_self, if_true, fn, fnM, fin, finM, R.res, R.resM, e_v, e_o, e_c, e_un, e_bin, e_chain, e_and, e_or, e_not, e_if, t_v, t_and, t_or, t_not, t_yes, a_nil, a_cons, a_star, e_tup, e_lst, e_tupS, e_lstS, e_call, e_callM, e_meth, e_bm, e_cut, p_no, p_e, tg_n, tg_t, tg_s, s_nil, s_then, s_seq, s_set, s_setO, s_par2, s_par3, pick, s_tgt, s_ex, s_ret, s_retN, s_if, s_setix, it_e, it_r1, it_r2, it_enum, it_zip, e_lstR, e_tupR, R.at, R.st, R.ats, R.sts, R.atx, R.atxs, R.new?, R.bl?, R.seq?, D.seq?, D.int?, D.bl?, D.str?, D.tup?, D.lst?, D.ty?, En.g, En.p, En.wipe, En.back, Option.bind_some, Option.bind_none, List.length_cons, List.length_nil, List.map_cons, List.map_nil, List.replicate, List.cons_append, List.nil_append, List.set_cons_zero, List.set_cons_succ, List.getElem?_cons_zero, List.getElem?_cons_succ, List.getElem?_nil, Option.join_some, Option.join_none, Nat.reduceAdd, Nat.reduceSub, reduceIte, if_true, if_false, Bool.false_eq_true, D.flat, D.flats, flatIn_l, Bool.and_true, Bool.true_and, Bool.and_self, ix_t0, ix_t1, ix_t2, ix_l0, ix_l1, ix_l2, len_t, len_l, tup_l, add_i, max_2, min_2, sub_i, lt_i, le_i, gt_i, ge_i, neg_i, ne_i, eq_i, ne_s, eq_s, ne_b, eq_b, int_i, int_b, abs_i]
  rw [en]
  simp only [fn, fnM, fin, finM, R.res, R.resM, e_v, e_o, e_c, e_un, e_bin, e_chain, e_and, e_or, e_not, e_if, t_v, t_and, t_or, t_not, t_yes, a_nil, a_cons, a_star, e_tup, e_lst, e_tupS, e_lstS, e_call, e_callM, e_meth, e_bm, e_cut, p_no, p_e, tg_n, tg_t, tg_s, s_nil, s_then, s_seq, s_set, s_setO, s_par2, s_par3, pick, s_tgt, s_ex, s_ret, s_retN, s_if, s_setix, it_e, it_r1, it_r2, it_enum, it_zip, e_lstR, e_tupR, R.at, R.st, R.ats, R.sts, R.atx, R.atxs, R.new?, R.bl?, R.seq?, D.seq?, D.int?, D.bl?, D.str?, D.tup?, D.lst?, D.ty?, En.g, En.p, En.wipe, En.back, Option.bind_some, Option.bind_none, List.length_cons, List.length_nil, List.map_cons, List.map_nil, List.replicate, List.cons_append, List.nil_append, List.set_cons_zero, List.set_cons_succ, List.getElem?_cons_zero, List.getElem?_cons_succ, List.getElem?_nil, Option.join_some, Option.join_none, Nat.reduceAdd, Nat.reduceSub, reduceIte, if_true, if_false, Bool.false_eq_true, D.flat, D.flats, flatIn_l, Bool.and_true, Bool.true_and, Bool.and_self, ix_t0, ix_t1, ix_t2, ix_l0, ix_l1, ix_l2, len_t, len_l, tup_l, add_i, max_2, min_2, sub_i, lt_i, le_i, gt_i, ge_i, neg_i, ne_i, eq_i, ne_s, eq_s, ne_b, eq_b, int_i, int_b, abs_i, in_strs, nin_strs, List.length_map, m1, m2, lwd]
  cases sW : (ws B w).any (· == sSure) with
  | true =>
    have e := a sW
    rw [e] at b ⊢
    have l : lw (ws B w) = sSure := by unfold lw; rw [if_pos sW]
    simp only [fn, fnM, fin, finM, R.res, R.resM, e_v, e_o, e_c, e_un, e_bin, e_chain, e_and, e_or, e_not, e_if, t_v, t_and, t_or, t_not, t_yes, a_nil, a_cons, a_star, e_tup, e_lst, e_tupS, e_lstS, e_call, e_callM, e_meth, e_bm, e_cut, p_no, p_e, tg_n, tg_t, tg_s, s_nil, s_then, s_seq, s_set, s_setO, s_par2, s_par3, pick, s_tgt, s_ex, s_ret, s_retN, s_if, s_setix, it_e, it_r1, it_r2, it_enum, it_zip, e_lstR, e_tupR, R.at, R.st, R.ats, R.sts, R.atx, R.atxs, R.new?, R.bl?, R.seq?, D.seq?, D.int?, D.bl?, D.str?, D.tup?, D.lst?, D.ty?, En.g, En.p, En.wipe, En.back, Option.bind_some, Option.bind_none, List.length_cons, List.length_nil, List.map_cons, List.map_nil, List.replicate, List.cons_append, List.nil_append, List.set_cons_zero, List.set_cons_succ, List.getElem?_cons_zero, List.getElem?_cons_succ, List.getElem?_nil, Option.join_some, Option.join_none, Nat.reduceAdd, Nat.reduceSub, reduceIte, if_true, if_false, Bool.false_eq_true, D.flat, D.flats, flatIn_l, Bool.and_true, Bool.true_and, Bool.and_self, ix_t0, ix_t1, ix_t2, ix_l0, ix_l1, ix_l2, len_t, len_l, tup_l, add_i, max_2, min_2, sub_i, lt_i, le_i, gt_i, ge_i, neg_i, ne_i, eq_i, ne_s, eq_s, ne_b, eq_b, int_i, int_b, abs_i, in_strs, nin_strs, List.length_map, m1, m2, lwd, l, ← b, s1, beq_self_eq_true, Bool.not_true, Bool.not_false]
  | false =>
    simp only [fn, fnM, fin, finM, R.res, R.resM, e_v, e_o, e_c, e_un, e_bin, e_chain, e_and, e_or, e_not, e_if, t_v, t_and, t_or, t_not, t_yes, a_nil, a_cons, a_star, e_tup, e_lst, e_tupS, e_lstS, e_call, e_callM, e_meth, e_bm, e_cut, p_no, p_e, tg_n, tg_t, tg_s, s_nil, s_then, s_seq, s_set, s_setO, s_par2, s_par3, pick, s_tgt, s_ex, s_ret, s_retN, s_if, s_setix, it_e, it_r1, it_r2, it_enum, it_zip, e_lstR, e_tupR, R.at, R.st, R.ats, R.sts, R.atx, R.atxs, R.new?, R.bl?, R.seq?, D.seq?, D.int?, D.bl?, D.str?, D.tup?, D.lst?, D.ty?, En.g, En.p, En.wipe, En.back, Option.bind_some, Option.bind_none, List.length_cons, List.length_nil, List.map_cons, List.map_nil, List.replicate, List.cons_append, List.nil_append, List.set_cons_zero, List.set_cons_succ, List.getElem?_cons_zero, List.getElem?_cons_succ, List.getElem?_nil, Option.join_some, Option.join_none, Nat.reduceAdd, Nat.reduceSub, reduceIte, if_true, if_false, Bool.false_eq_true, D.flat, D.flats, flatIn_l, Bool.and_true, Bool.true_and, Bool.and_self, ix_t0, ix_t1, ix_t2, ix_l0, ix_l1, ix_l2, len_t, len_l, tup_l, add_i, max_2, min_2, sub_i, lt_i, le_i, gt_i, ge_i, neg_i, ne_i, eq_i, ne_s, eq_s, ne_b, eq_b, int_i, int_b, abs_i, in_strs, nin_strs, List.length_map, m1, m2, lwd, sW, Bool.not_true, Bool.not_false]
    rw [← b, beq_self_eq_true]
    simp only [fn, fnM, fin, finM, R.res, R.resM, e_v, e_o, e_c, e_un, e_bin, e_chain, e_and, e_or, e_not, e_if, t_v, t_and, t_or, t_not, t_yes, a_nil, a_cons, a_star, e_tup, e_lst, e_tupS, e_lstS, e_call, e_callM, e_meth, e_bm, e_cut, p_no, p_e, tg_n, tg_t, tg_s, s_nil, s_then, s_seq, s_set, s_setO, s_par2, s_par3, pick, s_tgt, s_ex, s_ret, s_retN, s_if, s_setix, it_e, it_r1, it_r2, it_enum, it_zip, e_lstR, e_tupR, R.at, R.st, R.ats, R.sts, R.atx, R.atxs, R.new?, R.bl?, R.seq?, D.seq?, D.int?, D.bl?, D.str?, D.tup?, D.lst?, D.ty?, En.g, En.p, En.wipe, En.back, Option.bind_some, Option.bind_none, List.length_cons, List.length_nil, List.map_cons, List.map_nil, List.replicate, List.cons_append, List.nil_append, List.set_cons_zero, List.set_cons_succ, List.getElem?_cons_zero, List.getElem?_cons_succ, List.getElem?_nil, Option.join_some, Option.join_none, Nat.reduceAdd, Nat.reduceSub, reduceIte, if_true, if_false, Bool.false_eq_true, D.flat, D.flats, flatIn_l, Bool.and_true, Bool.true_and, Bool.and_self, ix_t0, ix_t1, ix_t2, ix_l0, ix_l1, ix_l2, len_t, len_l, tup_l, add_i, max_2, min_2, sub_i, lt_i, le_i, gt_i, ge_i, neg_i, ne_i, eq_i, ne_s, eq_s, ne_b, eq_b, int_i, int_b, abs_i, in_strs, nin_strs, List.length_map, m1, m2, lwd, sW, Bool.not_true, Bool.not_false]
    rcases word3 B w with e | e | e
    · rw [e]
      have l : lw (ws B w) = sOpen := by
        unfold lw
        rw [sW, if_neg (by decide), ← b, e, s1, if_neg (by decide)]
      simp only [l, s6, fn, fnM, fin, finM, R.res, R.resM, e_v, e_o, e_c, e_un, e_bin, e_chain, e_and, e_or, e_not, e_if, t_v, t_and, t_or, t_not, t_yes, a_nil, a_cons, a_star, e_tup, e_lst, e_tupS, e_lstS, e_call, e_callM, e_meth, e_bm, e_cut, p_no, p_e, tg_n, tg_t, tg_s, s_nil, s_then, s_seq, s_set, s_setO, s_par2, s_par3, pick, s_tgt, s_ex, s_ret, s_retN, s_if, s_setix, it_e, it_r1, it_r2, it_enum, it_zip, e_lstR, e_tupR, R.at, R.st, R.ats, R.sts, R.atx, R.atxs, R.new?, R.bl?, R.seq?, D.seq?, D.int?, D.bl?, D.str?, D.tup?, D.lst?, D.ty?, En.g, En.p, En.wipe, En.back, Option.bind_some, Option.bind_none, List.length_cons, List.length_nil, List.map_cons, List.map_nil, List.replicate, List.cons_append, List.nil_append, List.set_cons_zero, List.set_cons_succ, List.getElem?_cons_zero, List.getElem?_cons_succ, List.getElem?_nil, Option.join_some, Option.join_none, Nat.reduceAdd, Nat.reduceSub, reduceIte, if_true, if_false, Bool.false_eq_true, D.flat, D.flats, flatIn_l, Bool.and_true, Bool.true_and, Bool.and_self, ix_t0, ix_t1, ix_t2, ix_l0, ix_l1, ix_l2, len_t, len_l, tup_l, add_i, max_2, min_2, sub_i, lt_i, le_i, gt_i, ge_i, neg_i, ne_i, eq_i, ne_s, eq_s, ne_b, eq_b, int_i, int_b, abs_i, beq_self_eq_true, sW, Bool.not_false, nin_strs, List.length_map]
      have g : decide ((0 : Int) < (B.length : Int)) = true := by rw [List.length_map] at gt0; exact gt0
      rw [g]
    · rw [e]
      have l : lw (ws B w) = sNever := by
        unfold lw
        rw [sW, if_neg (by decide), ← b, e, if_pos (by decide)]
      simp only [l, fn, fnM, fin, finM, R.res, R.resM, e_v, e_o, e_c, e_un, e_bin, e_chain, e_and, e_or, e_not, e_if, t_v, t_and, t_or, t_not, t_yes, a_nil, a_cons, a_star, e_tup, e_lst, e_tupS, e_lstS, e_call, e_callM, e_meth, e_bm, e_cut, p_no, p_e, tg_n, tg_t, tg_s, s_nil, s_then, s_seq, s_set, s_setO, s_par2, s_par3, pick, s_tgt, s_ex, s_ret, s_retN, s_if, s_setix, it_e, it_r1, it_r2, it_enum, it_zip, e_lstR, e_tupR, R.at, R.st, R.ats, R.sts, R.atx, R.atxs, R.new?, R.bl?, R.seq?, D.seq?, D.int?, D.bl?, D.str?, D.tup?, D.lst?, D.ty?, En.g, En.p, En.wipe, En.back, Option.bind_some, Option.bind_none, List.length_cons, List.length_nil, List.map_cons, List.map_nil, List.replicate, List.cons_append, List.nil_append, List.set_cons_zero, List.set_cons_succ, List.getElem?_cons_zero, List.getElem?_cons_succ, List.getElem?_nil, Option.join_some, Option.join_none, Nat.reduceAdd, Nat.reduceSub, reduceIte, if_true, if_false, Bool.false_eq_true, D.flat, D.flats, flatIn_l, Bool.and_true, Bool.true_and, Bool.and_self, ix_t0, ix_t1, ix_t2, ix_l0, ix_l1, ix_l2, len_t, len_l, tup_l, add_i, max_2, min_2, sub_i, lt_i, le_i, gt_i, ge_i, neg_i, ne_i, eq_i, ne_s, eq_s, ne_b, eq_b, int_i, int_b, abs_i, beq_self_eq_true]
    · rw [e]
      have l : lw (ws B w) = sOpen := by
        unfold lw
        rw [sW, if_neg (by decide), ← b, e, s2, if_neg (by decide)]
      simp only [l, fn, fnM, fin, finM, R.res, R.resM, e_v, e_o, e_c, e_un, e_bin, e_chain, e_and, e_or, e_not, e_if, t_v, t_and, t_or, t_not, t_yes, a_nil, a_cons, a_star, e_tup, e_lst, e_tupS, e_lstS, e_call, e_callM, e_meth, e_bm, e_cut, p_no, p_e, tg_n, tg_t, tg_s, s_nil, s_then, s_seq, s_set, s_setO, s_par2, s_par3, pick, s_tgt, s_ex, s_ret, s_retN, s_if, s_setix, it_e, it_r1, it_r2, it_enum, it_zip, e_lstR, e_tupR, R.at, R.st, R.ats, R.sts, R.atx, R.atxs, R.new?, R.bl?, R.seq?, D.seq?, D.int?, D.bl?, D.str?, D.tup?, D.lst?, D.ty?, En.g, En.p, En.wipe, En.back, Option.bind_some, Option.bind_none, List.length_cons, List.length_nil, List.map_cons, List.map_nil, List.replicate, List.cons_append, List.nil_append, List.set_cons_zero, List.set_cons_succ, List.getElem?_cons_zero, List.getElem?_cons_succ, List.getElem?_nil, Option.join_some, Option.join_none, Nat.reduceAdd, Nat.reduceSub, reduceIte, if_true, if_false, Bool.false_eq_true, D.flat, D.flats, flatIn_l, Bool.and_true, Bool.true_and, Bool.and_self, ix_t0, ix_t1, ix_t2, ix_l0, ix_l1, ix_l2, len_t, len_l, tup_l, add_i, max_2, min_2, sub_i, lt_i, le_i, gt_i, ge_i, neg_i, ne_i, eq_i, ne_s, eq_s, ne_b, eq_b, int_i, int_b, abs_i, beq_self_eq_true]
end G56
namespace G56
open PySem Mini
/-! ### draws -/
theorem take {n u : Int} {p : D} (h : Pot n p) (hn : n ≤ 1000000) (h0 : 0 < u) (h1 : u < 1073741824) : ∃ k p', F__law_take_78 p [.int u] = some (.val (.int k), p') ∧ 0 ≤ k ∧ k < u ∧ Pot (n + 1) p' := by
  obtain ⟨a, b, c, rfl, ha, hb, hb2, hc, hcn⟩ := h
  by_cases z : 0 < a
  · refine ⟨a % u, .lst [.int (a / u), .int b, .int c], ?_, Int.emod_nonneg _ (by omega), Int.emod_lt_of_pos _ h0, a / u, b, c, rfl, Int.ediv_nonneg (by omega) (by omega), hb, hb2, hc, by omega⟩
    have e : st_list (.lst [.int a, .int b, .int c]) (.int 0) (.int (a / u)) = some (.lst [.int (a / u), .int b, .int c]) := rfl
    simp only [F__law_take_78, B__law_take_78, fn, fnM, fin, finM, R.res, R.resM, e_v, e_o, e_c, e_un, e_bin, e_chain, e_and, e_or, e_not, e_if, t_v, t_and, t_or, t_not, t_yes, a_nil, a_cons, a_star, e_tup, e_lst, e_tupS, e_lstS, e_call, e_callM, e_meth, e_bm, e_cut, p_no, p_e, tg_n, tg_t, tg_s, s_nil, s_then, s_seq, s_set, s_setO, s_par2, s_par3, pick, s_tgt, s_ex, s_ret, s_retN, s_if, s_setix, it_e, it_r1, it_r2, it_enum, it_zip, e_lstR, e_tupR, R.at, R.st, R.ats, R.sts, R.atx, R.atxs, R.new?, R.bl?, R.seq?, D.seq?, D.int?, D.bl?, D.str?, D.tup?, D.lst?, D.ty?, En.g, En.p, En.wipe, En.back, Option.bind_some, Option.bind_none, List.length_cons, List.length_nil, List.map_cons, List.map_nil, List.replicate, List.cons_append, List.nil_append, List.set_cons_zero, List.set_cons_succ, List.getElem?_cons_zero, List.getElem?_cons_succ, List.getElem?_nil, Option.join_some, Option.join_none, Nat.reduceAdd, Nat.reduceSub, reduceIte, if_true, if_false, Bool.false_eq_true, D.flat, D.flats, flatIn_l, Bool.and_true, Bool.true_and, Bool.and_self, ix_t0, ix_t1, ix_t2, ix_l0, ix_l1, ix_l2, len_t, len_l, tup_l, add_i, max_2, min_2, sub_i, lt_i, le_i, gt_i, ge_i, neg_i, ne_i, eq_i, ne_s, eq_s, ne_b, eq_b, int_i, int_b, abs_i, decide_eq_true z, mod_i a h0, fdiv_i a h0 h1, e]
  · have ea : a = 0 := by omega
    subst ea
    have e : st_list (.lst [.int 0, .int b, .int c]) (.int 2) (.int (c + 1)) = some (.lst [.int 0, .int b, .int (c + 1)]) := rfl
    have m5 : 0 ≤ (c + 1) % 5 ∧ (c + 1) % 5 < 5 := ⟨Int.emod_nonneg _ (by decide), Int.emod_lt_of_pos _ (by decide)⟩
    obtain ⟨P, hP, hp0, hp1⟩ : ∃ P : Int, o_ix (.lst [.int 2147483647, .int 2147483629, .int 2147483587, .int 2147483579, .int 2147483563]) (.int ((c + 1) % 5)) = some (.val (.int P)) ∧ 0 < P ∧ P ≤ 2147483647 := by
      have : (c + 1) % 5 = 0 ∨ (c + 1) % 5 = 1 ∨ (c + 1) % 5 = 2 ∨ (c + 1) % 5 = 3 ∨ (c + 1) % 5 = 4 := by omega
      rcases this with q | q | q | q | q <;> rw [q] <;> exact ⟨_, rfl, by decide, by decide⟩
    have c1 : c + 1 ≤ 1000001 := by omega
    have x1 : 71943 * (c + 1) * (c + 1) ≤ 71943 * 1000001 * 1000001 := Int.mul_le_mul (by omega) c1 (by omega) (by decide)
    have x0 : 0 ≤ 71943 * (c + 1) * (c + 1) := Int.mul_nonneg (by omega) (by omega)
    have X0 : 0 ≤ b + 71943 * (c + 1) * (c + 1) + 3131 := by omega
    have X1 : b + 71943 * (c + 1) * (c + 1) + 3131 < 2 ^ 100 := by omega
    have y0 := Int.emod_nonneg ((b + 71943 * (c + 1) * (c + 1) + 3131) ^ (3 : Int).toNat) (show P ≠ 0 by omega)
    have y1 := Int.emod_lt_of_pos ((b + 71943 * (c + 1) * (c + 1) + 3131) ^ (3 : Int).toNat) hp0
    have no : ¬ ((0 : Int) < 0) := by decide
    obtain ⟨Y, hY⟩ : ∃ Y : Int, Y = (b + 71943 * (c + 1) * (c + 1) + 3131) ^ (3 : Int).toNat % P := ⟨_, rfl⟩
    rw [← hY] at y0 y1
    refine ⟨(Y * (Y % 42734 + 3508 * (c + 1)) % 2305843009213693907 / 9973) % u, .lst [.int 0, .int b, .int (c + 1)], ?_, Int.emod_nonneg _ (by omega), Int.emod_lt_of_pos _ h0, 0, b, c + 1, rfl, by omega, hb, hb2, by omega, by omega⟩
    simp only [F__law_take_78, B__law_take_78, fn, fnM, fin, finM, R.res, R.resM, e_v, e_o, e_c, e_un, e_bin, e_chain, e_and, e_or, e_not, e_if, t_v, t_and, t_or, t_not, t_yes, a_nil, a_cons, a_star, e_tup, e_lst, e_tupS, e_lstS, e_call, e_callM, e_meth, e_bm, e_cut, p_no, p_e, tg_n, tg_t, tg_s, s_nil, s_then, s_seq, s_set, s_setO, s_par2, s_par3, pick, s_tgt, s_ex, s_ret, s_retN, s_if, s_setix, it_e, it_r1, it_r2, it_enum, it_zip, e_lstR, e_tupR, R.at, R.st, R.ats, R.sts, R.atx, R.atxs, R.new?, R.bl?, R.seq?, D.seq?, D.int?, D.bl?, D.str?, D.tup?, D.lst?, D.ty?, En.g, En.p, En.wipe, En.back, Option.bind_some, Option.bind_none, List.length_cons, List.length_nil, List.map_cons, List.map_nil, List.replicate, List.cons_append, List.nil_append, List.set_cons_zero, List.set_cons_succ, List.getElem?_cons_zero, List.getElem?_cons_succ, List.getElem?_nil, Option.join_some, Option.join_none, Nat.reduceAdd, Nat.reduceSub, reduceIte, if_true, if_false, Bool.false_eq_true, D.flat, D.flats, flatIn_l, Bool.and_true, Bool.true_and, Bool.and_self, ix_t0, ix_t1, ix_t2, ix_l0, ix_l1, ix_l2, len_t, len_l, tup_l, add_i, max_2, min_2, sub_i, lt_i, le_i, gt_i, ge_i, neg_i, ne_i, eq_i, ne_s, eq_s, ne_b, eq_b, int_i, int_b, abs_i, decide_eq_false no, e, mod_i (c + 1) (show (0 : Int) < 5 by decide), hP, mul_i1 (c + 1) (show -(2 ^ 64) < (71943 : Int) by decide) (by decide), mul_i2 (71943 * (c + 1)) (show -(2 ^ 64) < c + 1 by omega) (by omega), pow_i (show (0 : Int) ≤ 3 by decide) (by decide) (big100 X0 X1),
        mod_i _ hp0, ← hY, mod_i Y (show (0 : Int) < 42734 by decide), mul_i1 (c + 1) (show -(2 ^ 64) < (3508 : Int) by decide) (by decide), mul_i1 (Y % 42734 + 3508 * (c + 1)) (show -(2 ^ 64) < Y by omega) (by omega), mod_i _ (show (0 : Int) < 2305843009213693907 by decide), fdiv_i _ (show (0 : Int) < 9973 by decide) (by decide), mod_i _ h0]
end G56
namespace G56
open PySem Mini
theorem law_of {n : Int} {p : D} {l : List D} (h : Pot n p) (hn : n ≤ 1000000) (h0 : 0 < l.length) (h1 : l.length ≤ 1000) (hf : ∀ d ∈ l, d.flat = true) : ∃ d p', F__law_of_79 p [.lst l] = some (.val d, p') ∧ d ∈ l ∧ Pot (n + 1) p' := by
  obtain ⟨k, p', e, k0, k1, hp⟩ := take (u := (l.length : Int)) h hn (by omega) (by omega)
  have hk : k.toNat < l.length := by omega
  have ei : o_ix (.lst l) (.int k) = some (.val l[k.toNat]) := by
    have := ix_l (l := l) (k := k.toNat) (List.getElem?_eq_getElem hk)
    rw [Int.toNat_of_nonneg k0] at this
    exact this
  refine ⟨l[k.toNat], p', ?_, List.getElem_mem hk, hp⟩
  simp only [F__law_of_79, B__law_of_79, fn, fnM, fin, finM, R.res, R.resM, e_v, e_o, e_c, e_un, e_bin, e_chain, e_and, e_or, e_not, e_if, t_v, t_and, t_or, t_not, t_yes, a_nil, a_cons, a_star, e_tup, e_lst, e_tupS, e_lstS, e_call, e_callM, e_meth, e_bm, e_cut, p_no, p_e, tg_n, tg_t, tg_s, s_nil, s_then, s_seq, s_set, s_setO, s_par2, s_par3, pick, s_tgt, s_ex, s_ret, s_retN, s_if, s_setix, it_e, it_r1, it_r2, it_enum, it_zip, e_lstR, e_tupR, R.at, R.st, R.ats, R.sts, R.atx, R.atxs, R.new?, R.bl?, R.seq?, D.seq?, D.int?, D.bl?, D.str?, D.tup?, D.lst?, D.ty?, En.g, En.p, En.wipe, En.back, Option.bind_some, Option.bind_none, List.length_cons, List.length_nil, List.map_cons, List.map_nil, List.replicate, List.cons_append, List.nil_append, List.set_cons_zero, List.set_cons_succ, List.getElem?_cons_zero, List.getElem?_cons_succ, List.getElem?_nil, Option.join_some, Option.join_none, Nat.reduceAdd, Nat.reduceSub, reduceIte, if_true, if_false, Bool.false_eq_true, D.flat, D.flats, flatIn_l, Bool.and_true, Bool.true_and, Bool.and_self, ix_t0, ix_t1, ix_t2, ix_l0, ix_l1, ix_l2, len_t, len_l, tup_l, add_i, max_2, min_2, sub_i, lt_i, le_i, gt_i, ge_i, neg_i, ne_i, eq_i, ne_s, eq_s, ne_b, eq_b, int_i, int_b, abs_i, e, ei, hf _ (List.getElem_mem hk), hp.flat]
theorem law_bounds {n m mo : Int} {p : D} (h : Pot n p) (hn : n ≤ 900000) (h0 : 1 ≤ m) (h1 : m ≤ 20) (h2 : 0 ≤ mo) (h3 : mo ≤ 1000) : ∃ B p', F__law_bounds_81 p [.int m, .int mo] = some (.val (bD B), p') ∧ B.length = m.toNat ∧ (∀ q ∈ B, 0 ≤ q.1 ∧ q.1 ≤ q.2 ∧ q.2 ≤ mo) ∧ Pot (n + 60) p' := by
  obtain ⟨e', f1, p', B, x4, x5, x6, f2, f3, f4, f5⟩ := for_pre (fun i : Int => D.int i) (g := tg_n 4)
    (b := s_seq (s_set 5 (e_call o_int (a_cons (e_callM F__law_take_78 0 (a_cons (e_bin o_add (e_v 2) (e_c (.int 1))) a_nil)) a_nil))) (s_seq (s_set 6 (e_if (t_v (e_bin o_gt (e_callM F__law_take_78 0 (a_cons (e_c (.int 3)) a_nil)) (e_c (.int 0)))) (e_call o_int (a_cons (e_callM F__law_take_78 0 (a_cons (e_bin o_add (e_v 2) (e_c (.int 1))) a_nil)) a_nil)) (e_v 5))) (s_ex (e_meth m_append 3 (a_cons (e_tup (a_cons (e_call o_min (a_cons (e_v 5) (a_cons (e_v 6) a_nil))) (a_cons (e_call o_max (a_cons (e_v 5) (a_cons (e_v 6) a_nil))) a_nil))) a_nil)))))
    (fun done e => ∃ p' B x4 x5 x6, e = [some p', some (.int m), some (.int mo), some (.lst (B.map enc)), x4, x5, x6] ∧ B.length = done.length ∧ (∀ q ∈ B, 0 ≤ q.1 ∧ q.1 ≤ q.2 ∧ q.2 ≤ mo) ∧ Pot (n + 3 * done.length) p') ((List.range m.toNat).map fun i => (0 : Int) + (i : Nat))
    [some p, some (.int m), some (.int mo), some (.lst []), none, none, none] ⟨p, [], none, none, none, rfl, rfl, (fun q hq => by cases hq), by simpa using h⟩ (fun done i rest e hf hi => by
      obtain ⟨p', B, x4, x5, x6, rfl, b1, b2, b3⟩ := hi
      have hd : done.length < 20 := by
        have := congrArg List.length hf
        rw [List.length_map, List.length_range, List.length_append, List.length_cons] at this
        omega
      obtain ⟨k1, p1, e1, k10, k11, hp1⟩ := take (u := mo + 1) b3 (by omega) (by omega) (by omega)
      obtain ⟨k2, p2, e2, k20, k21, hp2⟩ := take (u := 3) hp1 (by omega) (by omega) (by omega)
      have hz : (B.map enc).length < SZ := by rw [List.length_map, sz_val]; omega
      by_cases z : 0 < k2
      · obtain ⟨k3, p3, e3, k30, k31, hp3⟩ := take (u := mo + 1) hp2 (by omega) (by omega) (by omega)
        refine ⟨[some p', some (.int m), some (.int mo), some (.lst (B.map enc)), some (.int i), x5, x6], [some p3, some (.int m), some (.int mo), some (.lst ((B ++ [(min k1 k3, max k1 k3)]).map enc)), some (.int i), some (.int k1), some (.int k3)], rfl, .inl ?_, p3, _, _, _, _, rfl, by rw [List.length_append, List.length_append, b1]; rfl, fun q hq => ?_, ?_⟩
        · simp only [fn, fnM, fin, finM, R.res, R.resM, e_v, e_o, e_c, e_un, e_bin, e_chain, e_and, e_or, e_not, e_if, t_v, t_and, t_or, t_not, t_yes, a_nil, a_cons, a_star, e_tup, e_lst, e_tupS, e_lstS, e_call, e_callM, e_meth, e_bm, e_cut, p_no, p_e, tg_n, tg_t, tg_s, s_nil, s_then, s_seq, s_set, s_setO, s_par2, s_par3, pick, s_tgt, s_ex, s_ret, s_retN, s_if, s_setix, it_e, it_r1, it_r2, it_enum, it_zip, e_lstR, e_tupR, R.at, R.st, R.ats, R.sts, R.atx, R.atxs, R.new?, R.bl?, R.seq?, D.seq?, D.int?, D.bl?, D.str?, D.tup?, D.lst?, D.ty?, En.g, En.p, En.wipe, En.back, Option.bind_some, Option.bind_none, List.length_cons, List.length_nil, List.map_cons, List.map_nil, List.replicate, List.cons_append, List.nil_append, List.set_cons_zero, List.set_cons_succ, List.getElem?_cons_zero, List.getElem?_cons_succ, List.getElem?_nil, Option.join_some, Option.join_none, Nat.reduceAdd, Nat.reduceSub, reduceIte, if_true, if_false, Bool.false_eq_true, D.flat, D.flats, flatIn_l, Bool.and_true, Bool.true_and, Bool.and_self, ix_t0, ix_t1, ix_t2, ix_l0, ix_l1, ix_l2, len_t, len_l, tup_l, add_i, max_2, min_2, sub_i, lt_i, le_i, gt_i, ge_i, neg_i, ne_i, eq_i, ne_s, eq_s, ne_b, eq_b, int_i, int_b, abs_i, e1, e2, e3, decide_eq_true z, m_append]
          rw [if_pos hz]
          simp only [fn, fnM, fin, finM, R.res, R.resM, e_v, e_o, e_c, e_un, e_bin, e_chain, e_and, e_or, e_not, e_if, t_v, t_and, t_or, t_not, t_yes, a_nil, a_cons, a_star, e_tup, e_lst, e_tupS, e_lstS, e_call, e_callM, e_meth, e_bm, e_cut, p_no, p_e, tg_n, tg_t, tg_s, s_nil, s_then, s_seq, s_set, s_setO, s_par2, s_par3, pick, s_tgt, s_ex, s_ret, s_retN, s_if, s_setix, it_e, it_r1, it_r2, it_enum, it_zip, e_lstR, e_tupR, R.at, R.st, R.ats, R.sts, R.atx, R.atxs, R.new?, R.bl?, R.seq?, D.seq?, D.int?, D.bl?, D.str?, D.tup?, D.lst?, D.ty?, En.g, En.p, En.wipe, En.back, Option.bind_some, Option.bind_none, List.length_cons, List.length_nil, List.map_cons, List.map_nil, List.replicate, List.cons_append, List.nil_append, List.set_cons_zero, List.set_cons_succ, List.getElem?_cons_zero, List.getElem?_cons_succ, List.getElem?_nil, Option.join_some, Option.join_none, Nat.reduceAdd, Nat.reduceSub, reduceIte, if_true, if_false, Bool.false_eq_true, D.flat, D.flats, flatIn_l, Bool.and_true, Bool.true_and, Bool.and_self, ix_t0, ix_t1, ix_t2, ix_l0, ix_l1, ix_l2, len_t, len_l, tup_l, add_i, max_2, min_2, sub_i, lt_i, le_i, gt_i, ge_i, neg_i, ne_i, eq_i, ne_s, eq_s, ne_b, eq_b, int_i, int_b, abs_i, List.map_append]
        · rcases List.mem_append.mp hq with hq | hq
          · exact b2 q hq
          · rw [List.mem_singleton.mp hq]
            show 0 ≤ min k1 k3 ∧ min k1 k3 ≤ max k1 k3 ∧ max k1 k3 ≤ mo
            omega
        · refine hp3.mono ?_
          rw [List.length_append]
          show _ ≤ n + 3 * ((done.length + 1 : Nat) : Int)
          omega
      · refine ⟨[some p', some (.int m), some (.int mo), some (.lst (B.map enc)), some (.int i), x5, x6], [some p2, some (.int m), some (.int mo), some (.lst ((B ++ [(min k1 k1, max k1 k1)]).map enc)), some (.int i), some (.int k1), some (.int k1)], rfl, .inl ?_, p2, _, _, _, _, rfl, by rw [List.length_append, List.length_append, b1]; rfl, fun q hq => ?_, ?_⟩
        · simp only [fn, fnM, fin, finM, R.res, R.resM, e_v, e_o, e_c, e_un, e_bin, e_chain, e_and, e_or, e_not, e_if, t_v, t_and, t_or, t_not, t_yes, a_nil, a_cons, a_star, e_tup, e_lst, e_tupS, e_lstS, e_call, e_callM, e_meth, e_bm, e_cut, p_no, p_e, tg_n, tg_t, tg_s, s_nil, s_then, s_seq, s_set, s_setO, s_par2, s_par3, pick, s_tgt, s_ex, s_ret, s_retN, s_if, s_setix, it_e, it_r1, it_r2, it_enum, it_zip, e_lstR, e_tupR, R.at, R.st, R.ats, R.sts, R.atx, R.atxs, R.new?, R.bl?, R.seq?, D.seq?, D.int?, D.bl?, D.str?, D.tup?, D.lst?, D.ty?, En.g, En.p, En.wipe, En.back, Option.bind_some, Option.bind_none, List.length_cons, List.length_nil, List.map_cons, List.map_nil, List.replicate, List.cons_append, List.nil_append, List.set_cons_zero, List.set_cons_succ, List.getElem?_cons_zero, List.getElem?_cons_succ, List.getElem?_nil, Option.join_some, Option.join_none, Nat.reduceAdd, Nat.reduceSub, reduceIte, if_true, if_false, Bool.false_eq_true, D.flat, D.flats, flatIn_l, Bool.and_true, Bool.true_and, Bool.and_self, ix_t0, ix_t1, ix_t2, ix_l0, ix_l1, ix_l2, len_t, len_l, tup_l, add_i, max_2, min_2, sub_i, lt_i, le_i, gt_i, ge_i, neg_i, ne_i, eq_i, ne_s, eq_s, ne_b, eq_b, int_i, int_b, abs_i, e1, e2, decide_eq_false z, m_append]
          rw [if_pos hz]
          simp only [fn, fnM, fin, finM, R.res, R.resM, e_v, e_o, e_c, e_un, e_bin, e_chain, e_and, e_or, e_not, e_if, t_v, t_and, t_or, t_not, t_yes, a_nil, a_cons, a_star, e_tup, e_lst, e_tupS, e_lstS, e_call, e_callM, e_meth, e_bm, e_cut, p_no, p_e, tg_n, tg_t, tg_s, s_nil, s_then, s_seq, s_set, s_setO, s_par2, s_par3, pick, s_tgt, s_ex, s_ret, s_retN, s_if, s_setix, it_e, it_r1, it_r2, it_enum, it_zip, e_lstR, e_tupR, R.at, R.st, R.ats, R.sts, R.atx, R.atxs, R.new?, R.bl?, R.seq?, D.seq?, D.int?, D.bl?, D.str?, D.tup?, D.lst?, D.ty?, En.g, En.p, En.wipe, En.back, Option.bind_some, Option.bind_none, List.length_cons, List.length_nil, List.map_cons, List.map_nil, List.replicate, List.cons_append, List.nil_append, List.set_cons_zero, List.set_cons_succ, List.getElem?_cons_zero, List.getElem?_cons_succ, List.getElem?_nil, Option.join_some, Option.join_none, Nat.reduceAdd, Nat.reduceSub, reduceIte, if_true, if_false, Bool.false_eq_true, D.flat, D.flats, flatIn_l, Bool.and_true, Bool.true_and, Bool.and_self, ix_t0, ix_t1, ix_t2, ix_l0, ix_l1, ix_l2, len_t, len_l, tup_l, add_i, max_2, min_2, sub_i, lt_i, le_i, gt_i, ge_i, neg_i, ne_i, eq_i, ne_s, eq_s, ne_b, eq_b, int_i, int_b, abs_i, List.map_append]
        · rcases List.mem_append.mp hq with hq | hq
          · exact b2 q hq
          · rw [List.mem_singleton.mp hq]
            show 0 ≤ min k1 k1 ∧ min k1 k1 ≤ max k1 k1 ∧ max k1 k1 ≤ mo
            omega
        · refine hp2.mono ?_
          rw [List.length_append]
          show _ ≤ n + 3 * ((done.length + 1 : Nat) : Int)
          omega)
  subst f2
  rw [List.length_map, List.length_range] at f3 f5
  have f6 : Pot (n + 60) p' := f5.mono (by omega)
  rw [← rng_map] at f1
  have r1 : rngOk m = true := by rw [rngOk_def]; exact decide_eq_true (by omega)
  have r2 : le24 m = true := by rw [le24_def]; exact decide_eq_true (by omega)
  refine ⟨B, p', ?_, f3, f4, f6⟩
  simp only [F__law_bounds_81, B__law_bounds_81, fn, fnM, fin, finM, R.res, R.resM, e_v, e_o, e_c, e_un, e_bin, e_chain, e_and, e_or, e_not, e_if, t_v, t_and, t_or, t_not, t_yes, a_nil, a_cons, a_star, e_tup, e_lst, e_tupS, e_lstS, e_call, e_callM, e_meth, e_bm, e_cut, p_no, p_e, tg_n, tg_t, tg_s, s_nil, s_then, s_seq, s_set, s_setO, s_par2, s_par3, pick, s_tgt, s_ex, s_ret, s_retN, s_if, s_setix, it_e, it_r1, it_r2, it_enum, it_zip, e_lstR, e_tupR, R.at, R.st, R.ats, R.sts, R.atx, R.atxs, R.new?, R.bl?, R.seq?, D.seq?, D.int?, D.bl?, D.str?, D.tup?, D.lst?, D.ty?, En.g, En.p, En.wipe, En.back, Option.bind_some, Option.bind_none, List.length_cons, List.length_nil, List.map_cons, List.map_nil, List.replicate, List.cons_append, List.nil_append, List.set_cons_zero, List.set_cons_succ, List.getElem?_cons_zero, List.getElem?_cons_succ, List.getElem?_nil, Option.join_some, Option.join_none, Nat.reduceAdd, Nat.reduceSub, reduceIte, if_true, if_false, Bool.false_eq_true, D.flat, D.flats, flatIn_l, Bool.and_true, Bool.true_and, Bool.and_self, ix_t0, ix_t1, ix_t2, ix_l0, ix_l1, ix_l2, len_t, len_l, tup_l, add_i, max_2, min_2, sub_i, lt_i, le_i, gt_i, ge_i, neg_i, ne_i, eq_i, ne_s, eq_s, ne_b, eq_b, int_i, int_b, abs_i, s_for, r1, r2, and_self]
  rw [f1]
  simp only [fn, fnM, fin, finM, R.res, R.resM, e_v, e_o, e_c, e_un, e_bin, e_chain, e_and, e_or, e_not, e_if, t_v, t_and, t_or, t_not, t_yes, a_nil, a_cons, a_star, e_tup, e_lst, e_tupS, e_lstS, e_call, e_callM, e_meth, e_bm, e_cut, p_no, p_e, tg_n, tg_t, tg_s, s_nil, s_then, s_seq, s_set, s_setO, s_par2, s_par3, pick, s_tgt, s_ex, s_ret, s_retN, s_if, s_setix, it_e, it_r1, it_r2, it_enum, it_zip, e_lstR, e_tupR, R.at, R.st, R.ats, R.sts, R.atx, R.atxs, R.new?, R.bl?, R.seq?, D.seq?, D.int?, D.bl?, D.str?, D.tup?, D.lst?, D.ty?, En.g, En.p, En.wipe, En.back, Option.bind_some, Option.bind_none, List.length_cons, List.length_nil, List.map_cons, List.map_nil, List.replicate, List.cons_append, List.nil_append, List.set_cons_zero, List.set_cons_succ, List.getElem?_cons_zero, List.getElem?_cons_succ, List.getElem?_nil, Option.join_some, Option.join_none, Nat.reduceAdd, Nat.reduceSub, reduceIte, if_true, if_false, Bool.false_eq_true, D.flat, D.flats, flatIn_l, Bool.and_true, Bool.true_and, Bool.and_self, ix_t0, ix_t1, ix_t2, ix_l0, ix_l1, ix_l2, len_t, len_l, tup_l, add_i, max_2, min_2, sub_i, lt_i, le_i, gt_i, ge_i, neg_i, ne_i, eq_i, ne_s, eq_s, ne_b, eq_b, int_i, int_b, abs_i, flats_map (f := enc) (fun q => rfl), f6.flat]
end G56
namespace G56
open PySem Mini
theorem law_cells {s : D} {ds : List D} (h : IsSq s ds) : F__law_cells_80 [s, .int 3] = some (.new (.lst (rngL 0 (max 1 (min 3 (ds.length : Int))).toNat))) := by
  have r1 : rngOk (max 1 (min 3 (ds.length : Int))) = true := by rw [rngOk_def]; exact decide_eq_true (by omega)
  have r2 : le24 (max 1 (min 3 (ds.length : Int))) = true := by rw [le24_def]; exact decide_eq_true (by omega)
  have f : D.flats (rngL 0 (max 1 (min 3 (ds.length : Int))).toNat) = true := by rw [rng_map]; exact flats_ints _
  simp only [F__law_cells_80, B__law_cells_80, fn, fnM, fin, finM, R.res, R.resM, e_v, e_o, e_c, e_un, e_bin, e_chain, e_and, e_or, e_not, e_if, t_v, t_and, t_or, t_not, t_yes, a_nil, a_cons, a_star, e_tup, e_lst, e_tupS, e_lstS, e_call, e_callM, e_meth, e_bm, e_cut, p_no, p_e, tg_n, tg_t, tg_s, s_nil, s_then, s_seq, s_set, s_setO, s_par2, s_par3, pick, s_tgt, s_ex, s_ret, s_retN, s_if, s_setix, it_e, it_r1, it_r2, it_enum, it_zip, e_lstR, e_tupR, R.at, R.st, R.ats, R.sts, R.atx, R.atxs, R.new?, R.bl?, R.seq?, D.seq?, D.int?, D.bl?, D.str?, D.tup?, D.lst?, D.ty?, En.g, En.p, En.wipe, En.back, Option.bind_some, Option.bind_none, List.length_cons, List.length_nil, List.map_cons, List.map_nil, List.replicate, List.cons_append, List.nil_append, List.set_cons_zero, List.set_cons_succ, List.getElem?_cons_zero, List.getElem?_cons_succ, List.getElem?_nil, Option.join_some, Option.join_none, Nat.reduceAdd, Nat.reduceSub, reduceIte, if_true, if_false, Bool.false_eq_true, D.flat, D.flats, flatIn_l, Bool.and_true, Bool.true_and, Bool.and_self, ix_t0, ix_t1, ix_t2, ix_l0, ix_l1, ix_l2, len_t, len_l, tup_l, add_i, max_2, min_2, sub_i, lt_i, le_i, gt_i, ge_i, neg_i, ne_i, eq_i, ne_s, eq_s, ne_b, eq_b, int_i, int_b, abs_i, sq_len h, r1, r2, and_self, f]
theorem p10 : ((10 : Int) ^ (60 : Int).toNat).natAbs < 2 ^ 1000 := by decide +kernel
theorem p10b : (0 : Int) < ((10 : Int) ^ (60 : Int).toNat) ^ (5 : Int).toNat := by decide +kernel
theorem p10c : ((10 : Int)).natAbs < 2 ^ 1000 := by decide +kernel
theorem law_pot {s : D} {ns : List Int} {k : Nat} (h : IsSq s (ns.map .int)) (hk : k < ns.length ∨ ns = []) (h3 : k < 3) : ∃ p, F__law_pot_77 [s, .int (k : Int)] = some (.new p) ∧ Pot 0 p := by
  -- the cell
  obtain ⟨c, hc⟩ : ∃ c : Int, e_if (t_v (e_bin o_lt (e_v 1) (e_call o_len (a_cons (e_v 0) a_nil)))) (e_bin o_ix (e_v 0) (e_v 1)) (e_bin o_add (e_bin o_add (e_bin o_mod (e_call o_sum (a_cons (e_cut (e_v 0) p_no (p_e (e_c (.int 1)))) a_nil)) (e_c (.int 1000003))) (e_bin o_mulI (e_c (.int 59221)) (e_v 1))) (e_c (.int 61484)))
      [some s, some (.int (k : Int)), none, none, none] = some (.val (.int c), [some s, some (.int (k : Int)), none, none, none]) := by
    rcases hk with hk | hk
    · refine ⟨ns[k], ?_⟩
      have e : o_ix s (.int (k : Int)) = some (.val (.int ns[k])) := sq_ix h (by rw [List.getElem?_map, List.getElem?_eq_getElem hk]; rfl)
      have z : decide ((k : Int) < (((ns.map D.int).length : Nat) : Int)) = true := decide_eq_true (by rw [List.length_map]; omega)
      simp only [fn, fnM, fin, finM, R.res, R.resM, e_v, e_o, e_c, e_un, e_bin, e_chain, e_and, e_or, e_not, e_if, t_v, t_and, t_or, t_not, t_yes, a_nil, a_cons, a_star, e_tup, e_lst, e_tupS, e_lstS, e_call, e_callM, e_meth, e_bm, e_cut, p_no, p_e, tg_n, tg_t, tg_s, s_nil, s_then, s_seq, s_set, s_setO, s_par2, s_par3, pick, s_tgt, s_ex, s_ret, s_retN, s_if, s_setix, it_e, it_r1, it_r2, it_enum, it_zip, e_lstR, e_tupR, R.at, R.st, R.ats, R.sts, R.atx, R.atxs, R.new?, R.bl?, R.seq?, D.seq?, D.int?, D.bl?, D.str?, D.tup?, D.lst?, D.ty?, En.g, En.p, En.wipe, En.back, Option.bind_some, Option.bind_none, List.length_cons, List.length_nil, List.map_cons, List.map_nil, List.replicate, List.cons_append, List.nil_append, List.set_cons_zero, List.set_cons_succ, List.getElem?_cons_zero, List.getElem?_cons_succ, List.getElem?_nil, Option.join_some, Option.join_none, Nat.reduceAdd, Nat.reduceSub, reduceIte, if_true, if_false, Bool.false_eq_true, D.flat, D.flats, flatIn_l, Bool.and_true, Bool.true_and, Bool.and_self, ix_t0, ix_t1, ix_t2, ix_l0, ix_l1, ix_l2, len_t, len_l, tup_l, add_i, max_2, min_2, sub_i, lt_i, le_i, gt_i, ge_i, neg_i, ne_i, eq_i, ne_s, eq_s, ne_b, eq_b, int_i, int_b, abs_i, sq_len h, z, e]
    · subst hk
      have z : decide ((k : Int) < ((0 : Nat) : Int)) = false := decide_eq_false (by omega)
      have e := sq_cut h none (some 1)
      have e2 : cutP ([].map D.int) none (some 1) = [].map D.int := rfl
      have e3 : o_sum [.lst []] = some (.val (.int 0)) := rfl
      rw [e2] at e
      refine ⟨0 % 1000003 + 59221 * (k : Int) + 61484, ?_⟩
      simp only [fn, fnM, fin, finM, R.res, R.resM, e_v, e_o, e_c, e_un, e_bin, e_chain, e_and, e_or, e_not, e_if, t_v, t_and, t_or, t_not, t_yes, a_nil, a_cons, a_star, e_tup, e_lst, e_tupS, e_lstS, e_call, e_callM, e_meth, e_bm, e_cut, p_no, p_e, tg_n, tg_t, tg_s, s_nil, s_then, s_seq, s_set, s_setO, s_par2, s_par3, pick, s_tgt, s_ex, s_ret, s_retN, s_if, s_setix, it_e, it_r1, it_r2, it_enum, it_zip, e_lstR, e_tupR, R.at, R.st, R.ats, R.sts, R.atx, R.atxs, R.new?, R.bl?, R.seq?, D.seq?, D.int?, D.bl?, D.str?, D.tup?, D.lst?, D.ty?, En.g, En.p, En.wipe, En.back, Option.bind_some, Option.bind_none, List.length_cons, List.length_nil, List.map_cons, List.map_nil, List.replicate, List.cons_append, List.nil_append, List.set_cons_zero, List.set_cons_succ, List.getElem?_cons_zero, List.getElem?_cons_succ, List.getElem?_nil, Option.join_some, Option.join_none, Nat.reduceAdd, Nat.reduceSub, reduceIte, if_true, if_false, Bool.false_eq_true, D.flat, D.flats, flatIn_l, Bool.and_true, Bool.true_and, Bool.and_self, ix_t0, ix_t1, ix_t2, ix_l0, ix_l1, ix_l2, len_t, len_l, tup_l, add_i, max_2, min_2, sub_i, lt_i, le_i, gt_i, ge_i, neg_i, ne_i, eq_i, ne_s, eq_s, ne_b, eq_b, int_i, int_b, abs_i, sq_len h, z, e, e3, mod_i _ (show (0 : Int) < 1000003 by decide), mul_i1 (k : Int) (show -(2 ^ 64) < (59221 : Int) by decide) (by decide)]
  have m1 : ∀ x : Int, o_mod (.int x) (.int (((10 : Int) ^ (60 : Int).toNat) ^ (5 : Int).toNat)) = some (.val (.int (x % ((10 : Int) ^ (60 : Int).toNat) ^ (5 : Int).toNat))) := fun x => mod_i x p10b
  obtain ⟨N, hN⟩ : ∃ N : Int, N = ((10 : Int) ^ (60 : Int).toNat) ^ (5 : Int).toNat := ⟨_, rfl⟩
  have hN0 : 0 < N := by rw [hN]; exact p10b
  obtain ⟨T, hT⟩ : ∃ T : Int, T = (10 : Int) ^ (60 : Int).toNat := ⟨_, rfl⟩
  obtain ⟨T2, hT2⟩ : ∃ T2 : Int, T2 = (10 : Int) ^ (18 : Int).toNat := ⟨_, rfl⟩
  have q1 : o_pow (.int 10) (.int 60) = some (.val (.int T)) := by rw [pow_i (by decide) (by decide) p10c, hT]
  have q2 : o_pow (.int T) (.int 5) = some (.val (.int N)) := by rw [hT, pow_i (by decide) (by decide) p10, hN]
  have q3 : o_pow (.int 10) (.int 18) = some (.val (.int T2)) := by rw [pow_i (by decide) (by decide) p10c, hT2]
  obtain ⟨a, ha⟩ : ∃ a : Int, a = (if c < 0 then -c else c) := ⟨_, rfl⟩
  obtain ⟨g, hg⟩ : ∃ g : Int, g = (if decide (T2 ≤ a) = true then 1 else 0) := ⟨_, rfl⟩
  have g01 : 0 ≤ g ∧ g ≤ 1 := by rw [hg]; split <;> omega
  refine ⟨.lst [.int (a % N * g), .int ((c % 2305843009213693951 * 124217 + 22456 * (k : Int) * (k : Int) + 78742) % 2305843009213693921), .int 0], ?_, _, _, _, rfl, Int.mul_nonneg (Int.emod_nonneg _ (by omega)) g01.1, Int.emod_nonneg _ (by decide), ?_, by decide, by decide⟩
  · simp only [F__law_pot_77, B__law_pot_77, fn, List.length_cons, List.length_nil, Nat.reduceAdd, if_true, s_seq, s_set, List.map_cons, List.map_nil, List.replicate, Nat.reduceSub, List.cons_append, List.nil_append]
    rw [hc]
    simp only [fn, fnM, fin, finM, R.res, R.resM, e_v, e_o, e_c, e_un, e_bin, e_chain, e_and, e_or, e_not, e_if, t_v, t_and, t_or, t_not, t_yes, a_nil, a_cons, a_star, e_tup, e_lst, e_tupS, e_lstS, e_call, e_callM, e_meth, e_bm, e_cut, p_no, p_e, tg_n, tg_t, tg_s, s_nil, s_then, s_seq, s_set, s_setO, s_par2, s_par3, pick, s_tgt, s_ex, s_ret, s_retN, s_if, s_setix, it_e, it_r1, it_r2, it_enum, it_zip, e_lstR, e_tupR, R.at, R.st, R.ats, R.sts, R.atx, R.atxs, R.new?, R.bl?, R.seq?, D.seq?, D.int?, D.bl?, D.str?, D.tup?, D.lst?, D.ty?, En.g, En.p, En.wipe, En.back, Option.bind_some, Option.bind_none, List.length_cons, List.length_nil, List.map_cons, List.map_nil, List.replicate, List.cons_append, List.nil_append, List.set_cons_zero, List.set_cons_succ, List.getElem?_cons_zero, List.getElem?_cons_succ, List.getElem?_nil, Option.join_some, Option.join_none, Nat.reduceAdd, Nat.reduceSub, reduceIte, if_true, if_false, Bool.false_eq_true, D.flat, D.flats, flatIn_l, Bool.and_true, Bool.true_and, Bool.and_self, ix_t0, ix_t1, ix_t2, ix_l0, ix_l1, ix_l2, len_t, len_l, tup_l, add_i, max_2, min_2, sub_i, lt_i, le_i, gt_i, ge_i, neg_i, ne_i, eq_i, ne_s, eq_s, ne_b, eq_b, int_i, int_b, abs_i, q1, q2, q3, ← ha, mod_i _ hN0, ← hg, mul_i2 _ (show -(2 ^ 64) < g by omega) (by omega), mod_i _ (show (0 : Int) < 2305843009213693951 by decide), mul_i2 _ (show -(2 ^ 64) < (124217 : Int) by decide) (by decide), mul_i1 (k : Int) (show -(2 ^ 64) < (22456 : Int) by decide) (by decide),
      mul_i2 _ (show -(2 ^ 64) < (k : Int) by omega) (by omega), mod_i _ (show (0 : Int) < 2305843009213693921 by decide)]
  · have := Int.emod_lt_of_pos (c % 2305843009213693951 * 124217 + 22456 * (k : Int) * (k : Int) + 78742) (show (0 : Int) < 2305843009213693921 by decide)
    omega
end G56

/-! ## X56 -/
namespace G56
open PySem Mini
/-! ### rows of numbers -/
abbrev rD (row : List Int) : D := .tup (row.map .int)
def wide (row : List Int) : Int := mx row - mn row
structure Row (row : List Int) : Prop where
  pos : row ≠ []
  few : row.length ≤ 20
  fine : ∀ x ∈ row, 0 ≤ x ∧ x ≤ 1000
theorem Row.wide {row : List Int} (h : Row row) : 0 ≤ wide row ∧ wide row ≤ 1000 := by
  have a := h.fine _ (mx_mem h.pos)
  have b := h.fine _ (mn_mem h.pos)
  have c := mx_le (mn_mem h.pos)
  unfold G56.wide
  omega
theorem wide_le {row : List Int} {m : Int} (h : row ≠ []) : wide row ≤ m ↔ ∀ x ∈ row, ∀ y ∈ row, x - y ≤ m := by
  constructor
  · intro hw x hx y hy
    have a := mx_le hx
    have b := mn_le hy
    unfold wide at hw
    omega
  · intro hw
    exact hw _ (mx_mem h) _ (mn_mem h)
theorem is_row {row : List Int} (h : Row row) : F_is_row_50 [rD row] = some (.val (.bl true)) := by
  have e : F_is_tuple_1 [rD row, .int 1, .int 260] = some (.val (.bl true)) := by
    have h1 := h.few
    have h2 := List.length_pos_iff.mpr h.pos
    rw [tuple_ok, decide_eq_true (by rw [List.length_map]; omega)]
  have e1 : e_lc (it_e (e_v 0)) (tg_n 1) t_yes (e_call F_is_integer_3 (a_cons (e_v 1) (a_cons (e_c (.int 0)) (a_cons (e_c (.int 1000)) a_nil)))) [1] [some (rD row), none] = some (.new (.lst ((row.map fun _ => true).map .bl)), [some (rD row), none]) := by
    refine lcX D.int row (fun p => .bl true) (e' := [some (rD row), none]) ?_ (List.map_map).symm rfl ?_
    · rfl
    exact fun p hp => ⟨[some (rD row), some (.int p)], .val (.bl true), [some (rD row), some (.int p)], rfl, by simp only [fn, fnM, fin, finM, R.res, R.resM, e_v, e_o, e_c, e_un, e_bin, e_chain, e_and, e_or, e_not, e_if, t_v, t_and, t_or, t_not, t_yes, a_nil, a_cons, a_star, e_tup, e_lst, e_tupS, e_lstS, e_call, e_callM, e_meth, e_bm, e_cut, p_no, p_e, tg_n, tg_t, tg_s, s_nil, s_then, s_seq, s_set, s_setO, s_par2, s_par3, pick, s_tgt, s_ex, s_ret, s_retN, s_if, s_setix, it_e, it_r1, it_r2, it_enum, it_zip, e_lstR, e_tupR, R.at, R.st, R.ats, R.sts, R.atx, R.atxs, R.new?, R.bl?, R.seq?, D.seq?, D.int?, D.bl?, D.str?, D.tup?, D.lst?, D.ty?, En.g, En.p, En.wipe, En.back, Option.bind_some, Option.bind_none, List.length_cons, List.length_nil, List.map_cons, List.map_nil, List.replicate, List.cons_append, List.nil_append, List.set_cons_zero, List.set_cons_succ, List.getElem?_cons_zero, List.getElem?_cons_succ, List.getElem?_nil, Option.join_some, Option.join_none, Nat.reduceAdd, Nat.reduceSub, reduceIte, if_true, if_false, Bool.false_eq_true, D.flat, D.flats, flatIn_l, Bool.and_true, Bool.true_and, Bool.and_self, ix_t0, ix_t1, ix_t2, ix_l0, ix_l1, ix_l2, len_t, len_l, tup_l, add_i, max_2, min_2, sub_i, lt_i, le_i, gt_i, ge_i, neg_i, ne_i, eq_i, ne_s, eq_s, ne_b, eq_b, int_i, int_b, abs_i, integer, decide_eq_true (h.fine p hp)], rfl, rfl⟩
  have al : (row.map fun _ => true).all id = true := all_true fun _ _ => rfl
  simp only [F_is_row_50, B_is_row_50, fn, fnM, fin, finM, R.res, R.resM, e_v, e_o, e_c, e_un, e_bin, e_chain, e_and, e_or, e_not, e_if, t_v, t_and, t_or, t_not, t_yes, a_nil, a_cons, a_star, e_tup, e_lst, e_tupS, e_lstS, e_call, e_callM, e_meth, e_bm, e_cut, p_no, p_e, tg_n, tg_t, tg_s, s_nil, s_then, s_seq, s_set, s_setO, s_par2, s_par3, pick, s_tgt, s_ex, s_ret, s_retN, s_if, s_setix, it_e, it_r1, it_r2, it_enum, it_zip, e_lstR, e_tupR, R.at, R.st, R.ats, R.sts, R.atx, R.atxs, R.new?, R.bl?, R.seq?, D.seq?, D.int?, D.bl?, D.str?, D.tup?, D.lst?, D.ty?, En.g, En.p, En.wipe, En.back, Option.bind_some, Option.bind_none, List.length_cons, List.length_nil, List.map_cons, List.map_nil, List.replicate, List.cons_append, List.nil_append, List.set_cons_zero, List.set_cons_succ, List.getElem?_cons_zero, List.getElem?_cons_succ, List.getElem?_nil, Option.join_some, Option.join_none, Nat.reduceAdd, Nat.reduceSub, reduceIte, if_true, if_false, Bool.false_eq_true, D.flat, D.flats, flatIn_l, Bool.and_true, Bool.true_and, Bool.and_self, ix_t0, ix_t1, ix_t2, ix_l0, ix_l1, ix_l2, len_t, len_l, tup_l, add_i, max_2, min_2, sub_i, lt_i, le_i, gt_i, ge_i, neg_i, ne_i, eq_i, ne_s, eq_s, ne_b, eq_b, int_i, int_b, abs_i, e, e1, all_l, al]
theorem check_row {row : List Int} (h : Row row) : F_check_row_52 [rD row] = some (.val .non) := by
  simp only [F_check_row_52, B_check_row_52, fn, fnM, fin, finM, R.res, R.resM, e_v, e_o, e_c, e_un, e_bin, e_chain, e_and, e_or, e_not, e_if, t_v, t_and, t_or, t_not, t_yes, a_nil, a_cons, a_star, e_tup, e_lst, e_tupS, e_lstS, e_call, e_callM, e_meth, e_bm, e_cut, p_no, p_e, tg_n, tg_t, tg_s, s_nil, s_then, s_seq, s_set, s_setO, s_par2, s_par3, pick, s_tgt, s_ex, s_ret, s_retN, s_if, s_setix, it_e, it_r1, it_r2, it_enum, it_zip, e_lstR, e_tupR, R.at, R.st, R.ats, R.sts, R.atx, R.atxs, R.new?, R.bl?, R.seq?, D.seq?, D.int?, D.bl?, D.str?, D.tup?, D.lst?, D.ty?, En.g, En.p, En.wipe, En.back, Option.bind_some, Option.bind_none, List.length_cons, List.length_nil, List.map_cons, List.map_nil, List.replicate, List.cons_append, List.nil_append, List.set_cons_zero, List.set_cons_succ, List.getElem?_cons_zero, List.getElem?_cons_succ, List.getElem?_nil, Option.join_some, Option.join_none, Nat.reduceAdd, Nat.reduceSub, reduceIte, if_true, if_false, Bool.false_eq_true, D.flat, D.flats, flatIn_l, Bool.and_true, Bool.true_and, Bool.and_self, ix_t0, ix_t1, ix_t2, ix_l0, ix_l1, ix_l2, len_t, len_l, tup_l, add_i, max_2, min_2, sub_i, lt_i, le_i, gt_i, ge_i, neg_i, ne_i, eq_i, ne_s, eq_s, ne_b, eq_b, int_i, int_b, abs_i, is_row h, Bool.not_true]
theorem check_width {row : List Int} {m : Int} (h : Row row) (h0 : 0 ≤ m) (h1 : m ≤ 1000) : F_check_width_53 [rD row, .int m] = some (.val .non) := by
  simp only [F_check_width_53, B_check_width_53, fn, fnM, fin, finM, R.res, R.resM, e_v, e_o, e_c, e_un, e_bin, e_chain, e_and, e_or, e_not, e_if, t_v, t_and, t_or, t_not, t_yes, a_nil, a_cons, a_star, e_tup, e_lst, e_tupS, e_lstS, e_call, e_callM, e_meth, e_bm, e_cut, p_no, p_e, tg_n, tg_t, tg_s, s_nil, s_then, s_seq, s_set, s_setO, s_par2, s_par3, pick, s_tgt, s_ex, s_ret, s_retN, s_if, s_setix, it_e, it_r1, it_r2, it_enum, it_zip, e_lstR, e_tupR, R.at, R.st, R.ats, R.sts, R.atx, R.atxs, R.new?, R.bl?, R.seq?, D.seq?, D.int?, D.bl?, D.str?, D.tup?, D.lst?, D.ty?, En.g, En.p, En.wipe, En.back, Option.bind_some, Option.bind_none, List.length_cons, List.length_nil, List.map_cons, List.map_nil, List.replicate, List.cons_append, List.nil_append, List.set_cons_zero, List.set_cons_succ, List.getElem?_cons_zero, List.getElem?_cons_succ, List.getElem?_nil, Option.join_some, Option.join_none, Nat.reduceAdd, Nat.reduceSub, reduceIte, if_true, if_false, Bool.false_eq_true, D.flat, D.flats, flatIn_l, Bool.and_true, Bool.true_and, Bool.and_self, ix_t0, ix_t1, ix_t2, ix_l0, ix_l1, ix_l2, len_t, len_l, tup_l, add_i, max_2, min_2, sub_i, lt_i, le_i, gt_i, ge_i, neg_i, ne_i, eq_i, ne_s, eq_s, ne_b, eq_b, int_i, int_b, abs_i, check_row h, integer, decide_eq_true (show 0 ≤ m ∧ m ≤ 1000 from ⟨h0, h1⟩), Bool.not_true]
def seg (row : List Int) (b e : Nat) : List Int := (row.drop b).take (e - b)
theorem differ {row : List Int} {b e : Nat} (h1 : b < e) (h2 : e ≤ row.length) : F_differ_54 [rD row, .int (b : Int), .int (e : Int)] = some (.val (.int (wide (seg row b e)))) := by
  have hc : cutP (row.map D.int) (some (b : Int)) (some (e : Int)) = (seg row b e).map D.int := by
    rw [cut_ft _ (by omega) (by rw [List.length_map]; exact h2)]
    unfold seg
    rw [List.map_take, List.map_drop]
  have hn : seg row b e ≠ [] := fun z => by
    have := congrArg List.length z
    unfold seg at this
    rw [List.length_take, List.length_drop, List.length_nil] at this
    omega
  simp only [F_differ_54, B_differ_54, fn, fnM, fin, finM, R.res, R.resM, e_v, e_o, e_c, e_un, e_bin, e_chain, e_and, e_or, e_not, e_if, t_v, t_and, t_or, t_not, t_yes, a_nil, a_cons, a_star, e_tup, e_lst, e_tupS, e_lstS, e_call, e_callM, e_meth, e_bm, e_cut, p_no, p_e, tg_n, tg_t, tg_s, s_nil, s_then, s_seq, s_set, s_setO, s_par2, s_par3, pick, s_tgt, s_ex, s_ret, s_retN, s_if, s_setix, it_e, it_r1, it_r2, it_enum, it_zip, e_lstR, e_tupR, R.at, R.st, R.ats, R.sts, R.atx, R.atxs, R.new?, R.bl?, R.seq?, D.seq?, D.int?, D.bl?, D.str?, D.tup?, D.lst?, D.ty?, En.g, En.p, En.wipe, En.back, Option.bind_some, Option.bind_none, List.length_cons, List.length_nil, List.map_cons, List.map_nil, List.replicate, List.cons_append, List.nil_append, List.set_cons_zero, List.set_cons_succ, List.getElem?_cons_zero, List.getElem?_cons_succ, List.getElem?_nil, Option.join_some, Option.join_none, Nat.reduceAdd, Nat.reduceSub, reduceIte, if_true, if_false, Bool.false_eq_true, D.flat, D.flats, flatIn_l, Bool.and_true, Bool.true_and, Bool.and_self, ix_t0, ix_t1, ix_t2, ix_l0, ix_l1, ix_l2, len_t, len_l, tup_l, add_i, max_2, min_2, sub_i, lt_i, le_i, gt_i, ge_i, neg_i, ne_i, eq_i, ne_s, eq_s, ne_b, eq_b, int_i, int_b, abs_i, o_cut, hc, max_t hn, min_t hn]
  rfl
theorem seg_sub {row : List Int} {b e : Nat} {x : Int} (h : x ∈ seg row b e) : x ∈ row := List.mem_of_mem_drop (List.mem_of_mem_take h)
theorem fewest_parts {row : List Int} {m : Int} (h : Row row) (h0 : 0 ≤ m) (h1 : m ≤ 1000) : ∃ f s : List D, F_fewest_parts_55 [rD row, .int m] = some (.val (.tup [.tup f, .tup s])) ∧ 1 ≤ f.length ∧ (f.length = 1 ↔ wide row ≤ m) := by
  have n1 := List.length_pos_iff.mpr h.pos
  have n2 := h.few
  have r1 : rngOk 1 = true := by rw [rngOk_def]; exact decide_eq_true (by decide)
  have r2 : rngOk (row.length : Int) = true := by rw [rngOk_def]; exact decide_eq_true (by omega)
  have r3 : le24 ((row.length : Int) - 1) = true := by rw [le24_def]; exact decide_eq_true (by omega)
  obtain ⟨e', f1, bs, lb, ss, x4, f2, b0, b1, b2, b3, b4, b5⟩ := for_pre (fun i : Int => D.int i) (g := tg_n 4)
    (b := s_if (t_v (e_bin o_gt (e_call F_differ_54 (a_cons (e_v 0) (a_cons (e_bin o_ix (e_o 2) (e_un o_neg (e_c (.int 1)))) (a_cons (e_bin o_add (e_v 4) (e_c (.int 1))) a_nil)))) (e_v 1))) (s_seq (s_ex (e_meth m_append 3 (a_cons (e_tup (a_cons (e_bin o_ix (e_o 2) (e_un o_neg (e_c (.int 1)))) (a_cons (e_v 4) a_nil))) a_nil))) (s_ex (e_meth m_append 2 (a_cons (e_v 4) a_nil)))) s_nil)
    (fun done e => ∃ (bs : List Nat) (lb : Nat) (ss : List (Int × Int)) (x4 : Option D), e = [some (rD row), some (.int m), some (.lst ((bs.map fun i : Nat => D.int (i : Int)) ++ [.int (lb : Int)])), some (.lst (ss.map enc)), x4] ∧ lb ≤ done.length ∧ bs.length ≤ done.length ∧ ss.length ≤ done.length ∧ done.length < row.length ∧
      (bs = [] → lb = 0 ∧ ∀ x ∈ row.take (done.length + 1), ∀ y ∈ row.take (done.length + 1), x - y ≤ m) ∧ (bs ≠ [] → m < wide row)) ((List.range ((row.length : Int) - 1).toNat).map fun i => (1 : Int) + (i : Nat))
    [some (rD row), some (.int m), some (.lst [.int 0]), some (.lst []), none] ⟨[], 0, [], none, rfl, Nat.le_refl _, Nat.le_refl _, Nat.le_refl _, n1, fun _ => ⟨rfl, fun x hx y hy => by
      obtain ⟨a, r, e⟩ := List.exists_cons_of_ne_nil h.pos
      rw [e] at hx hy
      have hx : x ∈ [a] := hx
      have hy : y ∈ [a] := hy
      rw [List.mem_singleton.mp hx, List.mem_singleton.mp hy]
      omega⟩, fun z => absurd rfl z⟩ (fun done i rest e hf hi => by
      obtain ⟨bs, lb, ss, x4, rfl, c1, c2, c3, c4, c5, c6⟩ := hi
      have hi : i = 1 + (done.length : Nat) := by
        have : ((List.range ((row.length : Int) - 1).toNat).map fun i => (1 : Int) + (i : Nat))[done.length]? = some i := by rw [hf, List.getElem?_append_right (Nat.le_refl _), Nat.sub_self]; rfl
        rw [List.getElem?_map] at this
        have hl : done.length < ((row.length : Int) - 1).toNat := by
          have := congrArg List.length hf
          rw [List.length_map, List.length_range, List.length_append, List.length_cons] at this
          omega
        rw [List.getElem?_range hl] at this
        exact (Option.some.inj this).symm
      have hd : done.length + 1 < row.length := by
        have := congrArg List.length hf
        rw [List.length_map, List.length_range, List.length_append, List.length_cons] at this
        omega
      subst hi
      have ed := differ (row := row) (b := lb) (e := done.length + 2) (by omega) (by omega)
      have ei : (1 : Int) + (done.length : Nat) + 1 = ((done.length + 2 : Nat) : Int) := by omega
      have z1 : (ss.map enc).length < SZ := by rw [List.length_map, sz_val]; omega
      have z2 : ((bs.map fun i : Nat => D.int (i : Int)) ++ [D.int (lb : Int)]).length < SZ := by rw [List.length_append, List.length_map, List.length_singleton, sz_val]; omega
      by_cases z : m < wide (seg row lb (done.length + 2))
      · refine ⟨[some (rD row), some (.int m), some (.lst ((bs.map fun i : Nat => D.int (i : Int)) ++ [.int (lb : Int)])), some (.lst (ss.map enc)), some (.int (1 + (done.length : Nat)))],
          [some (rD row), some (.int m), some (.lst (((bs ++ [lb]).map fun i : Nat => D.int (i : Int)) ++ [.int ((1 + done.length : Nat) : Int)])), some (.lst ((ss ++ [((lb : Int), (1 : Int) + (done.length : Nat))]).map enc)), some (.int (1 + (done.length : Nat)))], rfl, .inl ?_, bs ++ [lb], 1 + done.length, ss ++ [((lb : Int), (1 : Int) + (done.length : Nat))], _, rfl, by rw [List.length_append, List.length_singleton]; omega, by rw [List.length_append, List.length_append]; exact Nat.succ_le_succ c2, by rw [List.length_append, List.length_append]; exact Nat.succ_le_succ c3, by rw [List.length_append, List.length_singleton]; omega, fun zz => by simp at zz, fun _ => ?_⟩
        · simp only [fn, fnM, fin, finM, R.res, R.resM, e_v, e_o, e_c, e_un, e_bin, e_chain, e_and, e_or, e_not, e_if, t_v, t_and, t_or, t_not, t_yes, a_nil, a_cons, a_star, e_tup, e_lst, e_tupS, e_lstS, e_call, e_callM, e_meth, e_bm, e_cut, p_no, p_e, tg_n, tg_t, tg_s, s_nil, s_then, s_seq, s_set, s_setO, s_par2, s_par3, pick, s_tgt, s_ex, s_ret, s_retN, s_if, s_setix, it_e, it_r1, it_r2, it_enum, it_zip, e_lstR, e_tupR, R.at, R.st, R.ats, R.sts, R.atx, R.atxs, R.new?, R.bl?, R.seq?, D.seq?, D.int?, D.bl?, D.str?, D.tup?, D.lst?, D.ty?, En.g, En.p, En.wipe, En.back, Option.bind_some, Option.bind_none, List.length_cons, List.length_nil, List.map_cons, List.map_nil, List.replicate, List.cons_append, List.nil_append, List.set_cons_zero, List.set_cons_succ, List.getElem?_cons_zero, List.getElem?_cons_succ, List.getElem?_nil, Option.join_some, Option.join_none, Nat.reduceAdd, Nat.reduceSub, reduceIte, if_true, if_false, Bool.false_eq_true, D.flat, D.flats, flatIn_l, Bool.and_true, Bool.true_and, Bool.and_self, ix_t0, ix_t1, ix_t2, ix_l0, ix_l1, ix_l2, len_t, len_l, tup_l, add_i, max_2, min_2, sub_i, lt_i, le_i, gt_i, ge_i, neg_i, ne_i, eq_i, ne_s, eq_s, ne_b, eq_b, int_i, int_b, abs_i, ix_last, ei, ed, decide_eq_true z, m_append]
          rw [if_pos z1]
          simp only [fn, fnM, fin, finM, R.res, R.resM, e_v, e_o, e_c, e_un, e_bin, e_chain, e_and, e_or, e_not, e_if, t_v, t_and, t_or, t_not, t_yes, a_nil, a_cons, a_star, e_tup, e_lst, e_tupS, e_lstS, e_call, e_callM, e_meth, e_bm, e_cut, p_no, p_e, tg_n, tg_t, tg_s, s_nil, s_then, s_seq, s_set, s_setO, s_par2, s_par3, pick, s_tgt, s_ex, s_ret, s_retN, s_if, s_setix, it_e, it_r1, it_r2, it_enum, it_zip, e_lstR, e_tupR, R.at, R.st, R.ats, R.sts, R.atx, R.atxs, R.new?, R.bl?, R.seq?, D.seq?, D.int?, D.bl?, D.str?, D.tup?, D.lst?, D.ty?, En.g, En.p, En.wipe, En.back, Option.bind_some, Option.bind_none, List.length_cons, List.length_nil, List.map_cons, List.map_nil, List.replicate, List.cons_append, List.nil_append, List.set_cons_zero, List.set_cons_succ, List.getElem?_cons_zero, List.getElem?_cons_succ, List.getElem?_nil, Option.join_some, Option.join_none, Nat.reduceAdd, Nat.reduceSub, reduceIte, if_true, if_false, Bool.false_eq_true, D.flat, D.flats, flatIn_l, Bool.and_true, Bool.true_and, Bool.and_self, ix_t0, ix_t1, ix_t2, ix_l0, ix_l1, ix_l2, len_t, len_l, tup_l, add_i, max_2, min_2, sub_i, lt_i, le_i, gt_i, ge_i, neg_i, ne_i, eq_i, ne_s, eq_s, ne_b, eq_b, int_i, int_b, abs_i, ix_last]
          rw [if_pos z2]
          simp only [fn, fnM, fin, finM, R.res, R.resM, e_v, e_o, e_c, e_un, e_bin, e_chain, e_and, e_or, e_not, e_if, t_v, t_and, t_or, t_not, t_yes, a_nil, a_cons, a_star, e_tup, e_lst, e_tupS, e_lstS, e_call, e_callM, e_meth, e_bm, e_cut, p_no, p_e, tg_n, tg_t, tg_s, s_nil, s_then, s_seq, s_set, s_setO, s_par2, s_par3, pick, s_tgt, s_ex, s_ret, s_retN, s_if, s_setix, it_e, it_r1, it_r2, it_enum, it_zip, e_lstR, e_tupR, R.at, R.st, R.ats, R.sts, R.atx, R.atxs, R.new?, R.bl?, R.seq?, D.seq?, D.int?, D.bl?, D.str?, D.tup?, D.lst?, D.ty?, En.g, En.p, En.wipe, En.back, Option.bind_some, Option.bind_none, List.length_cons, List.length_nil, List.map_cons, List.map_nil, List.replicate, List.cons_append, List.nil_append, List.set_cons_zero, List.set_cons_succ, List.getElem?_cons_zero, List.getElem?_cons_succ, List.getElem?_nil, Option.join_some, Option.join_none, Nat.reduceAdd, Nat.reduceSub, reduceIte, if_true, if_false, Bool.false_eq_true, D.flat, D.flats, flatIn_l, Bool.and_true, Bool.true_and, Bool.and_self, ix_t0, ix_t1, ix_t2, ix_l0, ix_l1, ix_l2, len_t, len_l, tup_l, add_i, max_2, min_2, sub_i, lt_i, le_i, gt_i, ge_i, neg_i, ne_i, eq_i, ne_s, eq_s, ne_b, eq_b, int_i, int_b, abs_i, List.map_append]
          rfl
        · refine Int.lt_of_not_ge fun zz => ?_
          have hs : seg row lb (done.length + 2) ≠ [] := fun e => by
            have := congrArg List.length e
            unfold seg at this
            rw [List.length_take, List.length_drop, List.length_nil] at this
            omega
          have := (wide_le hs).mpr fun x hx y hy => (wide_le h.pos).mp zz x (seg_sub hx) y (seg_sub hy)
          omega
      · refine ⟨[some (rD row), some (.int m), some (.lst ((bs.map fun i : Nat => D.int (i : Int)) ++ [.int (lb : Int)])), some (.lst (ss.map enc)), some (.int (1 + (done.length : Nat)))],
          [some (rD row), some (.int m), some (.lst ((bs.map fun i : Nat => D.int (i : Int)) ++ [.int (lb : Int)])), some (.lst (ss.map enc)), some (.int (1 + (done.length : Nat)))], rfl, .inl ?_, bs, lb, ss, _, rfl, by rw [List.length_append]; omega, by rw [List.length_append]; omega, by rw [List.length_append]; omega, by rw [List.length_append, List.length_singleton]; omega, fun zz => ?_, c6⟩
        · simp only [fn, fnM, fin, finM, R.res, R.resM, e_v, e_o, e_c, e_un, e_bin, e_chain, e_and, e_or, e_not, e_if, t_v, t_and, t_or, t_not, t_yes, a_nil, a_cons, a_star, e_tup, e_lst, e_tupS, e_lstS, e_call, e_callM, e_meth, e_bm, e_cut, p_no, p_e, tg_n, tg_t, tg_s, s_nil, s_then, s_seq, s_set, s_setO, s_par2, s_par3, pick, s_tgt, s_ex, s_ret, s_retN, s_if, s_setix, it_e, it_r1, it_r2, it_enum, it_zip, e_lstR, e_tupR, R.at, R.st, R.ats, R.sts, R.atx, R.atxs, R.new?, R.bl?, R.seq?, D.seq?, D.int?, D.bl?, D.str?, D.tup?, D.lst?, D.ty?, En.g, En.p, En.wipe, En.back, Option.bind_some, Option.bind_none, List.length_cons, List.length_nil, List.map_cons, List.map_nil, List.replicate, List.cons_append, List.nil_append, List.set_cons_zero, List.set_cons_succ, List.getElem?_cons_zero, List.getElem?_cons_succ, List.getElem?_nil, Option.join_some, Option.join_none, Nat.reduceAdd, Nat.reduceSub, reduceIte, if_true, if_false, Bool.false_eq_true, D.flat, D.flats, flatIn_l, Bool.and_true, Bool.true_and, Bool.and_self, ix_t0, ix_t1, ix_t2, ix_l0, ix_l1, ix_l2, len_t, len_l, tup_l, add_i, max_2, min_2, sub_i, lt_i, le_i, gt_i, ge_i, neg_i, ne_i, eq_i, ne_s, eq_s, ne_b, eq_b, int_i, int_b, abs_i, ix_last, ei, ed, decide_eq_false z]
        · obtain ⟨q1, _⟩ := c5 zz
          subst q1
          refine ⟨rfl, ?_⟩
          have hs : seg row 0 (done.length + 2) ≠ [] := fun e => by
            have := congrArg List.length e
            unfold seg at this
            rw [List.length_take, List.length_drop, List.length_nil] at this
            omega
          have := (wide_le hs).mp (Int.not_lt.mp z)
          rw [List.length_append, List.length_singleton]
          exact this)
  subst f2
  rw [← rng_map] at f1
  rw [List.length_map, List.length_range] at b3 b4
  refine ⟨(bs.map fun i : Nat => D.int (i : Int)) ++ [.int (lb : Int)], ss.map enc, ?_, by rw [List.length_append, List.length_singleton]; omega, ?_⟩
  · simp only [F_fewest_parts_55, B_fewest_parts_55, fn, fnM, fin, finM, R.res, R.resM, e_v, e_o, e_c, e_un, e_bin, e_chain, e_and, e_or, e_not, e_if, t_v, t_and, t_or, t_not, t_yes, a_nil, a_cons, a_star, e_tup, e_lst, e_tupS, e_lstS, e_call, e_callM, e_meth, e_bm, e_cut, p_no, p_e, tg_n, tg_t, tg_s, s_nil, s_then, s_seq, s_set, s_setO, s_par2, s_par3, pick, s_tgt, s_ex, s_ret, s_retN, s_if, s_setix, it_e, it_r1, it_r2, it_enum, it_zip, e_lstR, e_tupR, R.at, R.st, R.ats, R.sts, R.atx, R.atxs, R.new?, R.bl?, R.seq?, D.seq?, D.int?, D.bl?, D.str?, D.tup?, D.lst?, D.ty?, En.g, En.p, En.wipe, En.back, Option.bind_some, Option.bind_none, List.length_cons, List.length_nil, List.map_cons, List.map_nil, List.replicate, List.cons_append, List.nil_append, List.set_cons_zero, List.set_cons_succ, List.getElem?_cons_zero, List.getElem?_cons_succ, List.getElem?_nil, Option.join_some, Option.join_none, Nat.reduceAdd, Nat.reduceSub, reduceIte, if_true, if_false, Bool.false_eq_true, D.flat, D.flats, flatIn_l, Bool.and_true, Bool.true_and, Bool.and_self, ix_t0, ix_t1, ix_t2, ix_l0, ix_l1, ix_l2, len_t, len_l, tup_l, add_i, max_2, min_2, sub_i, lt_i, le_i, gt_i, ge_i, neg_i, ne_i, eq_i, ne_s, eq_s, ne_b, eq_b, int_i, int_b, abs_i, check_width h h0 h1, s_for, List.length_map, r1, r2, r3, and_self]
    rw [f1]
    have fl : D.flats ((bs.map fun i : Nat => D.int (i : Int)) ++ [D.int (lb : Int)]) = true := by
      rw [show (bs.map fun i : Nat => D.int (i : Int)) ++ [D.int (lb : Int)] = (bs ++ [lb]).map fun i : Nat => D.int (i : Int) by rw [List.map_append]; rfl]
      exact flats_map (fun _ => rfl) _
    simp only [fn, fnM, fin, finM, R.res, R.resM, e_v, e_o, e_c, e_un, e_bin, e_chain, e_and, e_or, e_not, e_if, t_v, t_and, t_or, t_not, t_yes, a_nil, a_cons, a_star, e_tup, e_lst, e_tupS, e_lstS, e_call, e_callM, e_meth, e_bm, e_cut, p_no, p_e, tg_n, tg_t, tg_s, s_nil, s_then, s_seq, s_set, s_setO, s_par2, s_par3, pick, s_tgt, s_ex, s_ret, s_retN, s_if, s_setix, it_e, it_r1, it_r2, it_enum, it_zip, e_lstR, e_tupR, R.at, R.st, R.ats, R.sts, R.atx, R.atxs, R.new?, R.bl?, R.seq?, D.seq?, D.int?, D.bl?, D.str?, D.tup?, D.lst?, D.ty?, En.g, En.p, En.wipe, En.back, Option.bind_some, Option.bind_none, List.length_cons, List.length_nil, List.map_cons, List.map_nil, List.replicate, List.cons_append, List.nil_append, List.set_cons_zero, List.set_cons_succ, List.getElem?_cons_zero, List.getElem?_cons_succ, List.getElem?_nil, Option.join_some, Option.join_none, Nat.reduceAdd, Nat.reduceSub, reduceIte, if_true, if_false, Bool.false_eq_true, D.flat, D.flats, flatIn_l, Bool.and_true, Bool.true_and, Bool.and_self, ix_t0, ix_t1, ix_t2, ix_l0, ix_l1, ix_l2, len_t, len_l, tup_l, add_i, max_2, min_2, sub_i, lt_i, le_i, gt_i, ge_i, neg_i, ne_i, eq_i, ne_s, eq_s, ne_b, eq_b, int_i, int_b, abs_i, fl, flats_map (f := enc) (fun q => rfl)]
  · rw [List.length_append, List.length_singleton, List.length_map]
    constructor
    · intro z
      have hb : bs = [] := List.length_eq_zero_iff.mp (by omega)
      obtain ⟨_, q⟩ := b4 hb
      rw [wide_le h.pos]
      have et : row.take (((row.length : Int) - 1).toNat + 1) = row := List.take_of_length_le (by omega)
      rw [et] at q
      exact q
    · intro z
      by_cases hb : bs = []
      · rw [hb]; rfl
      · have := b5 hb
        omega
end G56
namespace G56
open PySem Mini
theorem ix_pair0 (a b : D) : o_ix (.tup [a, b]) (.int 0) = some (.val a) := ix_t0 a [b]
theorem least_width {row : List Int} (h : Row row) : F_least_width_56 [rD row, .int 1] = some (.val (.int (wide row))) := by
  have hw := h.wide
  obtain ⟨e', f1, x4, f2⟩ := while_inv (t := t_v (e_bin o_gt (e_bin o_sub (e_v 3) (e_v 2)) (e_c (.int 1))))
    (b := s_seq (s_set 4 (e_bin o_fdiv (e_bin o_add (e_v 2) (e_v 3)) (e_c (.int 2)))) (s_if (t_v (e_bin o_le (e_call o_len (a_cons (e_bin o_ix (e_call F_fewest_parts_55 (a_cons (e_v 0) (a_cons (e_v 4) a_nil))) (e_c (.int 0))) a_nil)) (e_v 1))) (s_set 3 (e_v 4)) (s_set 2 (e_v 4))))
    (fun e => ∃ (lo : Int) (x4 : Option D), e = [some (rD row), some (.int 1), some (.int lo), some (.int (wide row)), x4] ∧ -1 ≤ lo ∧ (lo < wide row))
    (fun e => ∃ x4 : Option D × Option D, e = [some (rD row), some (.int 1), x4.1, some (.int (wide row)), x4.2])
    (fun e => match e with | [_, _, some (.int lo), _, _] => (wide row - lo).toNat | _ => 0)
    (fun e he => by
      obtain ⟨lo, x4, rfl, l0, l1⟩ := he
      by_cases z : 1 < wide row - lo
      · refine ⟨true, [some (rD row), some (.int 1), some (.int lo), some (.int (wide row)), x4], by simp only [fn, fnM, fin, finM, R.res, R.resM, e_v, e_o, e_c, e_un, e_bin, e_chain, e_and, e_or, e_not, e_if, t_v, t_and, t_or, t_not, t_yes, a_nil, a_cons, a_star, e_tup, e_lst, e_tupS, e_lstS, e_call, e_callM, e_meth, e_bm, e_cut, p_no, p_e, tg_n, tg_t, tg_s, s_nil, s_then, s_seq, s_set, s_setO, s_par2, s_par3, pick, s_tgt, s_ex, s_ret, s_retN, s_if, s_setix, it_e, it_r1, it_r2, it_enum, it_zip, e_lstR, e_tupR, R.at, R.st, R.ats, R.sts, R.atx, R.atxs, R.new?, R.bl?, R.seq?, D.seq?, D.int?, D.bl?, D.str?, D.tup?, D.lst?, D.ty?, En.g, En.p, En.wipe, En.back, Option.bind_some, Option.bind_none, List.length_cons, List.length_nil, List.map_cons, List.map_nil, List.replicate, List.cons_append, List.nil_append, List.set_cons_zero, List.set_cons_succ, List.getElem?_cons_zero, List.getElem?_cons_succ, List.getElem?_nil, Option.join_some, Option.join_none, Nat.reduceAdd, Nat.reduceSub, reduceIte, if_true, if_false, Bool.false_eq_true, D.flat, D.flats, flatIn_l, Bool.and_true, Bool.true_and, Bool.and_self, ix_t0, ix_t1, ix_t2, ix_l0, ix_l1, ix_l2, len_t, len_l, tup_l, add_i, max_2, min_2, sub_i, lt_i, le_i, gt_i, ge_i, neg_i, ne_i, eq_i, ne_s, eq_s, ne_b, eq_b, int_i, int_b, abs_i, decide_eq_true z], fun _ => ?_, (fun z => by cases z)⟩
        have m1 : lo < (lo + wide row) / 2 := by omega
        have m2 : (lo + wide row) / 2 < wide row := by omega
        obtain ⟨f, s, ef, g1, g2⟩ := fewest_parts (m := (lo + wide row) / 2) h (by omega) (by omega)
        have no : decide ((f.length : Int) ≤ 1) = false := decide_eq_false fun zz => by
          have := g2.mp (by omega)
          omega
        refine ⟨[some (rD row), some (.int 1), some (.int ((lo + wide row) / 2)), some (.int (wide row)), some (.int ((lo + wide row) / 2))], ?_, ⟨_, _, rfl, by omega, m2⟩, ?_⟩
        · simp only [fn, fnM, fin, finM, R.res, R.resM, e_v, e_o, e_c, e_un, e_bin, e_chain, e_and, e_or, e_not, e_if, t_v, t_and, t_or, t_not, t_yes, a_nil, a_cons, a_star, e_tup, e_lst, e_tupS, e_lstS, e_call, e_callM, e_meth, e_bm, e_cut, p_no, p_e, tg_n, tg_t, tg_s, s_nil, s_then, s_seq, s_set, s_setO, s_par2, s_par3, pick, s_tgt, s_ex, s_ret, s_retN, s_if, s_setix, it_e, it_r1, it_r2, it_enum, it_zip, e_lstR, e_tupR, R.at, R.st, R.ats, R.sts, R.atx, R.atxs, R.new?, R.bl?, R.seq?, D.seq?, D.int?, D.bl?, D.str?, D.tup?, D.lst?, D.ty?, En.g, En.p, En.wipe, En.back, Option.bind_some, Option.bind_none, List.length_cons, List.length_nil, List.map_cons, List.map_nil, List.replicate, List.cons_append, List.nil_append, List.set_cons_zero, List.set_cons_succ, List.getElem?_cons_zero, List.getElem?_cons_succ, List.getElem?_nil, Option.join_some, Option.join_none, Nat.reduceAdd, Nat.reduceSub, reduceIte, if_true, if_false, Bool.false_eq_true, D.flat, D.flats, flatIn_l, Bool.and_true, Bool.true_and, Bool.and_self, ix_t0, ix_t1, ix_t2, ix_l0, ix_l1, ix_l2, len_t, len_l, tup_l, add_i, max_2, min_2, sub_i, lt_i, le_i, gt_i, ge_i, neg_i, ne_i, eq_i, ne_s, eq_s, ne_b, eq_b, int_i, int_b, abs_i, fdiv_i (lo + wide row) (show (0 : Int) < 2 by decide) (by decide), ef, no]
        · show (wide row - (lo + wide row) / 2).toNat < (wide row - lo).toNat
          omega
      · exact ⟨false, [some (rD row), some (.int 1), some (.int lo), some (.int (wide row)), x4], by simp only [fn, fnM, fin, finM, R.res, R.resM, e_v, e_o, e_c, e_un, e_bin, e_chain, e_and, e_or, e_not, e_if, t_v, t_and, t_or, t_not, t_yes, a_nil, a_cons, a_star, e_tup, e_lst, e_tupS, e_lstS, e_call, e_callM, e_meth, e_bm, e_cut, p_no, p_e, tg_n, tg_t, tg_s, s_nil, s_then, s_seq, s_set, s_setO, s_par2, s_par3, pick, s_tgt, s_ex, s_ret, s_retN, s_if, s_setix, it_e, it_r1, it_r2, it_enum, it_zip, e_lstR, e_tupR, R.at, R.st, R.ats, R.sts, R.atx, R.atxs, R.new?, R.bl?, R.seq?, D.seq?, D.int?, D.bl?, D.str?, D.tup?, D.lst?, D.ty?, En.g, En.p, En.wipe, En.back, Option.bind_some, Option.bind_none, List.length_cons, List.length_nil, List.map_cons, List.map_nil, List.replicate, List.cons_append, List.nil_append, List.set_cons_zero, List.set_cons_succ, List.getElem?_cons_zero, List.getElem?_cons_succ, List.getElem?_nil, Option.join_some, Option.join_none, Nat.reduceAdd, Nat.reduceSub, reduceIte, if_true, if_false, Bool.false_eq_true, D.flat, D.flats, flatIn_l, Bool.and_true, Bool.true_and, Bool.and_self, ix_t0, ix_t1, ix_t2, ix_l0, ix_l1, ix_l2, len_t, len_l, tup_l, add_i, max_2, min_2, sub_i, lt_i, le_i, gt_i, ge_i, neg_i, ne_i, eq_i, ne_s, eq_s, ne_b, eq_b, int_i, int_b, abs_i, decide_eq_false z], (fun z => by cases z), (fun _ => ⟨(some (.int lo), x4), rfl⟩)⟩)
    fuel [some (rD row), some (.int 1), some (.int (-1)), some (.int (wide row)), none] ⟨-1, none, rfl, by omega, by omega⟩ (by
      show (wide row - -1).toNat < fuel
      unfold fuel
      omega)
  subst f2
  have n1 : row ≠ [] := h.pos
  have c1 : F_is_integer_3 [.int 1, .int 1, .int 260] = some (.val (.bl true)) := by rw [integer]; rfl
  simp only [F_least_width_56, B_least_width_56, fn, fnM, fin, finM, R.res, R.resM, e_v, e_o, e_c, e_un, e_bin, e_chain, e_and, e_or, e_not, e_if, t_v, t_and, t_or, t_not, t_yes, a_nil, a_cons, a_star, e_tup, e_lst, e_tupS, e_lstS, e_call, e_callM, e_meth, e_bm, e_cut, p_no, p_e, tg_n, tg_t, tg_s, s_nil, s_then, s_seq, s_set, s_setO, s_par2, s_par3, pick, s_tgt, s_ex, s_ret, s_retN, s_if, s_setix, it_e, it_r1, it_r2, it_enum, it_zip, e_lstR, e_tupR, R.at, R.st, R.ats, R.sts, R.atx, R.atxs, R.new?, R.bl?, R.seq?, D.seq?, D.int?, D.bl?, D.str?, D.tup?, D.lst?, D.ty?, En.g, En.p, En.wipe, En.back, Option.bind_some, Option.bind_none, List.length_cons, List.length_nil, List.map_cons, List.map_nil, List.replicate, List.cons_append, List.nil_append, List.set_cons_zero, List.set_cons_succ, List.getElem?_cons_zero, List.getElem?_cons_succ, List.getElem?_nil, Option.join_some, Option.join_none, Nat.reduceAdd, Nat.reduceSub, reduceIte, if_true, if_false, Bool.false_eq_true, D.flat, D.flats, flatIn_l, Bool.and_true, Bool.true_and, Bool.and_self, ix_t0, ix_t1, ix_t2, ix_l0, ix_l1, ix_l2, len_t, len_l, tup_l, add_i, max_2, min_2, sub_i, lt_i, le_i, gt_i, ge_i, neg_i, ne_i, eq_i, ne_s, eq_s, ne_b, eq_b, int_i, int_b, abs_i, check_row h, c1, Bool.not_true, max_t n1, min_t n1, s_while]
  rw [show mx row - mn row = wide row from rfl, f1]
  simp only [fn, fnM, fin, finM, R.res, R.resM, e_v, e_o, e_c, e_un, e_bin, e_chain, e_and, e_or, e_not, e_if, t_v, t_and, t_or, t_not, t_yes, a_nil, a_cons, a_star, e_tup, e_lst, e_tupS, e_lstS, e_call, e_callM, e_meth, e_bm, e_cut, p_no, p_e, tg_n, tg_t, tg_s, s_nil, s_then, s_seq, s_set, s_setO, s_par2, s_par3, pick, s_tgt, s_ex, s_ret, s_retN, s_if, s_setix, it_e, it_r1, it_r2, it_enum, it_zip, e_lstR, e_tupR, R.at, R.st, R.ats, R.sts, R.atx, R.atxs, R.new?, R.bl?, R.seq?, D.seq?, D.int?, D.bl?, D.str?, D.tup?, D.lst?, D.ty?, En.g, En.p, En.wipe, En.back, Option.bind_some, Option.bind_none, List.length_cons, List.length_nil, List.map_cons, List.map_nil, List.replicate, List.cons_append, List.nil_append, List.set_cons_zero, List.set_cons_succ, List.getElem?_cons_zero, List.getElem?_cons_succ, List.getElem?_nil, Option.join_some, Option.join_none, Nat.reduceAdd, Nat.reduceSub, reduceIte, if_true, if_false, Bool.false_eq_true, D.flat, D.flats, flatIn_l, Bool.and_true, Bool.true_and, Bool.and_self, ix_t0, ix_t1, ix_t2, ix_l0, ix_l1, ix_l2, len_t, len_l, tup_l, add_i, max_2, min_2, sub_i, lt_i, le_i, gt_i, ge_i, neg_i, ne_i, eq_i, ne_s, eq_s, ne_b, eq_b, int_i, int_b, abs_i]
/-! ### classes -/
theorem is_sizes {row : List Int} (h : Row row) : F_is_sizes_32 [rD row] = some (.val (.bl true)) := by
  have e : F_is_tuple_1 [rD row, .int 1, .int 40] = some (.val (.bl true)) := by
    have h1 := h.few
    have h2 := List.length_pos_iff.mpr h.pos
    rw [tuple_ok, decide_eq_true (by rw [List.length_map]; omega)]
  have e1 : e_lc (it_e (e_v 0)) (tg_n 1) t_yes (e_call F_is_integer_3 (a_cons (e_v 1) (a_cons (e_c (.int 0)) (a_cons (e_c (.int 1000)) a_nil)))) [1] [some (rD row), none] = some (.new (.lst ((row.map fun _ => true).map .bl)), [some (rD row), none]) := by
    refine lcX D.int row (fun p => .bl true) (e' := [some (rD row), none]) ?_ (List.map_map).symm rfl ?_
    · rfl
    exact fun p hp => ⟨[some (rD row), some (.int p)], .val (.bl true), [some (rD row), some (.int p)], rfl, by simp only [fn, fnM, fin, finM, R.res, R.resM, e_v, e_o, e_c, e_un, e_bin, e_chain, e_and, e_or, e_not, e_if, t_v, t_and, t_or, t_not, t_yes, a_nil, a_cons, a_star, e_tup, e_lst, e_tupS, e_lstS, e_call, e_callM, e_meth, e_bm, e_cut, p_no, p_e, tg_n, tg_t, tg_s, s_nil, s_then, s_seq, s_set, s_setO, s_par2, s_par3, pick, s_tgt, s_ex, s_ret, s_retN, s_if, s_setix, it_e, it_r1, it_r2, it_enum, it_zip, e_lstR, e_tupR, R.at, R.st, R.ats, R.sts, R.atx, R.atxs, R.new?, R.bl?, R.seq?, D.seq?, D.int?, D.bl?, D.str?, D.tup?, D.lst?, D.ty?, En.g, En.p, En.wipe, En.back, Option.bind_some, Option.bind_none, List.length_cons, List.length_nil, List.map_cons, List.map_nil, List.replicate, List.cons_append, List.nil_append, List.set_cons_zero, List.set_cons_succ, List.getElem?_cons_zero, List.getElem?_cons_succ, List.getElem?_nil, Option.join_some, Option.join_none, Nat.reduceAdd, Nat.reduceSub, reduceIte, if_true, if_false, Bool.false_eq_true, D.flat, D.flats, flatIn_l, Bool.and_true, Bool.true_and, Bool.and_self, ix_t0, ix_t1, ix_t2, ix_l0, ix_l1, ix_l2, len_t, len_l, tup_l, add_i, max_2, min_2, sub_i, lt_i, le_i, gt_i, ge_i, neg_i, ne_i, eq_i, ne_s, eq_s, ne_b, eq_b, int_i, int_b, abs_i, integer, decide_eq_true (h.fine p hp)], rfl, rfl⟩
  have al : (row.map fun _ => true).all id = true := all_true fun _ _ => rfl
  simp only [F_is_sizes_32, B_is_sizes_32, fn, fnM, fin, finM, R.res, R.resM, e_v, e_o, e_c, e_un, e_bin, e_chain, e_and, e_or, e_not, e_if, t_v, t_and, t_or, t_not, t_yes, a_nil, a_cons, a_star, e_tup, e_lst, e_tupS, e_lstS, e_call, e_callM, e_meth, e_bm, e_cut, p_no, p_e, tg_n, tg_t, tg_s, s_nil, s_then, s_seq, s_set, s_setO, s_par2, s_par3, pick, s_tgt, s_ex, s_ret, s_retN, s_if, s_setix, it_e, it_r1, it_r2, it_enum, it_zip, e_lstR, e_tupR, R.at, R.st, R.ats, R.sts, R.atx, R.atxs, R.new?, R.bl?, R.seq?, D.seq?, D.int?, D.bl?, D.str?, D.tup?, D.lst?, D.ty?, En.g, En.p, En.wipe, En.back, Option.bind_some, Option.bind_none, List.length_cons, List.length_nil, List.map_cons, List.map_nil, List.replicate, List.cons_append, List.nil_append, List.set_cons_zero, List.set_cons_succ, List.getElem?_cons_zero, List.getElem?_cons_succ, List.getElem?_nil, Option.join_some, Option.join_none, Nat.reduceAdd, Nat.reduceSub, reduceIte, if_true, if_false, Bool.false_eq_true, D.flat, D.flats, flatIn_l, Bool.and_true, Bool.true_and, Bool.and_self, ix_t0, ix_t1, ix_t2, ix_l0, ix_l1, ix_l2, len_t, len_l, tup_l, add_i, max_2, min_2, sub_i, lt_i, le_i, gt_i, ge_i, neg_i, ne_i, eq_i, ne_s, eq_s, ne_b, eq_b, int_i, int_b, abs_i, e, e1, all_l, al]
theorem check_sizes {row : List Int} (h : Row row) : F_check_sizes_33 [rD row] = some (.val .non) := by
  simp only [F_check_sizes_33, B_check_sizes_33, fn, fnM, fin, finM, R.res, R.resM, e_v, e_o, e_c, e_un, e_bin, e_chain, e_and, e_or, e_not, e_if, t_v, t_and, t_or, t_not, t_yes, a_nil, a_cons, a_star, e_tup, e_lst, e_tupS, e_lstS, e_call, e_callM, e_meth, e_bm, e_cut, p_no, p_e, tg_n, tg_t, tg_s, s_nil, s_then, s_seq, s_set, s_setO, s_par2, s_par3, pick, s_tgt, s_ex, s_ret, s_retN, s_if, s_setix, it_e, it_r1, it_r2, it_enum, it_zip, e_lstR, e_tupR, R.at, R.st, R.ats, R.sts, R.atx, R.atxs, R.new?, R.bl?, R.seq?, D.seq?, D.int?, D.bl?, D.str?, D.tup?, D.lst?, D.ty?, En.g, En.p, En.wipe, En.back, Option.bind_some, Option.bind_none, List.length_cons, List.length_nil, List.map_cons, List.map_nil, List.replicate, List.cons_append, List.nil_append, List.set_cons_zero, List.set_cons_succ, List.getElem?_cons_zero, List.getElem?_cons_succ, List.getElem?_nil, Option.join_some, Option.join_none, Nat.reduceAdd, Nat.reduceSub, reduceIte, if_true, if_false, Bool.false_eq_true, D.flat, D.flats, flatIn_l, Bool.and_true, Bool.true_and, Bool.and_self, ix_t0, ix_t1, ix_t2, ix_l0, ix_l1, ix_l2, len_t, len_l, tup_l, add_i, max_2, min_2, sub_i, lt_i, le_i, gt_i, ge_i, neg_i, ne_i, eq_i, ne_s, eq_s, ne_b, eq_b, int_i, int_b, abs_i, is_sizes h, Bool.not_true]
/-- the places, by what stands there -/
def ord (row : List Int) : List Int := sortIx row row.length
def at0 (row : List Int) (i : Int) : Int := row.getD i.toNat 0
theorem ord_perm (row : List Int) : (ord row).Perm ((List.range row.length).map fun (i : Nat) => (i : Int)) := List.mergeSort_perm _ _
theorem ord_len (row : List Int) : (ord row).length = row.length := by rw [(ord_perm row).length_eq, List.length_map, List.length_range]
theorem ord_mem {row : List Int} {i : Int} : i ∈ ord row ↔ 0 ≤ i ∧ i < row.length := by
  rw [(ord_perm row).mem_iff, List.mem_map]
  constructor
  · rintro ⟨k, hk, rfl⟩
    have := List.mem_range.mp hk
    omega
  · rintro ⟨h1, h2⟩
    exact ⟨i.toNat, List.mem_range.mpr (by omega), by omega⟩
theorem ord_sorted (row : List Int) : (ord row).Pairwise fun i j => at0 row i ≤ at0 row j := by
  have := List.pairwise_mergeSort (le := fun p q : Int => decide (row.getD p.toNat 0 < row.getD q.toNat 0 ∨ (row.getD p.toNat 0 = row.getD q.toNat 0 ∧ p ≤ q))) (fun a b c h1 h2 => by
      have h1 := of_decide_eq_true h1
      have h2 := of_decide_eq_true h2
      exact decide_eq_true (by omega)) (fun a b => by
      rw [Bool.or_eq_true, decide_eq_true_eq, decide_eq_true_eq]
      omega) ((List.range row.length).map fun (i : Nat) => (i : Int))
  exact this.imp fun h => by
    have h := of_decide_eq_true h
    unfold at0
    omega
theorem at0_mem {row : List Int} {i : Int} (h : i ∈ ord row) : at0 row i ∈ row ∧ o_ix (rD row) (.int i) = some (.val (.int (at0 row i))) := by
  obtain ⟨h1, h2⟩ := ord_mem.mp h
  have hk : i.toNat < row.length := by omega
  have e : at0 row i = row[i.toNat] := by unfold at0; rw [List.getD_eq_getElem?_getD, List.getElem?_eq_getElem hk]; rfl
  refine ⟨by rw [e]; exact List.getElem_mem hk, ?_⟩
  have := ix_t (l := row.map D.int) (k := i.toNat) (d := .int row[i.toNat]) (by rw [List.getElem?_map, List.getElem?_eq_getElem hk]; rfl)
  rw [Int.toNat_of_nonneg h1] at this
  rw [this, e]
theorem rising {row : List Int} (h : Row row) : F_rising_35 [rD row] = some (.new (.lst ((ord row).map .int))) := by
  have hz : row.length ≤ SZ := by rw [sz_val]; have := h.few; omega
  have c : 0 ≤ (row.length : Int) ∧ (row.length : Int) ≤ (row.length : Nat) ∧ row.length ≤ SZ := ⟨by omega, by omega, hz⟩
  simp only [F_rising_35, B_rising_35, fn, fnM, fin, finM, R.res, R.resM, e_v, e_o, e_c, e_un, e_bin, e_chain, e_and, e_or, e_not, e_if, t_v, t_and, t_or, t_not, t_yes, a_nil, a_cons, a_star, e_tup, e_lst, e_tupS, e_lstS, e_call, e_callM, e_meth, e_bm, e_cut, p_no, p_e, tg_n, tg_t, tg_s, s_nil, s_then, s_seq, s_set, s_setO, s_par2, s_par3, pick, s_tgt, s_ex, s_ret, s_retN, s_if, s_setix, it_e, it_r1, it_r2, it_enum, it_zip, e_lstR, e_tupR, R.at, R.st, R.ats, R.sts, R.atx, R.atxs, R.new?, R.bl?, R.seq?, D.seq?, D.int?, D.bl?, D.str?, D.tup?, D.lst?, D.ty?, En.g, En.p, En.wipe, En.back, Option.bind_some, Option.bind_none, List.length_cons, List.length_nil, List.map_cons, List.map_nil, List.replicate, List.cons_append, List.nil_append, List.set_cons_zero, List.set_cons_succ, List.getElem?_cons_zero, List.getElem?_cons_succ, List.getElem?_nil, Option.join_some, Option.join_none, Nat.reduceAdd, Nat.reduceSub, reduceIte, if_true, if_false, Bool.false_eq_true, D.flat, D.flats, flatIn_l, Bool.and_true, Bool.true_and, Bool.and_self, ix_t0, ix_t1, ix_t2, ix_l0, ix_l1, ix_l2, len_t, len_l, tup_l, add_i, max_2, min_2, sub_i, lt_i, le_i, gt_i, ge_i, neg_i, ne_i, eq_i, ne_s, eq_s, ne_b, eq_b, int_i, int_b, abs_i, e_sortRL, ints_map, List.length_map]
  rw [if_pos c, Int.toNat_natCast]
  simp only [fn, fnM, fin, finM, R.res, R.resM, e_v, e_o, e_c, e_un, e_bin, e_chain, e_and, e_or, e_not, e_if, t_v, t_and, t_or, t_not, t_yes, a_nil, a_cons, a_star, e_tup, e_lst, e_tupS, e_lstS, e_call, e_callM, e_meth, e_bm, e_cut, p_no, p_e, tg_n, tg_t, tg_s, s_nil, s_then, s_seq, s_set, s_setO, s_par2, s_par3, pick, s_tgt, s_ex, s_ret, s_retN, s_if, s_setix, it_e, it_r1, it_r2, it_enum, it_zip, e_lstR, e_tupR, R.at, R.st, R.ats, R.sts, R.atx, R.atxs, R.new?, R.bl?, R.seq?, D.seq?, D.int?, D.bl?, D.str?, D.tup?, D.lst?, D.ty?, En.g, En.p, En.wipe, En.back, Option.bind_some, Option.bind_none, List.length_cons, List.length_nil, List.map_cons, List.map_nil, List.replicate, List.cons_append, List.nil_append, List.set_cons_zero, List.set_cons_succ, List.getElem?_cons_zero, List.getElem?_cons_succ, List.getElem?_nil, Option.join_some, Option.join_none, Nat.reduceAdd, Nat.reduceSub, reduceIte, if_true, if_false, Bool.false_eq_true, D.flat, D.flats, flatIn_l, Bool.and_true, Bool.true_and, Bool.and_self, ix_t0, ix_t1, ix_t2, ix_l0, ix_l1, ix_l2, len_t, len_l, tup_l, add_i, max_2, min_2, sub_i, lt_i, le_i, gt_i, ge_i, neg_i, ne_i, eq_i, ne_s, eq_s, ne_b, eq_b, int_i, int_b, abs_i, flats_ints]
  rfl
end G56
namespace G56
open PySem Mini
theorem ord_ne {row : List Int} (h : Row row) : ord row ≠ [] := fun z => by
  have := congrArg List.length z
  rw [ord_len] at this
  exact h.pos (List.length_eq_zero_iff.mp this)
theorem val_ord {row : List Int} {x : Int} (hx : x ∈ row) : ∃ i ∈ ord row, at0 row i = x := by
  obtain ⟨k, hk⟩ := List.mem_iff_getElem?.mp hx
  have hl := (List.getElem?_eq_some_iff.mp hk).1
  refine ⟨(k : Int), ord_mem.mpr ⟨by omega, by omega⟩, ?_⟩
  unfold at0
  rw [Int.toNat_natCast, List.getD_eq_getElem?_getD, hk]
  rfl
theorem first_min {row : List Int} (h : Row row) {f : Int} {r : List Int} (e : ord row = f :: r) : at0 row f = mn row := by
  have hs := ord_sorted row
  rw [e] at hs
  have hall := (List.pairwise_cons.mp hs).1
  refine (mn_eq (at0_mem (by rw [e]; exact List.mem_cons_self)).1 fun y hy => ?_).symm
  obtain ⟨i, hi, ei⟩ := val_ord hy
  rw [← ei]
  rw [e] at hi
  rcases List.mem_cons.mp hi with z | z
  · rw [z]; exact Int.le_refl _
  · exact hall i z
theorem classes_of {row : List Int} {s : Int} (h : Row row) (h0 : 0 ≤ s) : ∃ f g : List D, F_classes_of_36 [rD row, .int s] = some (.val (.tup [.tup f, .tup g])) ∧ (D.flats f = true ∧ D.flats g = true) ∧ 1 ≤ f.length ∧ (f.length = 1 ↔ wide row ≤ s) := by
  have n2 := h.few
  have n1 := List.length_pos_iff.mpr h.pos
  have nl := ord_len row
  obtain ⟨e', f1, cl, fi, x5, x6, f2, g1, g2⟩ := while_inv (t := t_v (e_bin o_ne (e_v 2) (e_lst a_nil)))
    (b := s_seq (s_set 5 (e_bin o_ix (e_v 2) (e_c (.int 0)))) (s_seq (s_set 6 (e_lc (it_e (e_v 2)) (tg_n 7) (t_v (e_bin o_le (e_bin o_sub (e_bin o_ix (e_v 0) (e_v 7)) (e_bin o_ix (e_v 0) (e_v 5))) (e_v 1))) (e_v 7) [7])) (s_seq (s_ex (e_meth m_append 3 (a_cons (e_call o_tuple (a_cons (e_call o_sorted (a_cons (e_v 6) a_nil)) a_nil)) a_nil))) (s_seq (s_ex (e_meth m_append 4 (a_cons (e_v 5) a_nil))) (s_set 2 (e_cut (e_v 2) (p_e (e_call o_len (a_cons (e_v 6) a_nil))) p_no))))))
    (fun e => ∃ (k : Nat) (cl : List (List Int)) (fi : List Int) (x5 x6 : Option D), e = [some (rD row), some (.int s), some (.lst (((ord row).drop k).map .int)), some (.lst (cl.map fun c => D.tup (c.map .int))), some (.lst (fi.map .int)), x5, x6, none] ∧ k ≤ row.length ∧ cl.length ≤ k ∧ fi.length ≤ k ∧ (0 < k → 1 ≤ cl.length ∧ (wide row ≤ s → k = row.length ∧ cl.length = 1) ∧ (s < wide row → cl.length = 1 → k < row.length)))
    (fun e => ∃ (cl : List (List Int)) (fi : List Int) (x5 x6 : Option D), e = [some (rD row), some (.int s), some (.lst []), some (.lst (cl.map fun c => D.tup (c.map .int))), some (.lst (fi.map .int)), x5, x6, none] ∧ 1 ≤ cl.length ∧ (cl.length = 1 ↔ wide row ≤ s))
    (fun e => match e with | [_, _, some (.lst l), _, _, _, _, _] => l.length | _ => 0)
    (fun e he => by
      obtain ⟨k, cl, fi, x5, x6, rfl, k1, k2, k3, k4⟩ := he
      by_cases z : k < row.length
      · obtain ⟨f, r, hfr⟩ := List.exists_cons_of_ne_nil (l := (ord row).drop k) fun e => by
          have := congrArg List.length e
          rw [List.length_drop, List.length_nil] at this
          omega
        have hsub : ∀ i ∈ (ord row).drop k, i ∈ ord row := fun i hi => List.mem_of_mem_drop hi
        have hf : f ∈ ord row := hsub f (by rw [hfr]; exact List.mem_cons_self)
        obtain ⟨S, hS⟩ : ∃ S, S = ((ord row).drop k).filter fun i => decide (at0 row i - at0 row f ≤ s) := ⟨_, rfl⟩
        have S1 : 1 ≤ S.length := by
          rw [hS, hfr, List.filter_cons, if_pos (decide_eq_true (by omega)), List.length_cons]
          omega
        have S2 : S.length ≤ row.length - k := by
          rw [hS]
          refine Nat.le_trans (List.length_filter_le _ _) ?_
          rw [List.length_drop, nl]
          exact Nat.le_refl _
        refine ⟨true, [some (rD row), some (.int s), some (.lst (((ord row).drop k).map .int)), some (.lst (cl.map fun c => D.tup (c.map .int))), some (.lst (fi.map .int)), x5, x6, none], ?_, fun _ => ⟨[some (rD row), some (.int s), some (.lst (((ord row).drop (k + S.length)).map .int)), some (.lst ((cl ++ [sortI S]).map fun c => D.tup (c.map .int))), some (.lst ((fi ++ [f]).map .int)), some (.int f), some (.lst (S.map .int)), none], ?_, ⟨k + S.length, cl ++ [sortI S], fi ++ [f], _, _, rfl, by omega, by rw [List.length_append, List.length_singleton]; omega, by rw [List.length_append, List.length_singleton]; omega, fun _ => ?_⟩, ?_⟩, (fun z => by cases z)⟩
        · have e : ((ord row).drop k).isEmpty = false := by rw [hfr]; rfl
          simp only [fn, fnM, fin, finM, R.res, R.resM, e_v, e_o, e_c, e_un, e_bin, e_chain, e_and, e_or, e_not, e_if, t_v, t_and, t_or, t_not, t_yes, a_nil, a_cons, a_star, e_tup, e_lst, e_tupS, e_lstS, e_call, e_callM, e_meth, e_bm, e_cut, p_no, p_e, tg_n, tg_t, tg_s, s_nil, s_then, s_seq, s_set, s_setO, s_par2, s_par3, pick, s_tgt, s_ex, s_ret, s_retN, s_if, s_setix, it_e, it_r1, it_r2, it_enum, it_zip, e_lstR, e_tupR, R.at, R.st, R.ats, R.sts, R.atx, R.atxs, R.new?, R.bl?, R.seq?, D.seq?, D.int?, D.bl?, D.str?, D.tup?, D.lst?, D.ty?, En.g, En.p, En.wipe, En.back, Option.bind_some, Option.bind_none, List.length_cons, List.length_nil, List.map_cons, List.map_nil, List.replicate, List.cons_append, List.nil_append, List.set_cons_zero, List.set_cons_succ, List.getElem?_cons_zero, List.getElem?_cons_succ, List.getElem?_nil, Option.join_some, Option.join_none, Nat.reduceAdd, Nat.reduceSub, reduceIte, if_true, if_false, Bool.false_eq_true, D.flat, D.flats, flatIn_l, Bool.and_true, Bool.true_and, Bool.and_self, ix_t0, ix_t1, ix_t2, ix_l0, ix_l1, ix_l2, len_t, len_l, tup_l, add_i, max_2, min_2, sub_i, lt_i, le_i, gt_i, ge_i, neg_i, ne_i, eq_i, ne_s, eq_s, ne_b, eq_b, int_i, int_b, abs_i, ne_nil, e, Bool.not_false]
        · have lc : e_lc (it_e (e_v 2)) (tg_n 7) (t_v (e_bin o_le (e_bin o_sub (e_bin o_ix (e_v 0) (e_v 7)) (e_bin o_ix (e_v 0) (e_v 5))) (e_v 1))) (e_v 7) [7] [some (rD row), some (.int s), some (.lst (((ord row).drop k).map .int)), some (.lst (cl.map fun c => D.tup (c.map .int))), some (.lst (fi.map .int)), some (.int f), x6, none] =
              some (.new (.lst (S.map .int)), [some (rD row), some (.int s), some (.lst (((ord row).drop k).map .int)), some (.lst (cl.map fun c => D.tup (c.map .int))), some (.lst (fi.map .int)), some (.int f), x6, none]) := by
            rw [hS]
            refine lcY D.int ((ord row).drop k) (fun i => decide (at0 row i - at0 row f ≤ s)) D.int (e' := [some (rD row), some (.int s), some (.lst (((ord row).drop k).map .int)), some (.lst (cl.map fun c => D.tup (c.map .int))), some (.lst (fi.map .int)), some (.int f), x6, none]) ?_ rfl rfl ?_
            · rfl
            intro i hi
            refine ⟨[some (rD row), some (.int s), some (.lst (((ord row).drop k).map .int)), some (.lst (cl.map fun c => D.tup (c.map .int))), some (.lst (fi.map .int)), some (.int f), x6, some (.int i)], [some (rD row), some (.int s), some (.lst (((ord row).drop k).map .int)), some (.lst (cl.map fun c => D.tup (c.map .int))), some (.lst (fi.map .int)), some (.int f), x6, some (.int i)], rfl, ?_,
              fun _ => ⟨.val (.int i), [some (rD row), some (.int s), some (.lst (((ord row).drop k).map .int)), some (.lst (cl.map fun c => D.tup (c.map .int))), some (.lst (fi.map .int)), some (.int f), x6, some (.int i)], rfl, rfl, rfl⟩, fun _ => rfl⟩
            simp only [fn, fnM, fin, finM, R.res, R.resM, e_v, e_o, e_c, e_un, e_bin, e_chain, e_and, e_or, e_not, e_if, t_v, t_and, t_or, t_not, t_yes, a_nil, a_cons, a_star, e_tup, e_lst, e_tupS, e_lstS, e_call, e_callM, e_meth, e_bm, e_cut, p_no, p_e, tg_n, tg_t, tg_s, s_nil, s_then, s_seq, s_set, s_setO, s_par2, s_par3, pick, s_tgt, s_ex, s_ret, s_retN, s_if, s_setix, it_e, it_r1, it_r2, it_enum, it_zip, e_lstR, e_tupR, R.at, R.st, R.ats, R.sts, R.atx, R.atxs, R.new?, R.bl?, R.seq?, D.seq?, D.int?, D.bl?, D.str?, D.tup?, D.lst?, D.ty?, En.g, En.p, En.wipe, En.back, Option.bind_some, Option.bind_none, List.length_cons, List.length_nil, List.map_cons, List.map_nil, List.replicate, List.cons_append, List.nil_append, List.set_cons_zero, List.set_cons_succ, List.getElem?_cons_zero, List.getElem?_cons_succ, List.getElem?_nil, Option.join_some, Option.join_none, Nat.reduceAdd, Nat.reduceSub, reduceIte, if_true, if_false, Bool.false_eq_true, D.flat, D.flats, flatIn_l, Bool.and_true, Bool.true_and, Bool.and_self, ix_t0, ix_t1, ix_t2, ix_l0, ix_l1, ix_l2, len_t, len_l, tup_l, add_i, max_2, min_2, sub_i, lt_i, le_i, gt_i, ge_i, neg_i, ne_i, eq_i, ne_s, eq_s, ne_b, eq_b, int_i, int_b, abs_i, (at0_mem (hsub i hi)).2, (at0_mem hf).2]
          have i0 : o_ix (.lst (((ord row).drop k).map .int)) (.int 0) = some (.val (.int f)) := by rw [hfr]; exact ix_l0 _ _
          have z1 : (cl.map fun c => D.tup (c.map .int)).length < SZ := by rw [List.length_map, sz_val]; omega
          have z2 : (fi.map D.int).length < SZ := by rw [List.length_map, sz_val]; omega
          have hc : cutP (((ord row).drop k).map D.int) (some (S.length : Int)) none = ((ord row).drop (k + S.length)).map D.int := by
            rw [cut_from, ← List.map_drop, List.drop_drop]
          simp only [fn, fnM, fin, finM, R.res, R.resM, e_v, e_o, e_c, e_un, e_bin, e_chain, e_and, e_or, e_not, e_if, t_v, t_and, t_or, t_not, t_yes, a_nil, a_cons, a_star, e_tup, e_lst, e_tupS, e_lstS, e_call, e_callM, e_meth, e_bm, e_cut, p_no, p_e, tg_n, tg_t, tg_s, s_nil, s_then, s_seq, s_set, s_setO, s_par2, s_par3, pick, s_tgt, s_ex, s_ret, s_retN, s_if, s_setix, it_e, it_r1, it_r2, it_enum, it_zip, e_lstR, e_tupR, R.at, R.st, R.ats, R.sts, R.atx, R.atxs, R.new?, R.bl?, R.seq?, D.seq?, D.int?, D.bl?, D.str?, D.tup?, D.lst?, D.ty?, En.g, En.p, En.wipe, En.back, Option.bind_some, Option.bind_none, List.length_cons, List.length_nil, List.map_cons, List.map_nil, List.replicate, List.cons_append, List.nil_append, List.set_cons_zero, List.set_cons_succ, List.getElem?_cons_zero, List.getElem?_cons_succ, List.getElem?_nil, Option.join_some, Option.join_none, Nat.reduceAdd, Nat.reduceSub, reduceIte, if_true, if_false, Bool.false_eq_true, D.flat, D.flats, flatIn_l, Bool.and_true, Bool.true_and, Bool.and_self, ix_t0, ix_t1, ix_t2, ix_l0, ix_l1, ix_l2, len_t, len_l, tup_l, add_i, max_2, min_2, sub_i, lt_i, le_i, gt_i, ge_i, neg_i, ne_i, eq_i, ne_s, eq_s, ne_b, eq_b, int_i, int_b, abs_i, i0, lc, sorted_l, m_append]
          rw [if_pos z1]
          simp only [fn, fnM, fin, finM, R.res, R.resM, e_v, e_o, e_c, e_un, e_bin, e_chain, e_and, e_or, e_not, e_if, t_v, t_and, t_or, t_not, t_yes, a_nil, a_cons, a_star, e_tup, e_lst, e_tupS, e_lstS, e_call, e_callM, e_meth, e_bm, e_cut, p_no, p_e, tg_n, tg_t, tg_s, s_nil, s_then, s_seq, s_set, s_setO, s_par2, s_par3, pick, s_tgt, s_ex, s_ret, s_retN, s_if, s_setix, it_e, it_r1, it_r2, it_enum, it_zip, e_lstR, e_tupR, R.at, R.st, R.ats, R.sts, R.atx, R.atxs, R.new?, R.bl?, R.seq?, D.seq?, D.int?, D.bl?, D.str?, D.tup?, D.lst?, D.ty?, En.g, En.p, En.wipe, En.back, Option.bind_some, Option.bind_none, List.length_cons, List.length_nil, List.map_cons, List.map_nil, List.replicate, List.cons_append, List.nil_append, List.set_cons_zero, List.set_cons_succ, List.getElem?_cons_zero, List.getElem?_cons_succ, List.getElem?_nil, Option.join_some, Option.join_none, Nat.reduceAdd, Nat.reduceSub, reduceIte, if_true, if_false, Bool.false_eq_true, D.flat, D.flats, flatIn_l, Bool.and_true, Bool.true_and, Bool.and_self, ix_t0, ix_t1, ix_t2, ix_l0, ix_l1, ix_l2, len_t, len_l, tup_l, add_i, max_2, min_2, sub_i, lt_i, le_i, gt_i, ge_i, neg_i, ne_i, eq_i, ne_s, eq_s, ne_b, eq_b, int_i, int_b, abs_i]
          rw [if_pos z2]
          simp only [fn, fnM, fin, finM, R.res, R.resM, e_v, e_o, e_c, e_un, e_bin, e_chain, e_and, e_or, e_not, e_if, t_v, t_and, t_or, t_not, t_yes, a_nil, a_cons, a_star, e_tup, e_lst, e_tupS, e_lstS, e_call, e_callM, e_meth, e_bm, e_cut, p_no, p_e, tg_n, tg_t, tg_s, s_nil, s_then, s_seq, s_set, s_setO, s_par2, s_par3, pick, s_tgt, s_ex, s_ret, s_retN, s_if, s_setix, it_e, it_r1, it_r2, it_enum, it_zip, e_lstR, e_tupR, R.at, R.st, R.ats, R.sts, R.atx, R.atxs, R.new?, R.bl?, R.seq?, D.seq?, D.int?, D.bl?, D.str?, D.tup?, D.lst?, D.ty?, En.g, En.p, En.wipe, En.back, Option.bind_some, Option.bind_none, List.length_cons, List.length_nil, List.map_cons, List.map_nil, List.replicate, List.cons_append, List.nil_append, List.set_cons_zero, List.set_cons_succ, List.getElem?_cons_zero, List.getElem?_cons_succ, List.getElem?_nil, Option.join_some, Option.join_none, Nat.reduceAdd, Nat.reduceSub, reduceIte, if_true, if_false, Bool.false_eq_true, D.flat, D.flats, flatIn_l, Bool.and_true, Bool.true_and, Bool.and_self, ix_t0, ix_t1, ix_t2, ix_l0, ix_l1, ix_l2, len_t, len_l, tup_l, add_i, max_2, min_2, sub_i, lt_i, le_i, gt_i, ge_i, neg_i, ne_i, eq_i, ne_s, eq_s, ne_b, eq_b, int_i, int_b, abs_i, o_cut, List.length_map, hc, List.map_append]
        · have lq : (cl ++ [sortI S]).length = cl.length + 1 := by rw [List.length_append]; rfl
          rw [lq]
          refine ⟨by omega, fun hw => ?_, fun hw hl => ?_⟩
          · by_cases k0 : k = 0
            · subst k0
              have hall : S = (ord row).drop 0 := by
                rw [hS]
                refine List.filter_eq_self.mpr fun i hi => decide_eq_true ?_
                exact (wide_le h.pos).mp hw _ (at0_mem (hsub i hi)).1 _ (at0_mem hf).1
              have : S.length = row.length := by rw [hall, List.drop_zero, nl]
              omega
            · have := (k4 (by omega)).2.1 hw
              omega
          · by_cases k0 : k = 0
            · subst k0
              rw [List.drop_zero] at hfr hS
              have fm := first_min h hfr
              obtain ⟨i, hi, ei⟩ := val_ord (mx_mem h.pos)
              have hlt : S.length < (ord row).length := by
                rw [hS]
                refine List.length_filter_lt_length_iff_exists.mpr ⟨i, hi, ?_⟩
                rw [decide_eq_true_eq, ei, fm]
                show ¬ wide row ≤ s
                omega
              omega
            · have := (k4 (by omega)).1
              omega
        · show (((ord row).drop (k + S.length)).map D.int).length < (((ord row).drop k).map D.int).length
          rw [List.length_map, List.length_map, List.length_drop, List.length_drop, nl]
          omega
      · have kn : k = row.length := by omega
        have e : (ord row).drop k = [] := List.drop_eq_nil_iff.mpr (by omega)
        refine ⟨false, [some (rD row), some (.int s), some (.lst []), some (.lst (cl.map fun c => D.tup (c.map .int))), some (.lst (fi.map .int)), x5, x6, none], ?_, (fun z => by cases z), fun _ => ⟨cl, fi, x5, x6, rfl, (k4 (by omega)).1, fun q => ?_, fun q => ((k4 (by omega)).2.1 q).2⟩⟩
        · rw [e]
          have := ne_nil []
          simp only [List.map_nil, List.isEmpty_nil, Bool.not_true] at this
          simp only [fn, fnM, fin, finM, R.res, R.resM, e_v, e_o, e_c, e_un, e_bin, e_chain, e_and, e_or, e_not, e_if, t_v, t_and, t_or, t_not, t_yes, a_nil, a_cons, a_star, e_tup, e_lst, e_tupS, e_lstS, e_call, e_callM, e_meth, e_bm, e_cut, p_no, p_e, tg_n, tg_t, tg_s, s_nil, s_then, s_seq, s_set, s_setO, s_par2, s_par3, pick, s_tgt, s_ex, s_ret, s_retN, s_if, s_setix, it_e, it_r1, it_r2, it_enum, it_zip, e_lstR, e_tupR, R.at, R.st, R.ats, R.sts, R.atx, R.atxs, R.new?, R.bl?, R.seq?, D.seq?, D.int?, D.bl?, D.str?, D.tup?, D.lst?, D.ty?, En.g, En.p, En.wipe, En.back, Option.bind_some, Option.bind_none, List.length_cons, List.length_nil, List.map_cons, List.map_nil, List.replicate, List.cons_append, List.nil_append, List.set_cons_zero, List.set_cons_succ, List.getElem?_cons_zero, List.getElem?_cons_succ, List.getElem?_nil, Option.join_some, Option.join_none, Nat.reduceAdd, Nat.reduceSub, reduceIte, if_true, if_false, Bool.false_eq_true, D.flat, D.flats, flatIn_l, Bool.and_true, Bool.true_and, Bool.and_self, ix_t0, ix_t1, ix_t2, ix_l0, ix_l1, ix_l2, len_t, len_l, tup_l, add_i, max_2, min_2, sub_i, lt_i, le_i, gt_i, ge_i, neg_i, ne_i, eq_i, ne_s, eq_s, ne_b, eq_b, int_i, int_b, abs_i, this]
        · by_cases w : wide row ≤ s
          · exact w
          · have := (k4 (by omega)).2.2 (by omega) q
            omega)
    fuel [some (rD row), some (.int s), some (.lst ((ord row).map .int)), some (.lst []), some (.lst []), none, none, none] ⟨0, [], [], none, none, rfl, by omega, Nat.le_refl _, Nat.le_refl _, fun z => absurd z (by decide)⟩ (by
      show ((ord row).map D.int).length < fuel
      rw [List.length_map, nl]
      unfold fuel
      omega)
  subst f2
  have fl : D.flats (cl.map fun c => D.tup (c.map .int)) = true := flats_map (fun c => by rw [D.flat]; exact flats_ints c) _
  refine ⟨cl.map fun c => D.tup (c.map .int), fi.map .int, ?_, ⟨fl, flats_ints _⟩, by rw [List.length_map]; exact g1, by rw [List.length_map]; exact g2⟩
  simp only [F_classes_of_36, B_classes_of_36, fn, fnM, fin, finM, R.res, R.resM, e_v, e_o, e_c, e_un, e_bin, e_chain, e_and, e_or, e_not, e_if, t_v, t_and, t_or, t_not, t_yes, a_nil, a_cons, a_star, e_tup, e_lst, e_tupS, e_lstS, e_call, e_callM, e_meth, e_bm, e_cut, p_no, p_e, tg_n, tg_t, tg_s, s_nil, s_then, s_seq, s_set, s_setO, s_par2, s_par3, pick, s_tgt, s_ex, s_ret, s_retN, s_if, s_setix, it_e, it_r1, it_r2, it_enum, it_zip, e_lstR, e_tupR, R.at, R.st, R.ats, R.sts, R.atx, R.atxs, R.new?, R.bl?, R.seq?, D.seq?, D.int?, D.bl?, D.str?, D.tup?, D.lst?, D.ty?, En.g, En.p, En.wipe, En.back, Option.bind_some, Option.bind_none, List.length_cons, List.length_nil, List.map_cons, List.map_nil, List.replicate, List.cons_append, List.nil_append, List.set_cons_zero, List.set_cons_succ, List.getElem?_cons_zero, List.getElem?_cons_succ, List.getElem?_nil, Option.join_some, Option.join_none, Nat.reduceAdd, Nat.reduceSub, reduceIte, if_true, if_false, Bool.false_eq_true, D.flat, D.flats, flatIn_l, Bool.and_true, Bool.true_and, Bool.and_self, ix_t0, ix_t1, ix_t2, ix_l0, ix_l1, ix_l2, len_t, len_l, tup_l, add_i, max_2, min_2, sub_i, lt_i, le_i, gt_i, ge_i, neg_i, ne_i, eq_i, ne_s, eq_s, ne_b, eq_b, int_i, int_b, abs_i, rising h, s_while]
  rw [f1]
  simp only [fn, fnM, fin, finM, R.res, R.resM, e_v, e_o, e_c, e_un, e_bin, e_chain, e_and, e_or, e_not, e_if, t_v, t_and, t_or, t_not, t_yes, a_nil, a_cons, a_star, e_tup, e_lst, e_tupS, e_lstS, e_call, e_callM, e_meth, e_bm, e_cut, p_no, p_e, tg_n, tg_t, tg_s, s_nil, s_then, s_seq, s_set, s_setO, s_par2, s_par3, pick, s_tgt, s_ex, s_ret, s_retN, s_if, s_setix, it_e, it_r1, it_r2, it_enum, it_zip, e_lstR, e_tupR, R.at, R.st, R.ats, R.sts, R.atx, R.atxs, R.new?, R.bl?, R.seq?, D.seq?, D.int?, D.bl?, D.str?, D.tup?, D.lst?, D.ty?, En.g, En.p, En.wipe, En.back, Option.bind_some, Option.bind_none, List.length_cons, List.length_nil, List.map_cons, List.map_nil, List.replicate, List.cons_append, List.nil_append, List.set_cons_zero, List.set_cons_succ, List.getElem?_cons_zero, List.getElem?_cons_succ, List.getElem?_nil, Option.join_some, Option.join_none, Nat.reduceAdd, Nat.reduceSub, reduceIte, if_true, if_false, Bool.false_eq_true, D.flat, D.flats, flatIn_l, Bool.and_true, Bool.true_and, Bool.and_self, ix_t0, ix_t1, ix_t2, ix_l0, ix_l1, ix_l2, len_t, len_l, tup_l, add_i, max_2, min_2, sub_i, lt_i, le_i, gt_i, ge_i, neg_i, ne_i, eq_i, ne_s, eq_s, ne_b, eq_b, int_i, int_b, abs_i, fl, flats_ints]
end G56
namespace G56
open PySem Mini
theorem least_spread {row : List Int} (h : Row row) : ∃ f : D, F_least_spread_39 [rD row, .int 1] = some (.val (.tup [.int (wide row), f])) := by
  have hw := h.wide
  have n1 : row ≠ [] := h.pos
  have np := List.length_pos_iff.mpr n1
  obtain ⟨e', f1, x4, x5, f2⟩ := while_inv (t := t_v (e_bin o_lt (e_v 2) (e_v 3)))
    (b := s_seq (s_set 4 (e_bin o_fdiv (e_bin o_add (e_v 2) (e_v 3)) (e_c (.int 2)))) (s_seq (s_set 5 (e_bin o_le (e_call o_len (a_cons (e_bin o_ix (e_call F_classes_of_36 (a_cons (e_v 0) (a_cons (e_v 4) a_nil))) (e_c (.int 0))) a_nil)) (e_v 1))) (s_tgt (tg_t [tg_n 2, tg_n 3]) (e_if (t_v (e_v 5)) (e_tup (a_cons (e_v 2) (a_cons (e_v 4) a_nil))) (e_tup (a_cons (e_bin o_add (e_v 4) (e_c (.int 1))) (a_cons (e_v 3) a_nil)))))))
    (fun e => ∃ (lo : Int) (x4 x5 : Option D), e = [some (rD row), some (.int 1), some (.int lo), some (.int (wide row)), x4, x5] ∧ 0 ≤ lo ∧ lo ≤ wide row)
    (fun e => ∃ (x4 x5 : Option D), e = [some (rD row), some (.int 1), some (.int (wide row)), some (.int (wide row)), x4, x5])
    (fun e => match e with | [_, _, some (.int lo), _, _, _] => (wide row - lo).toNat | _ => 0)
    (fun e he => by
      obtain ⟨lo, x4, x5, rfl, l0, l1⟩ := he
      by_cases z : lo < wide row
      · refine ⟨true, [some (rD row), some (.int 1), some (.int lo), some (.int (wide row)), x4, x5], by simp only [fn, fnM, fin, finM, R.res, R.resM, e_v, e_o, e_c, e_un, e_bin, e_chain, e_and, e_or, e_not, e_if, t_v, t_and, t_or, t_not, t_yes, a_nil, a_cons, a_star, e_tup, e_lst, e_tupS, e_lstS, e_call, e_callM, e_meth, e_bm, e_cut, p_no, p_e, tg_n, tg_t, tg_s, s_nil, s_then, s_seq, s_set, s_setO, s_par2, s_par3, pick, s_tgt, s_ex, s_ret, s_retN, s_if, s_setix, it_e, it_r1, it_r2, it_enum, it_zip, e_lstR, e_tupR, R.at, R.st, R.ats, R.sts, R.atx, R.atxs, R.new?, R.bl?, R.seq?, D.seq?, D.int?, D.bl?, D.str?, D.tup?, D.lst?, D.ty?, En.g, En.p, En.wipe, En.back, Option.bind_some, Option.bind_none, List.length_cons, List.length_nil, List.map_cons, List.map_nil, List.replicate, List.cons_append, List.nil_append, List.set_cons_zero, List.set_cons_succ, List.getElem?_cons_zero, List.getElem?_cons_succ, List.getElem?_nil, Option.join_some, Option.join_none, Nat.reduceAdd, Nat.reduceSub, reduceIte, if_true, if_false, Bool.false_eq_true, D.flat, D.flats, flatIn_l, Bool.and_true, Bool.true_and, Bool.and_self, ix_t0, ix_t1, ix_t2, ix_l0, ix_l1, ix_l2, len_t, len_l, tup_l, add_i, max_2, min_2, sub_i, lt_i, le_i, gt_i, ge_i, neg_i, ne_i, eq_i, ne_s, eq_s, ne_b, eq_b, int_i, int_b, abs_i, decide_eq_true z], fun _ => ?_, (fun z => by cases z)⟩
        have m2 : (lo + wide row) / 2 < wide row := by omega
        obtain ⟨f, s, ef, ⟨fl, _⟩, g1, g2⟩ := classes_of (s := (lo + wide row) / 2) h (by omega)
        have no : decide ((f.length : Int) ≤ 1) = false := decide_eq_false fun zz => by
          have := g2.mp (by omega)
          omega
        refine ⟨[some (rD row), some (.int 1), some (.int ((lo + wide row) / 2 + 1)), some (.int (wide row)), some (.int ((lo + wide row) / 2)), some (.bl false)], ?_, ⟨_, _, _, rfl, by omega, by omega⟩, ?_⟩
        · simp only [fn, fnM, fin, finM, R.res, R.resM, e_v, e_o, e_c, e_un, e_bin, e_chain, e_and, e_or, e_not, e_if, t_v, t_and, t_or, t_not, t_yes, a_nil, a_cons, a_star, e_tup, e_lst, e_tupS, e_lstS, e_call, e_callM, e_meth, e_bm, e_cut, p_no, p_e, tg_n, tg_t, tg_s, s_nil, s_then, s_seq, s_set, s_setO, s_par2, s_par3, pick, s_tgt, s_ex, s_ret, s_retN, s_if, s_setix, it_e, it_r1, it_r2, it_enum, it_zip, e_lstR, e_tupR, R.at, R.st, R.ats, R.sts, R.atx, R.atxs, R.new?, R.bl?, R.seq?, D.seq?, D.int?, D.bl?, D.str?, D.tup?, D.lst?, D.ty?, En.g, En.p, En.wipe, En.back, Option.bind_some, Option.bind_none, List.length_cons, List.length_nil, List.map_cons, List.map_nil, List.replicate, List.cons_append, List.nil_append, List.set_cons_zero, List.set_cons_succ, List.getElem?_cons_zero, List.getElem?_cons_succ, List.getElem?_nil, Option.join_some, Option.join_none, Nat.reduceAdd, Nat.reduceSub, reduceIte, if_true, if_false, Bool.false_eq_true, D.flat, D.flats, flatIn_l, Bool.and_true, Bool.true_and, Bool.and_self, ix_t0, ix_t1, ix_t2, ix_l0, ix_l1, ix_l2, len_t, len_l, tup_l, add_i, max_2, min_2, sub_i, lt_i, le_i, gt_i, ge_i, neg_i, ne_i, eq_i, ne_s, eq_s, ne_b, eq_b, int_i, int_b, abs_i, fdiv_i (lo + wide row) (show (0 : Int) < 2 by decide) (by decide), ef, no]
        · show (wide row - ((lo + wide row) / 2 + 1)).toNat < (wide row - lo).toNat
          omega
      · have e : lo = wide row := by omega
        exact ⟨false, [some (rD row), some (.int 1), some (.int lo), some (.int (wide row)), x4, x5], by simp only [fn, fnM, fin, finM, R.res, R.resM, e_v, e_o, e_c, e_un, e_bin, e_chain, e_and, e_or, e_not, e_if, t_v, t_and, t_or, t_not, t_yes, a_nil, a_cons, a_star, e_tup, e_lst, e_tupS, e_lstS, e_call, e_callM, e_meth, e_bm, e_cut, p_no, p_e, tg_n, tg_t, tg_s, s_nil, s_then, s_seq, s_set, s_setO, s_par2, s_par3, pick, s_tgt, s_ex, s_ret, s_retN, s_if, s_setix, it_e, it_r1, it_r2, it_enum, it_zip, e_lstR, e_tupR, R.at, R.st, R.ats, R.sts, R.atx, R.atxs, R.new?, R.bl?, R.seq?, D.seq?, D.int?, D.bl?, D.str?, D.tup?, D.lst?, D.ty?, En.g, En.p, En.wipe, En.back, Option.bind_some, Option.bind_none, List.length_cons, List.length_nil, List.map_cons, List.map_nil, List.replicate, List.cons_append, List.nil_append, List.set_cons_zero, List.set_cons_succ, List.getElem?_cons_zero, List.getElem?_cons_succ, List.getElem?_nil, Option.join_some, Option.join_none, Nat.reduceAdd, Nat.reduceSub, reduceIte, if_true, if_false, Bool.false_eq_true, D.flat, D.flats, flatIn_l, Bool.and_true, Bool.true_and, Bool.and_self, ix_t0, ix_t1, ix_t2, ix_l0, ix_l1, ix_l2, len_t, len_l, tup_l, add_i, max_2, min_2, sub_i, lt_i, le_i, gt_i, ge_i, neg_i, ne_i, eq_i, ne_s, eq_s, ne_b, eq_b, int_i, int_b, abs_i, decide_eq_false z], (fun z => by cases z), (fun _ => ⟨x4, x5, by rw [e]⟩)⟩)
    fuel [some (rD row), some (.int 1), some (.int 0), some (.int (wide row)), none, none] ⟨0, none, none, rfl, by omega, by omega⟩ (by
      show (wide row - 0).toNat < fuel
      unfold fuel
      omega)
  subst f2
  obtain ⟨f, s, ef, ⟨fl, _⟩, g1, g2⟩ := classes_of (s := wide row) h hw.1
  have c1 : F_check_number_38 [rD row, .int 1] = some (.val .non) := by
    have : decide ((1 : Int) ≤ 1 ∧ (1 : Int) ≤ ((row.map D.int).length : Int)) = true := decide_eq_true ⟨by decide, by rw [List.length_map]; omega⟩
    simp only [F_check_number_38, B_check_number_38, fn, fnM, fin, finM, R.res, R.resM, e_v, e_o, e_c, e_un, e_bin, e_chain, e_and, e_or, e_not, e_if, t_v, t_and, t_or, t_not, t_yes, a_nil, a_cons, a_star, e_tup, e_lst, e_tupS, e_lstS, e_call, e_callM, e_meth, e_bm, e_cut, p_no, p_e, tg_n, tg_t, tg_s, s_nil, s_then, s_seq, s_set, s_setO, s_par2, s_par3, pick, s_tgt, s_ex, s_ret, s_retN, s_if, s_setix, it_e, it_r1, it_r2, it_enum, it_zip, e_lstR, e_tupR, R.at, R.st, R.ats, R.sts, R.atx, R.atxs, R.new?, R.bl?, R.seq?, D.seq?, D.int?, D.bl?, D.str?, D.tup?, D.lst?, D.ty?, En.g, En.p, En.wipe, En.back, Option.bind_some, Option.bind_none, List.length_cons, List.length_nil, List.map_cons, List.map_nil, List.replicate, List.cons_append, List.nil_append, List.set_cons_zero, List.set_cons_succ, List.getElem?_cons_zero, List.getElem?_cons_succ, List.getElem?_nil, Option.join_some, Option.join_none, Nat.reduceAdd, Nat.reduceSub, reduceIte, if_true, if_false, Bool.false_eq_true, D.flat, D.flats, flatIn_l, Bool.and_true, Bool.true_and, Bool.and_self, ix_t0, ix_t1, ix_t2, ix_l0, ix_l1, ix_l2, len_t, len_l, tup_l, add_i, max_2, min_2, sub_i, lt_i, le_i, gt_i, ge_i, neg_i, ne_i, eq_i, ne_s, eq_s, ne_b, eq_b, int_i, int_b, abs_i, integer, this, Bool.not_true]
  refine ⟨.tup f, ?_⟩
  simp only [F_least_spread_39, B_least_spread_39, fn, fnM, fin, finM, R.res, R.resM, e_v, e_o, e_c, e_un, e_bin, e_chain, e_and, e_or, e_not, e_if, t_v, t_and, t_or, t_not, t_yes, a_nil, a_cons, a_star, e_tup, e_lst, e_tupS, e_lstS, e_call, e_callM, e_meth, e_bm, e_cut, p_no, p_e, tg_n, tg_t, tg_s, s_nil, s_then, s_seq, s_set, s_setO, s_par2, s_par3, pick, s_tgt, s_ex, s_ret, s_retN, s_if, s_setix, it_e, it_r1, it_r2, it_enum, it_zip, e_lstR, e_tupR, R.at, R.st, R.ats, R.sts, R.atx, R.atxs, R.new?, R.bl?, R.seq?, D.seq?, D.int?, D.bl?, D.str?, D.tup?, D.lst?, D.ty?, En.g, En.p, En.wipe, En.back, Option.bind_some, Option.bind_none, List.length_cons, List.length_nil, List.map_cons, List.map_nil, List.replicate, List.cons_append, List.nil_append, List.set_cons_zero, List.set_cons_succ, List.getElem?_cons_zero, List.getElem?_cons_succ, List.getElem?_nil, Option.join_some, Option.join_none, Nat.reduceAdd, Nat.reduceSub, reduceIte, if_true, if_false, Bool.false_eq_true, D.flat, D.flats, flatIn_l, Bool.and_true, Bool.true_and, Bool.and_self, ix_t0, ix_t1, ix_t2, ix_l0, ix_l1, ix_l2, len_t, len_l, tup_l, add_i, max_2, min_2, sub_i, lt_i, le_i, gt_i, ge_i, neg_i, ne_i, eq_i, ne_s, eq_s, ne_b, eq_b, int_i, int_b, abs_i, check_sizes h, c1, max_t n1, min_t n1, s_while]
  rw [show mx row - mn row = wide row from rfl, f1]
  simp only [fn, fnM, fin, finM, R.res, R.resM, e_v, e_o, e_c, e_un, e_bin, e_chain, e_and, e_or, e_not, e_if, t_v, t_and, t_or, t_not, t_yes, a_nil, a_cons, a_star, e_tup, e_lst, e_tupS, e_lstS, e_call, e_callM, e_meth, e_bm, e_cut, p_no, p_e, tg_n, tg_t, tg_s, s_nil, s_then, s_seq, s_set, s_setO, s_par2, s_par3, pick, s_tgt, s_ex, s_ret, s_retN, s_if, s_setix, it_e, it_r1, it_r2, it_enum, it_zip, e_lstR, e_tupR, R.at, R.st, R.ats, R.sts, R.atx, R.atxs, R.new?, R.bl?, R.seq?, D.seq?, D.int?, D.bl?, D.str?, D.tup?, D.lst?, D.ty?, En.g, En.p, En.wipe, En.back, Option.bind_some, Option.bind_none, List.length_cons, List.length_nil, List.map_cons, List.map_nil, List.replicate, List.cons_append, List.nil_append, List.set_cons_zero, List.set_cons_succ, List.getElem?_cons_zero, List.getElem?_cons_succ, List.getElem?_nil, Option.join_some, Option.join_none, Nat.reduceAdd, Nat.reduceSub, reduceIte, if_true, if_false, Bool.false_eq_true, D.flat, D.flats, flatIn_l, Bool.and_true, Bool.true_and, Bool.and_self, ix_t0, ix_t1, ix_t2, ix_l0, ix_l1, ix_l2, len_t, len_l, tup_l, add_i, max_2, min_2, sub_i, lt_i, le_i, gt_i, ge_i, neg_i, ne_i, eq_i, ne_s, eq_s, ne_b, eq_b, int_i, int_b, abs_i, ef, fl]
theorem fewest_classes {row : List Int} {s : Int} (h : Row row) (h0 : 0 ≤ s) (h1 : s ≤ 1000) : ∃ f g : List D, F_fewest_classes_37 [rD row, .int s] = some (.val (.tup [.tup f, .tup g])) ∧ 1 ≤ f.length ∧ (f.length = 1 ↔ wide row ≤ s) := by
  obtain ⟨f, g, ef, ⟨fl1, fl2⟩, g1, g2⟩ := classes_of h h0
  refine ⟨f, g, ?_, g1, g2⟩
  have c1 : F_check_spread_34 [.int s] = some (.val .non) := by simp only [F_check_spread_34, B_check_spread_34, fn, fnM, fin, finM, R.res, R.resM, e_v, e_o, e_c, e_un, e_bin, e_chain, e_and, e_or, e_not, e_if, t_v, t_and, t_or, t_not, t_yes, a_nil, a_cons, a_star, e_tup, e_lst, e_tupS, e_lstS, e_call, e_callM, e_meth, e_bm, e_cut, p_no, p_e, tg_n, tg_t, tg_s, s_nil, s_then, s_seq, s_set, s_setO, s_par2, s_par3, pick, s_tgt, s_ex, s_ret, s_retN, s_if, s_setix, it_e, it_r1, it_r2, it_enum, it_zip, e_lstR, e_tupR, R.at, R.st, R.ats, R.sts, R.atx, R.atxs, R.new?, R.bl?, R.seq?, D.seq?, D.int?, D.bl?, D.str?, D.tup?, D.lst?, D.ty?, En.g, En.p, En.wipe, En.back, Option.bind_some, Option.bind_none, List.length_cons, List.length_nil, List.map_cons, List.map_nil, List.replicate, List.cons_append, List.nil_append, List.set_cons_zero, List.set_cons_succ, List.getElem?_cons_zero, List.getElem?_cons_succ, List.getElem?_nil, Option.join_some, Option.join_none, Nat.reduceAdd, Nat.reduceSub, reduceIte, if_true, if_false, Bool.false_eq_true, D.flat, D.flats, flatIn_l, Bool.and_true, Bool.true_and, Bool.and_self, ix_t0, ix_t1, ix_t2, ix_l0, ix_l1, ix_l2, len_t, len_l, tup_l, add_i, max_2, min_2, sub_i, lt_i, le_i, gt_i, ge_i, neg_i, ne_i, eq_i, ne_s, eq_s, ne_b, eq_b, int_i, int_b, abs_i, integer, decide_eq_true (show 0 ≤ s ∧ s ≤ 1000 from ⟨h0, h1⟩), Bool.not_true]
  simp only [F_fewest_classes_37, B_fewest_classes_37, fn, fnM, fin, finM, R.res, R.resM, e_v, e_o, e_c, e_un, e_bin, e_chain, e_and, e_or, e_not, e_if, t_v, t_and, t_or, t_not, t_yes, a_nil, a_cons, a_star, e_tup, e_lst, e_tupS, e_lstS, e_call, e_callM, e_meth, e_bm, e_cut, p_no, p_e, tg_n, tg_t, tg_s, s_nil, s_then, s_seq, s_set, s_setO, s_par2, s_par3, pick, s_tgt, s_ex, s_ret, s_retN, s_if, s_setix, it_e, it_r1, it_r2, it_enum, it_zip, e_lstR, e_tupR, R.at, R.st, R.ats, R.sts, R.atx, R.atxs, R.new?, R.bl?, R.seq?, D.seq?, D.int?, D.bl?, D.str?, D.tup?, D.lst?, D.ty?, En.g, En.p, En.wipe, En.back, Option.bind_some, Option.bind_none, List.length_cons, List.length_nil, List.map_cons, List.map_nil, List.replicate, List.cons_append, List.nil_append, List.set_cons_zero, List.set_cons_succ, List.getElem?_cons_zero, List.getElem?_cons_succ, List.getElem?_nil, Option.join_some, Option.join_none, Nat.reduceAdd, Nat.reduceSub, reduceIte, if_true, if_false, Bool.false_eq_true, D.flat, D.flats, flatIn_l, Bool.and_true, Bool.true_and, Bool.and_self, ix_t0, ix_t1, ix_t2, ix_l0, ix_l1, ix_l2, len_t, len_l, tup_l, add_i, max_2, min_2, sub_i, lt_i, le_i, gt_i, ge_i, neg_i, ne_i, eq_i, ne_s, eq_s, ne_b, eq_b, int_i, int_b, abs_i, check_sizes h, c1, ef, fl1, fl2]
end G56
namespace G56
open PySem Mini
def ex (row : List Int) : List (Int × Int) := row.map fun x => (x, x)
theorem ex_ok {row : List Int} (h : Row row) : Ok (ex row) := ⟨fun z => h.pos (List.map_eq_nil_iff.mp z), by unfold ex; rw [List.length_map]; exact h.few, fun p hp => by
  obtain ⟨x, hx, rfl⟩ := List.mem_map.mp hp
  have := h.fine x hx
  show 0 ≤ x ∧ x ≤ x ∧ x ≤ 1000
  omega⟩
theorem ex_low {row : List Int} (h : Row row) : lst (ex row) = wide row := by
  have e1 : (ex row).map (·.1) = row := by unfold ex; rw [List.map_map]; exact List.map_id _
  have e2 : (ex row).map (·.2) = row := by unfold ex; rw [List.map_map]; exact List.map_id _
  have := h.wide
  unfold lst low
  rw [e1, e2]
  show max 0 (wide row) = wide row
  omega
theorem ex_most {row : List Int} (h : Row row) : mst (ex row) = wide row := by
  have hw := h.wide
  have get : ∀ {i : Nat} {p : Int × Int}, (ex row)[i]? = some p → p.1 = p.2 ∧ p.1 ∈ row := fun {i p} hp => by
    have hm := List.mem_of_getElem? hp
    obtain ⟨x, hx, rfl⟩ := List.mem_map.mp hm
    exact ⟨rfl, hx⟩
  refine Int.le_antisymm (mst_le.mpr ⟨hw.1, fun i j p q _ hp hq => ?_⟩) ?_
  · obtain ⟨a, b⟩ := get hp
    obtain ⟨c, d⟩ := get hq
    rw [← a]
    exact (wide_le h.pos).mp (Int.le_refl _) _ b _ d
  · by_cases z : wide row = 0
    · rw [z]
      exact mx_le (mem_dl.mpr (.inl rfl))
    · obtain ⟨i, hi⟩ := List.mem_iff_getElem?.mp (mx_mem h.pos)
      obtain ⟨j, hj⟩ := List.mem_iff_getElem?.mp (mn_mem h.pos)
      have hij : i ≠ j := fun e => by
        subst e
        rw [hi] at hj
        have := Option.some.inj hj
        unfold wide at z
        omega
      refine mx_le (mem_dl.mpr (.inr ⟨i, j, (mx row, mx row), (mn row, mn row), hij, ?_, ?_, rfl⟩))
      · unfold ex; rw [List.getElem?_map, hi]; rfl
      · unfold ex; rw [List.getElem?_map, hj]; rfl
theorem ex_word {row : List Int} {w : Int} (h : Row row) : word (ex row) w = if wide row ≤ w then sSure else sNever := by
  unfold word
  rw [ex_most h, ex_low h]
  by_cases z : wide row ≤ w
  · rw [if_pos z, if_pos z]
  · rw [if_neg z, if_neg z, if_pos (by omega)]
theorem ne_pp' (a b c d : Int) : o_ne (.tup [.int a, .int b]) (.tup [.int c, .int d]) = some (.val (.bl (!(a == c && (b == d && true))))) := rfl
theorem exact_right {row : List Int} {w : Int} (hr : row ≠ []) (hl : row.length ≤ 20) (hf : ∀ x ∈ row, 0 ≤ x ∧ x ≤ 1000) (h0 : 0 ≤ w) (h1 : w ≤ 1000) : F__law_are_exact_right_86 [.tup (row.map .int), .int w] = some (.val (.bl true)) := by
  have h : Row row := ⟨hr, hl, hf⟩
  have lc : e_lc (it_e (e_v 0)) (tg_n 5) t_yes (e_tup (a_cons (e_v 5) (a_cons (e_v 5) a_nil))) [5] [some (rD row), some (.int w), none, none, none, none] = some (.new (.lst ((ex row).map enc)), [some (rD row), some (.int w), none, none, none, none]) := by
    refine lcX D.int row (fun x => enc (x, x)) (e' := [some (rD row), some (.int w), none, none, none, none]) ?_ (by unfold ex; rw [List.map_map]; rfl) rfl ?_
    · rfl
    exact fun x hx => ⟨[some (rD row), some (.int w), none, none, none, some (.int x)], .val (enc (x, x)), [some (rD row), some (.int w), none, none, none, some (.int x)], rfl, rfl, rfl, rfl⟩
  obtain ⟨f, ef⟩ := least_spread h
  obtain ⟨f1, g1, e1, l1, i1⟩ := fewest_classes (s := w) h h0 h1
  obtain ⟨f2, g2, e2, l2, i2⟩ := fewest_parts (m := w) h h0 h1
  have u := uneven (ex_ok h)
  rw [ex_low h, ex_most h] at u
  have ev := even (ex_ok h) h0 h1
  rw [ex_word h] at ev
  simp only [F__law_are_exact_right_86, B__law_are_exact_right_86, fn, fnM, fin, finM, R.res, R.resM, e_v, e_o, e_c, e_un, e_bin, e_chain, e_and, e_or, e_not, e_if, t_v, t_and, t_or, t_not, t_yes, a_nil, a_cons, a_star, e_tup, e_lst, e_tupS, e_lstS, e_call, e_callM, e_meth, e_bm, e_cut, p_no, p_e, tg_n, tg_t, tg_s, s_nil, s_then, s_seq, s_set, s_setO, s_par2, s_par3, pick, s_tgt, s_ex, s_ret, s_retN, s_if, s_setix, it_e, it_r1, it_r2, it_enum, it_zip, e_lstR, e_tupR, R.at, R.st, R.ats, R.sts, R.atx, R.atxs, R.new?, R.bl?, R.seq?, D.seq?, D.int?, D.bl?, D.str?, D.tup?, D.lst?, D.ty?, En.g, En.p, En.wipe, En.back, Option.bind_some, Option.bind_none, List.length_cons, List.length_nil, List.map_cons, List.map_nil, List.replicate, List.cons_append, List.nil_append, List.set_cons_zero, List.set_cons_succ, List.getElem?_cons_zero, List.getElem?_cons_succ, List.getElem?_nil, Option.join_some, Option.join_none, Nat.reduceAdd, Nat.reduceSub, reduceIte, if_true, if_false, Bool.false_eq_true, D.flat, D.flats, flatIn_l, Bool.and_true, Bool.true_and, Bool.and_self, ix_t0, ix_t1, ix_t2, ix_l0, ix_l1, ix_l2, len_t, len_l, tup_l, add_i, max_2, min_2, sub_i, lt_i, le_i, gt_i, ge_i, neg_i, ne_i, eq_i, ne_s, eq_s, ne_b, eq_b, int_i, int_b, abs_i, lc, max_t hr, min_t hr]
  rw [show mx row - mn row = wide row from rfl]
  simp only [fn, fnM, fin, finM, R.res, R.resM, e_v, e_o, e_c, e_un, e_bin, e_chain, e_and, e_or, e_not, e_if, t_v, t_and, t_or, t_not, t_yes, a_nil, a_cons, a_star, e_tup, e_lst, e_tupS, e_lstS, e_call, e_callM, e_meth, e_bm, e_cut, p_no, p_e, tg_n, tg_t, tg_s, s_nil, s_then, s_seq, s_set, s_setO, s_par2, s_par3, pick, s_tgt, s_ex, s_ret, s_retN, s_if, s_setix, it_e, it_r1, it_r2, it_enum, it_zip, e_lstR, e_tupR, R.at, R.st, R.ats, R.sts, R.atx, R.atxs, R.new?, R.bl?, R.seq?, D.seq?, D.int?, D.bl?, D.str?, D.tup?, D.lst?, D.ty?, En.g, En.p, En.wipe, En.back, Option.bind_some, Option.bind_none, List.length_cons, List.length_nil, List.map_cons, List.map_nil, List.replicate, List.cons_append, List.nil_append, List.set_cons_zero, List.set_cons_succ, List.getElem?_cons_zero, List.getElem?_cons_succ, List.getElem?_nil, Option.join_some, Option.join_none, Nat.reduceAdd, Nat.reduceSub, reduceIte, if_true, if_false, Bool.false_eq_true, D.flat, D.flats, flatIn_l, Bool.and_true, Bool.true_and, Bool.and_self, ix_t0, ix_t1, ix_t2, ix_l0, ix_l1, ix_l2, len_t, len_l, tup_l, add_i, max_2, min_2, sub_i, lt_i, le_i, gt_i, ge_i, neg_i, ne_i, eq_i, ne_s, eq_s, ne_b, eq_b, int_i, int_b, abs_i, u, ef, ne_pp', beq_self_eq_true, Bool.not_true, least_width h, ev, e1, e2]
  by_cases z : wide row ≤ w
  · have a1 : ((f1.length : Int) == 1) = true := by rw [beq_iff_eq]; have := i1.mpr z; omega
    have a2 : ((f2.length : Int) == 1) = true := by rw [beq_iff_eq]; have := i2.mpr z; omega
    simp only [z, decide_true, fn, fnM, fin, finM, R.res, R.resM, e_v, e_o, e_c, e_un, e_bin, e_chain, e_and, e_or, e_not, e_if, t_v, t_and, t_or, t_not, t_yes, a_nil, a_cons, a_star, e_tup, e_lst, e_tupS, e_lstS, e_call, e_callM, e_meth, e_bm, e_cut, p_no, p_e, tg_n, tg_t, tg_s, s_nil, s_then, s_seq, s_set, s_setO, s_par2, s_par3, pick, s_tgt, s_ex, s_ret, s_retN, s_if, s_setix, it_e, it_r1, it_r2, it_enum, it_zip, e_lstR, e_tupR, R.at, R.st, R.ats, R.sts, R.atx, R.atxs, R.new?, R.bl?, R.seq?, D.seq?, D.int?, D.bl?, D.str?, D.tup?, D.lst?, D.ty?, En.g, En.p, En.wipe, En.back, Option.bind_some, Option.bind_none, List.length_cons, List.length_nil, List.map_cons, List.map_nil, List.replicate, List.cons_append, List.nil_append, List.set_cons_zero, List.set_cons_succ, List.getElem?_cons_zero, List.getElem?_cons_succ, List.getElem?_nil, Option.join_some, Option.join_none, Nat.reduceAdd, Nat.reduceSub, reduceIte, if_true, if_false, Bool.false_eq_true, D.flat, D.flats, flatIn_l, Bool.and_true, Bool.true_and, Bool.and_self, ix_t0, ix_t1, ix_t2, ix_l0, ix_l1, ix_l2, len_t, len_l, tup_l, add_i, max_2, min_2, sub_i, lt_i, le_i, gt_i, ge_i, neg_i, ne_i, eq_i, ne_s, eq_s, ne_b, eq_b, int_i, int_b, abs_i, beq_self_eq_true, Bool.not_true, e1, e2, a1, a2]
  · have a1 : ((f1.length : Int) == 1) = false := by rw [beq_eq_false_iff_ne]; intro q; exact z (i1.mp (by omega))
    have a2 : ((f2.length : Int) == 1) = false := by rw [beq_eq_false_iff_ne]; intro q; exact z (i2.mp (by omega))
    have s4' : (sNever == sSure) = false := s4
    simp only [z, decide_false, fn, fnM, fin, finM, R.res, R.resM, e_v, e_o, e_c, e_un, e_bin, e_chain, e_and, e_or, e_not, e_if, t_v, t_and, t_or, t_not, t_yes, a_nil, a_cons, a_star, e_tup, e_lst, e_tupS, e_lstS, e_call, e_callM, e_meth, e_bm, e_cut, p_no, p_e, tg_n, tg_t, tg_s, s_nil, s_then, s_seq, s_set, s_setO, s_par2, s_par3, pick, s_tgt, s_ex, s_ret, s_retN, s_if, s_setix, it_e, it_r1, it_r2, it_enum, it_zip, e_lstR, e_tupR, R.at, R.st, R.ats, R.sts, R.atx, R.atxs, R.new?, R.bl?, R.seq?, D.seq?, D.int?, D.bl?, D.str?, D.tup?, D.lst?, D.ty?, En.g, En.p, En.wipe, En.back, Option.bind_some, Option.bind_none, List.length_cons, List.length_nil, List.map_cons, List.map_nil, List.replicate, List.cons_append, List.nil_append, List.set_cons_zero, List.set_cons_succ, List.getElem?_cons_zero, List.getElem?_cons_succ, List.getElem?_nil, Option.join_some, Option.join_none, Nat.reduceAdd, Nat.reduceSub, reduceIte, if_true, if_false, Bool.false_eq_true, D.flat, D.flats, flatIn_l, Bool.and_true, Bool.true_and, Bool.and_self, ix_t0, ix_t1, ix_t2, ix_l0, ix_l1, ix_l2, len_t, len_l, tup_l, add_i, max_2, min_2, sub_i, lt_i, le_i, gt_i, ge_i, neg_i, ne_i, eq_i, ne_s, eq_s, ne_b, eq_b, int_i, int_b, abs_i, beq_self_eq_true, Bool.not_true, e1, e2, a1, a2, s4']
end G56

/-! ## Y56 -/
namespace G56
open PySem Mini
theorem zip_enc : ∀ (r : List Int) (B : List (Int × Int)), zipD (r.map .int) (B.map enc) = (r.zip B).map fun z => D.tup [.int z.1, enc z.2]
  | [], _ => by simp [zipD]
  | _ :: _, [] => by simp [zipD]
  | x :: r, p :: B => by rw [List.map_cons, List.map_cons, zipD, zip_enc r B]; rfl
/-- a row within the bounds -/
structure Wi (r : List Int) (B : List (Int × Int)) : Prop where
  len : r.length = B.length
  fine : ∀ z ∈ r.zip B, z.2.1 ≤ z.1 ∧ z.1 ≤ z.2.2
theorem Wi.ne {r : List Int} {B : List (Int × Int)} (h : Wi r B) (hB : Ok B) : r ≠ [] := fun z => by
  have := h.len
  rw [z] at this
  exact hB.pos (List.length_eq_zero_iff.mp this.symm)
theorem cut1 (a b c : D) : cutP [a, b, c] (some 1) none = [b, c] := rfl
theorem pyrow (r : List Int) (k : Nat) : D.pyOk (rD r) (k + 1) = true := pyOks_int k r
theorem eq_unit {s : Str} (hs : strFine s = true) (a b : D) (ha : D.pyOk a 8 = true) (hb : D.pyOk b 8 = true) : o_eq (.tup [.str s, a, b]) (.tup []) = some (.val (.bl false)) := by
  have e1 : D.pyOk (.tup [.str s, a, b]) 9 = true := by
    show (D.pyOk (.str s) 8 && (D.pyOk a 8 && (D.pyOk b 8 && true))) = true
    rw [ha, hb]
    show (strFine s && _) = true
    rw [hs]
    rfl
  have e2 : D.pyOk (.tup []) 9 = true := rfl
  have e3 : scal2 (.tup [.str s, a, b]) (.tup []) = false := rfl
  simp only [o_eq, o_eqb, e1, e2, e3]
  rfl
theorem isi_t (l : List D) : o_isi [.tup l, .ty "tuple"] = some (.val (.bl true)) := rfl
theorem isi_s (s : Str) : o_isi [.str s, .ty "str"] = some (.val (.bl true)) := rfl
theorem shows_open {B : List (Int × Int)} {w : Int} {r1 r2 : List Int} (h : Ok B) (h0 : 0 ≤ w) (h1 : w ≤ 1000) (hw : word B w = sOpen) (q1 : Wi r1 B) (q2 : Wi r2 B) :
    F_shows_even_25 [bD B, .int w, .tup [.str sOpen, rD r1, rD r2]] = some (.val (.bl (decide (wide r1 ≤ w) && decide (w < wide r2)))) := by
  have ev := even h h0 h1
  rw [hw] at ev
  have n1 := q1.ne h
  have n2 := q2.ne h
  have eu := eq_unit (s := sOpen) (by decide +kernel) (rD r1) (rD r2) (pyrow r1 7) (pyrow r2 7)
  have tl : ∀ r, Wi r B → F_is_tuple_1 [rD r, .int ((B.map enc).length : Nat), .int ((B.map enc).length : Nat)] = some (.val (.bl true)) := fun r q => by
    rw [tuple_ok, decide_eq_true (by rw [List.length_map, List.length_map, q.len]; omega)]
  obtain ⟨V, hV⟩ : ∃ V : D, V = .tup [.str sOpen, rD r1, rD r2] := ⟨_, rfl⟩
  have lc1 : ∀ e0 : En, e0 = [some (bD B), some (.int w), some (.tup [.str sOpen, rD r1, rD r2]), some (.str sOpen), none, none, none, none, none] → e_lc (it_e (e_cut (e_v 2) (p_e (e_c (.int 1))) p_no)) (tg_n 4) t_yes (e_call F_is_tuple_1 (a_cons (e_v 4) (a_cons (e_call o_len (a_cons (e_v 0) a_nil)) (a_cons (e_call o_len (a_cons (e_v 0) a_nil)) a_nil)))) [4] e0 =
      some (.new (.lst [.bl true, .bl true]), e0) := by
    rintro _ rfl
    simp only [e_lc, fn, fnM, fin, finM, R.res, R.resM, e_v, e_o, e_c, e_un, e_bin, e_chain, e_and, e_or, e_not, e_if, t_v, t_and, t_or, t_not, t_yes, a_nil, a_cons, a_star, e_tup, e_lst, e_tupS, e_lstS, e_call, e_callM, e_meth, e_bm, e_cut, p_no, p_e, tg_n, tg_t, tg_s, s_nil, s_then, s_seq, s_set, s_setO, s_par2, s_par3, pick, s_tgt, s_ex, s_ret, s_retN, s_if, s_setix, it_e, it_r1, it_r2, it_enum, it_zip, e_lstR, e_tupR, R.at, R.st, R.ats, R.sts, R.atx, R.atxs, R.new?, R.bl?, R.seq?, D.seq?, D.int?, D.bl?, D.str?, D.tup?, D.lst?, D.ty?, En.g, En.p, En.wipe, En.back, Option.bind_some, Option.bind_none, List.length_cons, List.length_nil, List.map_cons, List.map_nil, List.replicate, List.cons_append, List.nil_append, List.set_cons_zero, List.set_cons_succ, List.getElem?_cons_zero, List.getElem?_cons_succ, List.getElem?_nil, Option.join_some, Option.join_none, Nat.reduceAdd, Nat.reduceSub, reduceIte, if_true, if_false, Bool.false_eq_true, D.flat, D.flats, flatIn_l, Bool.and_true, Bool.true_and, Bool.and_self, ix_t0, ix_t1, ix_t2, ix_l0, ix_l1, ix_l2, len_t, len_l, tup_l, add_i, max_2, min_2, sub_i, lt_i, le_i, gt_i, ge_i, neg_i, ne_i, eq_i, ne_s, eq_s, ne_b, eq_b, int_i, int_b, abs_i, o_cut, cut1, lcLoop, tl r1 q1, tl r2 q2]
  have lc2 : ∀ (r : List Int), Wi r B → e_lc (it_zip (e_v 4) (e_v 0)) (tg_t [tg_n 5, tg_t [tg_n 6, tg_n 7]]) t_yes (e_call F_is_integer_3 (a_cons (e_v 5) (a_cons (e_v 6) (a_cons (e_v 7) a_nil)))) [5, 6, 7] [some (bD B), some (.int w), some (.tup [.str sOpen, rD r1, rD r2]), some (.str sOpen), some (rD r), none, none, none, none] =
      some (.new (.lst (((r.zip B).map fun _ => true).map .bl)), [some (bD B), some (.int w), some (.tup [.str sOpen, rD r1, rD r2]), some (.str sOpen), some (rD r), none, none, none, none]) := fun r q => by
    refine lcX (fun z : Int × (Int × Int) => D.tup [.int z.1, enc z.2]) (r.zip B) (fun _ => .bl true) (e' := [some (bD B), some (.int w), some (.tup [.str sOpen, rD r1, rD r2]), some (.str sOpen), some (rD r), none, none, none, none]) ?_ (List.map_map).symm rfl ?_
    · simp only [fn, fnM, fin, finM, R.res, R.resM, e_v, e_o, e_c, e_un, e_bin, e_chain, e_and, e_or, e_not, e_if, t_v, t_and, t_or, t_not, t_yes, a_nil, a_cons, a_star, e_tup, e_lst, e_tupS, e_lstS, e_call, e_callM, e_meth, e_bm, e_cut, p_no, p_e, tg_n, tg_t, tg_s, s_nil, s_then, s_seq, s_set, s_setO, s_par2, s_par3, pick, s_tgt, s_ex, s_ret, s_retN, s_if, s_setix, it_e, it_r1, it_r2, it_enum, it_zip, e_lstR, e_tupR, R.at, R.st, R.ats, R.sts, R.atx, R.atxs, R.new?, R.bl?, R.seq?, D.seq?, D.int?, D.bl?, D.str?, D.tup?, D.lst?, D.ty?, En.g, En.p, En.wipe, En.back, Option.bind_some, Option.bind_none, List.length_cons, List.length_nil, List.map_cons, List.map_nil, List.replicate, List.cons_append, List.nil_append, List.set_cons_zero, List.set_cons_succ, List.getElem?_cons_zero, List.getElem?_cons_succ, List.getElem?_nil, Option.join_some, Option.join_none, Nat.reduceAdd, Nat.reduceSub, reduceIte, if_true, if_false, Bool.false_eq_true, D.flat, D.flats, flatIn_l, Bool.and_true, Bool.true_and, Bool.and_self, ix_t0, ix_t1, ix_t2, ix_l0, ix_l1, ix_l2, len_t, len_l, tup_l, add_i, max_2, min_2, sub_i, lt_i, le_i, gt_i, ge_i, neg_i, ne_i, eq_i, ne_s, eq_s, ne_b, eq_b, int_i, int_b, abs_i, zip_enc]
    exact fun z hz => ⟨[some (bD B), some (.int w), some (.tup [.str sOpen, rD r1, rD r2]), some (.str sOpen), some (rD r), some (.int z.1), some (.int z.2.1), some (.int z.2.2), none], .val (.bl true), [some (bD B), some (.int w), some (.tup [.str sOpen, rD r1, rD r2]), some (.str sOpen), some (rD r), some (.int z.1), some (.int z.2.1), some (.int z.2.2), none], rfl, by simp only [fn, fnM, fin, finM, R.res, R.resM, e_v, e_o, e_c, e_un, e_bin, e_chain, e_and, e_or, e_not, e_if, t_v, t_and, t_or, t_not, t_yes, a_nil, a_cons, a_star, e_tup, e_lst, e_tupS, e_lstS, e_call, e_callM, e_meth, e_bm, e_cut, p_no, p_e, tg_n, tg_t, tg_s, s_nil, s_then, s_seq, s_set, s_setO, s_par2, s_par3, pick, s_tgt, s_ex, s_ret, s_retN, s_if, s_setix, it_e, it_r1, it_r2, it_enum, it_zip, e_lstR, e_tupR, R.at, R.st, R.ats, R.sts, R.atx, R.atxs, R.new?, R.bl?, R.seq?, D.seq?, D.int?, D.bl?, D.str?, D.tup?, D.lst?, D.ty?, En.g, En.p, En.wipe, En.back, Option.bind_some, Option.bind_none, List.length_cons, List.length_nil, List.map_cons, List.map_nil, List.replicate, List.cons_append, List.nil_append, List.set_cons_zero, List.set_cons_succ, List.getElem?_cons_zero, List.getElem?_cons_succ, List.getElem?_nil, Option.join_some, Option.join_none, Nat.reduceAdd, Nat.reduceSub, reduceIte, if_true, if_false, Bool.false_eq_true, D.flat, D.flats, flatIn_l, Bool.and_true, Bool.true_and, Bool.and_self, ix_t0, ix_t1, ix_t2, ix_l0, ix_l1, ix_l2, len_t, len_l, tup_l, add_i, max_2, min_2, sub_i, lt_i, le_i, gt_i, ge_i, neg_i, ne_i, eq_i, ne_s, eq_s, ne_b, eq_b, int_i, int_b, abs_i, integer, decide_eq_true (q.fine z hz)], rfl, rfl⟩
  have al : ∀ r : List Int, ((r.zip B).map fun _ => true).all id = true := fun r => all_true fun _ _ => rfl
  have a2 : o_all [.lst [.bl true, .bl true]] = some (.val (.bl true)) := rfl
  have c3 : (((3 : Nat) : Int) == 3) = true := rfl
  have s3' : (sOpen == sSure) = false := s3
  have s2' : (sOpen == sNever) = false := s2
  simp only [F_shows_even_25, B_shows_even_25, fn, fnM, fin, finM, R.res, R.resM, e_v, e_o, e_c, e_un, e_bin, e_chain, e_and, e_or, e_not, e_if, t_v, t_and, t_or, t_not, t_yes, a_nil, a_cons, a_star, e_tup, e_lst, e_tupS, e_lstS, e_call, e_callM, e_meth, e_bm, e_cut, p_no, p_e, tg_n, tg_t, tg_s, s_nil, s_then, s_seq, s_set, s_setO, s_par2, s_par3, pick, s_tgt, s_ex, s_ret, s_retN, s_if, s_setix, it_e, it_r1, it_r2, it_enum, it_zip, e_lstR, e_tupR, R.at, R.st, R.ats, R.sts, R.atx, R.atxs, R.new?, R.bl?, R.seq?, D.seq?, D.int?, D.bl?, D.str?, D.tup?, D.lst?, D.ty?, En.g, En.p, En.wipe, En.back, Option.bind_some, Option.bind_none, List.length_cons, List.length_nil, List.map_cons, List.map_nil, List.replicate, List.cons_append, List.nil_append, List.set_cons_zero, List.set_cons_succ, List.getElem?_cons_zero, List.getElem?_cons_succ, List.getElem?_nil, Option.join_some, Option.join_none, Nat.reduceAdd, Nat.reduceSub, reduceIte, if_true, if_false, Bool.false_eq_true, D.flat, D.flats, flatIn_l, Bool.and_true, Bool.true_and, Bool.and_self, ix_t0, ix_t1, ix_t2, ix_l0, ix_l1, ix_l2, len_t, len_l, tup_l, add_i, max_2, min_2, sub_i, lt_i, le_i, gt_i, ge_i, neg_i, ne_i, eq_i, ne_s, eq_s, ne_b, eq_b, int_i, int_b, abs_i, ev, isi_t, isi_s, eu, c3, Bool.not_true, beq_self_eq_true, s3', s2', lc1 _ rfl, a2, s_for, o_cut, cut1, forLoop, lc2 r1 q1, lc2 r2 q2, all_l, al, max_t n1, min_t n1, max_t n2, min_t n2]
  rw [show mx r1 - mn r1 = wide r1 from rfl, show mx r2 - mn r2 = wide r2 from rfl]
  by_cases z : wide r1 ≤ w
  · simp only [z, decide_true, fn, fnM, fin, finM, R.res, R.resM, e_v, e_o, e_c, e_un, e_bin, e_chain, e_and, e_or, e_not, e_if, t_v, t_and, t_or, t_not, t_yes, a_nil, a_cons, a_star, e_tup, e_lst, e_tupS, e_lstS, e_call, e_callM, e_meth, e_bm, e_cut, p_no, p_e, tg_n, tg_t, tg_s, s_nil, s_then, s_seq, s_set, s_setO, s_par2, s_par3, pick, s_tgt, s_ex, s_ret, s_retN, s_if, s_setix, it_e, it_r1, it_r2, it_enum, it_zip, e_lstR, e_tupR, R.at, R.st, R.ats, R.sts, R.atx, R.atxs, R.new?, R.bl?, R.seq?, D.seq?, D.int?, D.bl?, D.str?, D.tup?, D.lst?, D.ty?, En.g, En.p, En.wipe, En.back, Option.bind_some, Option.bind_none, List.length_cons, List.length_nil, List.map_cons, List.map_nil, List.replicate, List.cons_append, List.nil_append, List.set_cons_zero, List.set_cons_succ, List.getElem?_cons_zero, List.getElem?_cons_succ, List.getElem?_nil, Option.join_some, Option.join_none, Nat.reduceAdd, Nat.reduceSub, reduceIte, if_true, if_false, Bool.false_eq_true, D.flat, D.flats, flatIn_l, Bool.and_true, Bool.true_and, Bool.and_self, ix_t0, ix_t1, ix_t2, ix_l0, ix_l1, ix_l2, len_t, len_l, tup_l, add_i, max_2, min_2, sub_i, lt_i, le_i, gt_i, ge_i, neg_i, ne_i, eq_i, ne_s, eq_s, ne_b, eq_b, int_i, int_b, abs_i]
  · simp only [z, decide_false, fn, fnM, fin, finM, R.res, R.resM, e_v, e_o, e_c, e_un, e_bin, e_chain, e_and, e_or, e_not, e_if, t_v, t_and, t_or, t_not, t_yes, a_nil, a_cons, a_star, e_tup, e_lst, e_tupS, e_lstS, e_call, e_callM, e_meth, e_bm, e_cut, p_no, p_e, tg_n, tg_t, tg_s, s_nil, s_then, s_seq, s_set, s_setO, s_par2, s_par3, pick, s_tgt, s_ex, s_ret, s_retN, s_if, s_setix, it_e, it_r1, it_r2, it_enum, it_zip, e_lstR, e_tupR, R.at, R.st, R.ats, R.sts, R.atx, R.atxs, R.new?, R.bl?, R.seq?, D.seq?, D.int?, D.bl?, D.str?, D.tup?, D.lst?, D.ty?, En.g, En.p, En.wipe, En.back, Option.bind_some, Option.bind_none, List.length_cons, List.length_nil, List.map_cons, List.map_nil, List.replicate, List.cons_append, List.nil_append, List.set_cons_zero, List.set_cons_succ, List.getElem?_cons_zero, List.getElem?_cons_succ, List.getElem?_nil, Option.join_some, Option.join_none, Nat.reduceAdd, Nat.reduceSub, reduceIte, if_true, if_false, Bool.false_eq_true, D.flat, D.flats, flatIn_l, Bool.and_true, Bool.true_and, Bool.and_self, ix_t0, ix_t1, ix_t2, ix_l0, ix_l1, ix_l2, len_t, len_l, tup_l, add_i, max_2, min_2, sub_i, lt_i, le_i, gt_i, ge_i, neg_i, ne_i, eq_i, ne_s, eq_s, ne_b, eq_b, int_i, int_b, abs_i, Bool.false_and]
end G56
namespace G56
open PySem Mini
theorem eq_unit1 {s : Str} (hs : strFine s = true) : o_eq (.tup [.str s]) (.tup []) = some (.val (.bl false)) := by
  have e1 : D.pyOk (.tup [.str s]) 9 = true := by
    show (strFine s && true) = true
    rw [hs]
    rfl
  have e2 : D.pyOk (.tup []) 9 = true := rfl
  have e3 : scal2 (.tup [.str s]) (.tup []) = false := rfl
  simp only [o_eq, o_eqb, e1, e2, e3]
  rfl
theorem shows_sure {B : List (Int × Int)} {w : Int} (h : Ok B) (h0 : 0 ≤ w) (h1 : w ≤ 1000) (hw : word B w = sSure) : F_shows_even_25 [bD B, .int w, .tup [.str sSure]] = some (.val (.bl true)) := by
  have ev := even h h0 h1
  rw [hw] at ev
  have eu := eq_unit1 (s := sSure) (by decide +kernel)
  have c1 : (((1 : Nat) : Int) == 1) = true := rfl
  simp only [F_shows_even_25, B_shows_even_25, fn, fnM, fin, finM, R.res, R.resM, e_v, e_o, e_c, e_un, e_bin, e_chain, e_and, e_or, e_not, e_if, t_v, t_and, t_or, t_not, t_yes, a_nil, a_cons, a_star, e_tup, e_lst, e_tupS, e_lstS, e_call, e_callM, e_meth, e_bm, e_cut, p_no, p_e, tg_n, tg_t, tg_s, s_nil, s_then, s_seq, s_set, s_setO, s_par2, s_par3, pick, s_tgt, s_ex, s_ret, s_retN, s_if, s_setix, it_e, it_r1, it_r2, it_enum, it_zip, e_lstR, e_tupR, R.at, R.st, R.ats, R.sts, R.atx, R.atxs, R.new?, R.bl?, R.seq?, D.seq?, D.int?, D.bl?, D.str?, D.tup?, D.lst?, D.ty?, En.g, En.p, En.wipe, En.back, Option.bind_some, Option.bind_none, List.length_cons, List.length_nil, List.map_cons, List.map_nil, List.replicate, List.cons_append, List.nil_append, List.set_cons_zero, List.set_cons_succ, List.getElem?_cons_zero, List.getElem?_cons_succ, List.getElem?_nil, Option.join_some, Option.join_none, Nat.reduceAdd, Nat.reduceSub, reduceIte, if_true, if_false, Bool.false_eq_true, D.flat, D.flats, flatIn_l, Bool.and_true, Bool.true_and, Bool.and_self, ix_t0, ix_t1, ix_t2, ix_l0, ix_l1, ix_l2, len_t, len_l, tup_l, add_i, max_2, min_2, sub_i, lt_i, le_i, gt_i, ge_i, neg_i, ne_i, eq_i, ne_s, eq_s, ne_b, eq_b, int_i, int_b, abs_i, ev, isi_t, isi_s, eu, c1, Bool.not_true, beq_self_eq_true]
theorem shows_never {B : List (Int × Int)} {w : Int} {i j : Nat} {p q : Int × Int} (h : Ok B) (h0 : 0 ≤ w) (h1 : w ≤ 1000) (hw : word B w = sNever) (hi : B[i]? = some p) (hj : B[j]? = some q) :
    F_shows_even_25 [bD B, .int w, .tup [.str sNever, .int (i : Int), .int (j : Int)]] = some (.val (.bl (decide (w < p.1 - q.2)))) := by
  have ev := even h h0 h1
  rw [hw] at ev
  have eu := eq_unit (s := sNever) (by decide +kernel) (.int (i : Int)) (.int (j : Int)) rfl rfl
  have il := (List.getElem?_eq_some_iff.mp hi).1
  have jl := (List.getElem?_eq_some_iff.mp hj).1
  have e1 : F_is_integer_3 [.int (i : Int), .int 0, .int (((B.map enc).length : Nat) - 1)] = some (.val (.bl true)) := by rw [integer, decide_eq_true (by rw [List.length_map]; omega)]
  have e2 : F_is_integer_3 [.int (j : Int), .int 0, .int (((B.map enc).length : Nat) - 1)] = some (.val (.bl true)) := by rw [integer, decide_eq_true (by rw [List.length_map]; omega)]
  have x1 : o_ix (bD B) (.int (i : Int)) = some (.val (enc p)) := ix_t (by rw [List.getElem?_map, hi]; rfl)
  have x2 : o_ix (bD B) (.int (j : Int)) = some (.val (enc q)) := ix_t (by rw [List.getElem?_map, hj]; rfl)
  have lc1 : ∀ e0 : En, e0 = [some (bD B), some (.int w), some (.tup [.str sNever, .int (i : Int), .int (j : Int)]), some (.str sNever), none, none, none, none, none] → e_lc (it_e (e_cut (e_v 2) (p_e (e_c (.int 1))) p_no)) (tg_n 8) t_yes (e_call F_is_integer_3 (a_cons (e_v 8) (a_cons (e_c (.int 0)) (a_cons (e_bin o_sub (e_call o_len (a_cons (e_v 0) a_nil)) (e_c (.int 1))) a_nil)))) [8] e0 =
      some (.new (.lst [.bl true, .bl true]), e0) := by
    rintro _ rfl
    simp only [e_lc, fn, fnM, fin, finM, R.res, R.resM, e_v, e_o, e_c, e_un, e_bin, e_chain, e_and, e_or, e_not, e_if, t_v, t_and, t_or, t_not, t_yes, a_nil, a_cons, a_star, e_tup, e_lst, e_tupS, e_lstS, e_call, e_callM, e_meth, e_bm, e_cut, p_no, p_e, tg_n, tg_t, tg_s, s_nil, s_then, s_seq, s_set, s_setO, s_par2, s_par3, pick, s_tgt, s_ex, s_ret, s_retN, s_if, s_setix, it_e, it_r1, it_r2, it_enum, it_zip, e_lstR, e_tupR, R.at, R.st, R.ats, R.sts, R.atx, R.atxs, R.new?, R.bl?, R.seq?, D.seq?, D.int?, D.bl?, D.str?, D.tup?, D.lst?, D.ty?, En.g, En.p, En.wipe, En.back, Option.bind_some, Option.bind_none, List.length_cons, List.length_nil, List.map_cons, List.map_nil, List.replicate, List.cons_append, List.nil_append, List.set_cons_zero, List.set_cons_succ, List.getElem?_cons_zero, List.getElem?_cons_succ, List.getElem?_nil, Option.join_some, Option.join_none, Nat.reduceAdd, Nat.reduceSub, reduceIte, if_true, if_false, Bool.false_eq_true, D.flat, D.flats, flatIn_l, Bool.and_true, Bool.true_and, Bool.and_self, ix_t0, ix_t1, ix_t2, ix_l0, ix_l1, ix_l2, len_t, len_l, tup_l, add_i, max_2, min_2, sub_i, lt_i, le_i, gt_i, ge_i, neg_i, ne_i, eq_i, ne_s, eq_s, ne_b, eq_b, int_i, int_b, abs_i, o_cut, cut1, lcLoop, e1, e2]
  have a2 : o_all [.lst [.bl true, .bl true]] = some (.val (.bl true)) := rfl
  have c3 : (((3 : Nat) : Int) == 3) = true := rfl
  have s4' : (sNever == sSure) = false := s4
  simp only [F_shows_even_25, B_shows_even_25, fn, fnM, fin, finM, R.res, R.resM, e_v, e_o, e_c, e_un, e_bin, e_chain, e_and, e_or, e_not, e_if, t_v, t_and, t_or, t_not, t_yes, a_nil, a_cons, a_star, e_tup, e_lst, e_tupS, e_lstS, e_call, e_callM, e_meth, e_bm, e_cut, p_no, p_e, tg_n, tg_t, tg_s, s_nil, s_then, s_seq, s_set, s_setO, s_par2, s_par3, pick, s_tgt, s_ex, s_ret, s_retN, s_if, s_setix, it_e, it_r1, it_r2, it_enum, it_zip, e_lstR, e_tupR, R.at, R.st, R.ats, R.sts, R.atx, R.atxs, R.new?, R.bl?, R.seq?, D.seq?, D.int?, D.bl?, D.str?, D.tup?, D.lst?, D.ty?, En.g, En.p, En.wipe, En.back, Option.bind_some, Option.bind_none, List.length_cons, List.length_nil, List.map_cons, List.map_nil, List.replicate, List.cons_append, List.nil_append, List.set_cons_zero, List.set_cons_succ, List.getElem?_cons_zero, List.getElem?_cons_succ, List.getElem?_nil, Option.join_some, Option.join_none, Nat.reduceAdd, Nat.reduceSub, reduceIte, if_true, if_false, Bool.false_eq_true, D.flat, D.flats, flatIn_l, Bool.and_true, Bool.true_and, Bool.and_self, ix_t0, ix_t1, ix_t2, ix_l0, ix_l1, ix_l2, len_t, len_l, tup_l, add_i, max_2, min_2, sub_i, lt_i, le_i, gt_i, ge_i, neg_i, ne_i, eq_i, ne_s, eq_s, ne_b, eq_b, int_i, int_b, abs_i, ev, isi_t, isi_s, eu, c3, Bool.not_true, beq_self_eq_true, s4', lc1 _ rfl, a2, x1, x2]
/-! ### why_even -/
theorem lcl {B : List (Int × Int)} {w : Int} {s : Str} : e_lc (it_e (e_v 0)) (tg_t [tg_n 13, tg_n 14]) t_yes (e_v 13) [13, 14] [some (bD B), some (.int w), some (.str s), none, none, none, none, none, none, none, none, none, none, none, none] = some (.new (.lst ((B.map (·.1)).map .int)), [some (bD B), some (.int w), some (.str s), none, none, none, none, none, none, none, none, none, none, none, none]) := by
  refine lcX enc B (fun p => .int p.1) (e' := [some (bD B), some (.int w), some (.str s), none, none, none, none, none, none, none, none, none, none, none, none]) ?_ (List.map_map).symm rfl ?_
  · rfl
  exact fun p hp => ⟨[some (bD B), some (.int w), some (.str s), none, none, none, none, none, none, none, none, none, none, some (.int p.1), some (.int p.2)], .val (.int p.1), _, rfl, rfl, rfl, rfl⟩
theorem lch {B : List (Int × Int)} {w : Int} {s : Str} : e_lc (it_e (e_v 0)) (tg_t [tg_n 13, tg_n 14]) t_yes (e_v 14) [13, 14] [some (bD B), some (.int w), some (.str s), none, none, none, none, none, none, none, none, none, none, none, none] = some (.new (.lst ((B.map (·.2)).map .int)), [some (bD B), some (.int w), some (.str s), none, none, none, none, none, none, none, none, none, none, none, none]) := by
  refine lcX enc B (fun p => .int p.2) (e' := [some (bD B), some (.int w), some (.str s), none, none, none, none, none, none, none, none, none, none, none, none]) ?_ (List.map_map).symm rfl ?_
  · rfl
  exact fun p hp => ⟨[some (bD B), some (.int w), some (.str s), none, none, none, none, none, none, none, none, none, none, some (.int p.1), some (.int p.2)], .val (.int p.2), _, rfl, rfl, rfl, rfl⟩
theorem why_sure {B : List (Int × Int)} {w : Int} (h : Ok B) (h0 : 0 ≤ w) (h1 : w ≤ 1000) (hw : word B w = sSure) : F_why_even_27 [bD B, .int w] = some (.val (.tup [.str sSure])) := by
  have ev := even h h0 h1
  rw [hw] at ev
  simp only [F_why_even_27, B_why_even_27, fn, fnM, fin, finM, R.res, R.resM, e_v, e_o, e_c, e_un, e_bin, e_chain, e_and, e_or, e_not, e_if, t_v, t_and, t_or, t_not, t_yes, a_nil, a_cons, a_star, e_tup, e_lst, e_tupS, e_lstS, e_call, e_callM, e_meth, e_bm, e_cut, p_no, p_e, tg_n, tg_t, tg_s, s_nil, s_then, s_seq, s_set, s_setO, s_par2, s_par3, pick, s_tgt, s_ex, s_ret, s_retN, s_if, s_setix, it_e, it_r1, it_r2, it_enum, it_zip, e_lstR, e_tupR, R.at, R.st, R.ats, R.sts, R.atx, R.atxs, R.new?, R.bl?, R.seq?, D.seq?, D.int?, D.bl?, D.str?, D.tup?, D.lst?, D.ty?, En.g, En.p, En.wipe, En.back, Option.bind_some, Option.bind_none, List.length_cons, List.length_nil, List.map_cons, List.map_nil, List.replicate, List.cons_append, List.nil_append, List.set_cons_zero, List.set_cons_succ, List.getElem?_cons_zero, List.getElem?_cons_succ, List.getElem?_nil, Option.join_some, Option.join_none, Nat.reduceAdd, Nat.reduceSub, reduceIte, if_true, if_false, Bool.false_eq_true, D.flat, D.flats, flatIn_l, Bool.and_true, Bool.true_and, Bool.and_self, ix_t0, ix_t1, ix_t2, ix_l0, ix_l1, ix_l2, len_t, len_l, tup_l, add_i, max_2, min_2, sub_i, lt_i, le_i, gt_i, ge_i, neg_i, ne_i, eq_i, ne_s, eq_s, ne_b, eq_b, int_i, int_b, abs_i, ev, beq_self_eq_true]
theorem why_never {B : List (Int × Int)} {w : Int} (h : Ok B) (h0 : 0 ≤ w) (h1 : w ≤ 1000) (hw : word B w = sNever) : ∃ (i j : Nat) (p q : Int × Int), F_why_even_27 [bD B, .int w] = some (.val (.tup [.str sNever, .int (i : Int), .int (j : Int)])) ∧ B[i]? = some p ∧ B[j]? = some q ∧ p.1 - q.2 = low B := by
  have ev := even h h0 h1
  rw [hw] at ev
  have n1 : B.map (·.1) ≠ [] := fun z => h.pos (List.map_eq_nil_iff.mp z)
  have n2 : B.map (·.2) ≠ [] := fun z => h.pos (List.map_eq_nil_iff.mp z)
  obtain ⟨i, i1, i2⟩ := index_l (mx_mem n1)
  obtain ⟨j, j1, j2⟩ := index_l (mn_mem n2)
  rw [List.getElem?_map] at i2 j2
  obtain ⟨p, hp, ep⟩ := Option.map_eq_some_iff.mp i2
  obtain ⟨q, hq, eq⟩ := Option.map_eq_some_iff.mp j2
  have s4' : (sNever == sSure) = false := s4
  refine ⟨i, j, p, q, ?_, hp, hq, by rw [ep, eq]; rfl⟩
  simp only [F_why_even_27, B_why_even_27, fn, fnM, fin, finM, R.res, R.resM, e_v, e_o, e_c, e_un, e_bin, e_chain, e_and, e_or, e_not, e_if, t_v, t_and, t_or, t_not, t_yes, a_nil, a_cons, a_star, e_tup, e_lst, e_tupS, e_lstS, e_call, e_callM, e_meth, e_bm, e_cut, p_no, p_e, tg_n, tg_t, tg_s, s_nil, s_then, s_seq, s_set, s_setO, s_par2, s_par3, pick, s_tgt, s_ex, s_ret, s_retN, s_if, s_setix, it_e, it_r1, it_r2, it_enum, it_zip, e_lstR, e_tupR, R.at, R.st, R.ats, R.sts, R.atx, R.atxs, R.new?, R.bl?, R.seq?, D.seq?, D.int?, D.bl?, D.str?, D.tup?, D.lst?, D.ty?, En.g, En.p, En.wipe, En.back, Option.bind_some, Option.bind_none, List.length_cons, List.length_nil, List.map_cons, List.map_nil, List.replicate, List.cons_append, List.nil_append, List.set_cons_zero, List.set_cons_succ, List.getElem?_cons_zero, List.getElem?_cons_succ, List.getElem?_nil, Option.join_some, Option.join_none, Nat.reduceAdd, Nat.reduceSub, reduceIte, if_true, if_false, Bool.false_eq_true, D.flat, D.flats, flatIn_l, Bool.and_true, Bool.true_and, Bool.and_self, ix_t0, ix_t1, ix_t2, ix_l0, ix_l1, ix_l2, len_t, len_l, tup_l, add_i, max_2, min_2, sub_i, lt_i, le_i, gt_i, ge_i, neg_i, ne_i, eq_i, ne_s, eq_s, ne_b, eq_b, int_i, int_b, abs_i, ev, s4', lcl, lch, beq_self_eq_true, max_l n1, min_l n2, i1, j1]
end G56

/-! ## W56 -/
namespace G56
open PySem Mini
def Rn (n : Nat) : List Int := (List.range n).map fun i => (0 : Int) + (i : Nat)
theorem mem_Rn {n : Nat} {i : Int} : i ∈ Rn n ↔ 0 ≤ i ∧ i < n := by
  unfold Rn
  rw [List.mem_map]
  constructor
  · rintro ⟨k, hk, rfl⟩
    have := List.mem_range.mp hk
    omega
  · rintro ⟨h1, h2⟩
    exact ⟨i.toNat, List.mem_range.mpr (by omega), by omega⟩
abbrev loL (B : List (Int × Int)) : List Int := B.map (·.1)
abbrev hiL (B : List (Int × Int)) : List Int := B.map (·.2)
abbrev tri (B : List (Int × Int)) (one other : Int) : List Int := [aT (hiL B) other - aT (loL B) one, one, other]
def farOf (B : List (Int × Int)) (one : Int) : List (List Int) := ((Rn B.length).filter fun o => !(o == one)).map fun other => tri B one other
def far (B : List (Int × Int)) : List (List Int) := (Rn B.length).flatMap (farOf B)
def mid (B : List (Int × Int)) : Int := max (mx (loL B)) (mn (hiL B))
def near (B : List (Int × Int)) : List Int := B.map fun p => min (max (mid B) p.1) p.2
def rowO (B : List (Int × Int)) (other : Int) : List Int := (Rn B.length).map fun i => if (i == other) = true then aT (hiL B) i else aT (loL B) i
theorem mem_far {B : List (Int × Int)} {r : List Int} : r ∈ far B ↔ ∃ one other : Int, (0 ≤ one ∧ one < B.length) ∧ (0 ≤ other ∧ other < B.length) ∧ other ≠ one ∧ r = tri B one other := by
  unfold far farOf
  rw [List.mem_flatMap]
  constructor
  · rintro ⟨one, h1, h2⟩
    obtain ⟨other, h3, rfl⟩ := List.mem_map.mp h2
    obtain ⟨h4, h5⟩ := List.mem_filter.mp h3
    exact ⟨one, other, mem_Rn.mp h1, mem_Rn.mp h4, by simpa using h5, rfl⟩
  · rintro ⟨one, other, h1, h2, h3, rfl⟩
    exact ⟨one, mem_Rn.mpr h1, List.mem_map.mpr ⟨other, List.mem_filter.mpr ⟨mem_Rn.mpr h2, by simpa using h3⟩, rfl⟩⟩
theorem get_lo {B : List (Int × Int)} {i : Nat} {p : Int × Int} (h : B[i]? = some p) : aT (loL B) (i : Int) = p.1 ∧ aT (hiL B) (i : Int) = p.2 :=
  ⟨aT_nat (by rw [List.getElem?_map, h]; rfl), aT_nat (by rw [List.getElem?_map, h]; rfl)⟩
theorem far_most {B : List (Int × Int)} {w : Int} (h0 : 0 ≤ w) (hw : w < mst B) : ∃ r ∈ far B, w < hd r := by
  rcases mem_dl.mp (mx_mem (l := dl B) fun z => by cases z) with e | ⟨i, j, p, q, hn, hp, hq, e⟩
  · have : mst B = 0 := e
    omega
  · have il := (List.getElem?_eq_some_iff.mp hp).1
    have jl := (List.getElem?_eq_some_iff.mp hq).1
    refine ⟨tri B (j : Int) (i : Int), mem_far.mpr ⟨_, _, ⟨by omega, by omega⟩, ⟨by omega, by omega⟩, fun z => hn (Int.ofNat_inj.mp z), rfl⟩, ?_⟩
    show w < aT (hiL B) (i : Int) - aT (loL B) (j : Int)
    rw [(get_lo hp).2, (get_lo hq).1]
    have : mst B = p.2 - q.1 := e
    omega
theorem near_wi (B : List (Int × Int)) (h : Ok B) : Wi (near B) B := by
  refine ⟨by unfold near; rw [List.length_map], fun z hz => ?_⟩
  unfold near at hz
  rw [List.zip_map_left] at hz
  obtain ⟨⟨p, q⟩, hp, rfl⟩ := List.mem_map.mp hz
  obtain ⟨i, hi⟩ := List.mem_iff_getElem?.mp hp
  rw [List.getElem?_zip_eq_some] at hi
  have e : p = q := Option.some.inj (hi.1.symm.trans hi.2)
  subst e
  have := h.fine p (List.mem_of_getElem? hi.1)
  show p.1 ≤ min (max (mid B) p.1) p.2 ∧ min (max (mid B) p.1) p.2 ≤ p.2
  omega
theorem near_wide {B : List (Int × Int)} {w : Int} (h : Ok B) (h0 : 0 ≤ w) (hw : lst B ≤ w) : wide (near B) ≤ w := by
  refine (wide_le fun z => h.pos (List.map_eq_nil_iff.mp z)).mpr fun x hx y hy => ?_
  obtain ⟨p, hp, rfl⟩ := List.mem_map.mp hx
  obtain ⟨q, hq, rfl⟩ := List.mem_map.mp hy
  have a1 := mx_le (l := loL B) (List.mem_map.mpr ⟨p, hp, rfl⟩)
  have a2 := mx_le (l := loL B) (List.mem_map.mpr ⟨q, hq, rfl⟩)
  have b1 := mn_le (l := hiL B) (List.mem_map.mpr ⟨p, hp, rfl⟩)
  have b2 := mn_le (l := hiL B) (List.mem_map.mpr ⟨q, hq, rfl⟩)
  change max 0 (mx (loL B) - mn (hiL B)) ≤ w at hw
  show min (max (mid B) p.1) p.2 - min (max (mid B) q.1) q.2 ≤ w
  unfold mid
  omega
theorem row_get {B : List (Int × Int)} {o : Int} {i : Nat} {p : Int × Int} (hp : B[i]? = some p) : (rowO B o)[i]? = some (if ((i : Int) == o) = true then p.2 else p.1) := by
  have il := (List.getElem?_eq_some_iff.mp hp).1
  unfold rowO Rn
  rw [List.getElem?_map, List.getElem?_map, List.getElem?_range il]
  show some (if (((0 : Int) + (i : Nat)) == o) = true then aT (hiL B) ((0 : Int) + (i : Nat)) else aT (loL B) ((0 : Int) + (i : Nat))) = _
  rw [Int.zero_add, (get_lo hp).1, (get_lo hp).2]
theorem row_wi {B : List (Int × Int)} (h : Ok B) (o : Int) : Wi (rowO B o) B := by
  have hl : (rowO B o).length = B.length := by unfold rowO Rn; rw [List.length_map, List.length_map, List.length_range]
  refine ⟨hl, fun z hz => ?_⟩
  obtain ⟨i, hi⟩ := List.mem_iff_getElem?.mp hz
  rw [List.getElem?_zip_eq_some] at hi
  rw [row_get hi.2] at hi
  have f := h.fine z.2 (List.mem_of_getElem? hi.2)
  have e := Option.some.inj hi.1
  rw [← e]
  split <;> omega
theorem row_wide {B : List (Int × Int)} {w one other : Int} (h : Ok B) (h1 : 0 ≤ one ∧ one < B.length) (h2 : 0 ≤ other ∧ other < B.length) (hn : other ≠ one) (hw : w < aT (hiL B) other - aT (loL B) one) : w < wide (rowO B other) := by
  obtain ⟨i, rfl⟩ : ∃ i : Nat, one = (i : Int) := ⟨one.toNat, by omega⟩
  obtain ⟨j, rfl⟩ : ∃ j : Nat, other = (j : Int) := ⟨other.toNat, by omega⟩
  have il : i < B.length := by omega
  have jl : j < B.length := by omega
  have gi := List.getElem?_eq_getElem il
  have gj := List.getElem?_eq_getElem jl
  rw [(get_lo gj).2, (get_lo gi).1] at hw
  have a := row_get (o := (j : Int)) gi
  have b := row_get (o := (j : Int)) gj
  rw [if_neg (by rw [beq_iff_eq]; exact fun z => hn z.symm)] at a
  rw [if_pos (beq_self_eq_true _)] at b
  have m1 := mx_le (List.mem_of_getElem? b)
  have m2 := mn_le (List.mem_of_getElem? a)
  unfold wide
  omega
theorem len_Rn (n : Nat) : (Rn n).length = n := by unfold Rn; rw [List.length_map, List.length_range]
end G56

namespace G56
open PySem Mini
theorem len_enc (B : List (Int × Int)) : (B.map enc).length = B.length := List.length_map _
theorem len_far {B : List (Int × Int)} (h : Ok B) (one : Int) : (farOf B one).length ≤ 20 := by
  unfold farOf
  rw [List.length_map]
  refine Nat.le_trans (List.length_filter_le _ _) ?_
  rw [len_Rn]
  exact h.few
theorem why_open {B : List (Int × Int)} {w : Int} (h : Ok B) (h0 : 0 ≤ w) (h1 : w ≤ 1000) (hw : word B w = sOpen) : ∃ r : List Int, F_why_even_27 [bD B, .int w] = some (.val (.tup [.str sOpen, rD (near B), rD r])) ∧ Wi r B ∧ wide (near B) ≤ w ∧ w < wide r := by
  have hm : w < mst B := Int.lt_of_not_ge fun z => by
    unfold word at hw
    rw [if_pos z] at hw
    exact absurd hw (by decide)
  have hl : lst B ≤ w := Int.not_lt.mp fun z => by
    unfold word at hw
    rw [if_neg (by omega), if_pos z] at hw
    exact absurd hw (by decide)
  have ev := even h h0 h1
  rw [hw] at ev
  have n1 : loL B ≠ [] := fun z => h.pos (List.map_eq_nil_iff.mp z)
  have n2 : hiL B ≠ [] := fun z => h.pos (List.map_eq_nil_iff.mp z)
  have ll : (loL B).length = B.length := List.length_map _
  have lh : (hiL B).length = B.length := List.length_map _
  have few := h.few
  obtain ⟨r0, hr0, hr1⟩ := far_most h0 hm
  obtain ⟨m, em, mm, mb⟩ := max_rows (rs := far B) (fun z => by rw [z] at hr0; cases hr0) fun x hx => by
    obtain ⟨_, _, _, _, _, rfl⟩ := mem_far.mp hx
    exact fun z => by cases z
  obtain ⟨one, other, ho, hp, hn, rfl⟩ := mem_far.mp mm
  have mh : w < aT (hiL B) other - aT (loL B) one := Int.lt_of_lt_of_le hr1 (mb r0 hr0)
  have r1 : rngOk (B.length : Int) = true := by rw [rngOk_def]; exact decide_eq_true (by omega)
  have r2 : le24 (B.length : Int) = true := by rw [le24_def]; exact decide_eq_true (by omega)
  have er : rngL 0 (B.length : Int).toNat = (Rn B.length).map D.int := by rw [Int.toNat_natCast]; exact rng_map 0 B.length
  -- near
  have lcn : e_lc (it_e (e_v 0)) (tg_t [tg_n 13, tg_n 14]) t_yes (e_call o_min (a_cons (e_call o_max (a_cons (e_v 5) (a_cons (e_v 13) a_nil))) (a_cons (e_v 14) a_nil))) [13, 14] [some (bD B), some (.int w), some (.str sOpen), some (.lst ((loL B).map .int)), some (.lst ((hiL B).map .int)), some (.int (mid B)), none, none, none, none, none, none, none, none, none] =
      some (.new (.lst ((near B).map .int)), [some (bD B), some (.int w), some (.str sOpen), some (.lst ((loL B).map .int)), some (.lst ((hiL B).map .int)), some (.int (mid B)), none, none, none, none, none, none, none, none, none]) := by
    refine lcX enc B (fun p => .int (min (max (mid B) p.1) p.2)) (e' := [some (bD B), some (.int w), some (.str sOpen), some (.lst ((loL B).map .int)), some (.lst ((hiL B).map .int)), some (.int (mid B)), none, none, none, none, none, none, none, none, none]) ?_ (by unfold near; rw [List.map_map]; rfl) rfl ?_
    · rfl
    exact fun p hp => ⟨[some (bD B), some (.int w), some (.str sOpen), some (.lst ((loL B).map .int)), some (.lst ((hiL B).map .int)), some (.int (mid B)), none, none, none, none, none, none, none, some (.int p.1), some (.int p.2)], .val (.int (min (max (mid B) p.1) p.2)), [some (bD B), some (.int w), some (.str sOpen), some (.lst ((loL B).map .int)), some (.lst ((hiL B).map .int)), some (.int (mid B)), none, none, none, none, none, none, none, some (.int p.1), some (.int p.2)], rfl, by simp only [fn, fnM, fin, finM, R.res, R.resM, e_v, e_o, e_c, e_un, e_bin, e_chain, e_and, e_or, e_not, e_if, t_v, t_and, t_or, t_not, t_yes, a_nil, a_cons, a_star, e_tup, e_lst, e_tupS, e_lstS, e_call, e_callM, e_meth, e_bm, e_cut, p_no, p_e, tg_n, tg_t, tg_s, s_nil, s_then, s_seq, s_set, s_setO, s_par2, s_par3, pick, s_tgt, s_ex, s_ret, s_retN, s_if, s_setix, it_e, it_r1, it_r2, it_enum, it_zip, e_lstR, e_tupR, R.at, R.st, R.ats, R.sts, R.atx, R.atxs, R.new?, R.bl?, R.seq?, D.seq?, D.int?, D.bl?, D.str?, D.tup?, D.lst?, D.ty?, En.g, En.p, En.wipe, En.back, Option.bind_some, Option.bind_none, List.length_cons, List.length_nil, List.map_cons, List.map_nil, List.replicate, List.cons_append, List.nil_append, List.set_cons_zero, List.set_cons_succ, List.getElem?_cons_zero, List.getElem?_cons_succ, List.getElem?_nil, Option.join_some, Option.join_none, Nat.reduceAdd, Nat.reduceSub, reduceIte, if_true, if_false, Bool.false_eq_true, D.flat, D.flats, flatIn_l, Bool.and_true, Bool.true_and, Bool.and_self, ix_t0, ix_t1, ix_t2, ix_l0, ix_l1, ix_l2, len_t, len_l, tup_l, add_i, max_2, min_2, sub_i, lt_i, le_i, gt_i, ge_i, neg_i, ne_i, eq_i, ne_s, eq_s, ne_b, eq_b, int_i, int_b, abs_i], rfl, rfl⟩
  obtain ⟨e', f1, x8, f2⟩ := for_pre D.int (g := tg_n 8) (b := s_ex (e_meth m_extend 7 (a_cons (e_lc (it_r1 (e_call o_len (a_cons (e_v 0) a_nil))) (tg_n 10) (t_v (e_bin o_ne (e_v 10) (e_v 8))) (e_tup (a_cons (e_bin o_sub (e_bin o_ix (e_v 4) (e_v 10)) (e_bin o_ix (e_v 3) (e_v 8))) (a_cons (e_v 8) (a_cons (e_v 10) a_nil)))) [10]) a_nil)))
    (fun done e => ∃ x8, e = [some (bD B), some (.int w), some (.str sOpen), some (.lst ((loL B).map .int)), some (.lst ((hiL B).map .int)), some (.int (mid B)), some (rD (near B)), some (.lst ((done.flatMap (farOf B)).map rowD)), x8, none, none, none, none, none, none]) (Rn B.length)
    [some (bD B), some (.int w), some (.str sOpen), some (.lst ((loL B).map .int)), some (.lst ((hiL B).map .int)), some (.int (mid B)), some (rD (near B)), some (.lst []), none, none, none, none, none, none, none] ⟨none, rfl⟩ (fun done i rest e hf hi => by
      obtain ⟨x8, rfl⟩ := hi
      have hi : 0 ≤ i ∧ i < B.length := mem_Rn.mp (by rw [hf]; exact List.mem_append_right _ List.mem_cons_self)
      have hd : done.length < 20 := by
        have := congrArg List.length hf
        rw [len_Rn, List.length_append, List.length_cons] at this
        omega
      refine ⟨[some (bD B), some (.int w), some (.str sOpen), some (.lst ((loL B).map .int)), some (.lst ((hiL B).map .int)), some (.int (mid B)), some (rD (near B)), some (.lst ((done.flatMap (farOf B)).map rowD)), some (.int i), none, none, none, none, none, none],
        [some (bD B), some (.int w), some (.str sOpen), some (.lst ((loL B).map .int)), some (.lst ((hiL B).map .int)), some (.int (mid B)), some (rD (near B)), some (.lst (((done ++ [i]).flatMap (farOf B)).map rowD)), some (.int i), none, none, none, none, none, none], rfl, .inl ?_, _, rfl⟩
      have lc : ∀ acc : D, e_lc (it_r1 (e_call o_len (a_cons (e_v 0) a_nil))) (tg_n 10) (t_v (e_bin o_ne (e_v 10) (e_v 8))) (e_tup (a_cons (e_bin o_sub (e_bin o_ix (e_v 4) (e_v 10)) (e_bin o_ix (e_v 3) (e_v 8))) (a_cons (e_v 8) (a_cons (e_v 10) a_nil)))) [10] [some (bD B), some (.int w), some (.str sOpen), some (.lst ((loL B).map .int)), some (.lst ((hiL B).map .int)), some (.int (mid B)), some (rD (near B)), some acc, some (.int i), none, none, none, none, none, none] =
          some (.new (.lst ((farOf B i).map rowD)), [some (bD B), some (.int w), some (.str sOpen), some (.lst ((loL B).map .int)), some (.lst ((hiL B).map .int)), some (.int (mid B)), some (rD (near B)), some acc, some (.int i), none, none, none, none, none, none]) := fun acc => by
        refine lcY D.int (Rn B.length) (fun o => !(o == i)) (fun o => rowD (tri B i o)) (e' := [some (bD B), some (.int w), some (.str sOpen), some (.lst ((loL B).map .int)), some (.lst ((hiL B).map .int)), some (.int (mid B)), some (rD (near B)), some acc, some (.int i), none, none, none, none, none, none]) ?_ (by unfold farOf; rw [List.map_map]; rfl) rfl ?_
        · simp only [fn, fnM, fin, finM, R.res, R.resM, e_v, e_o, e_c, e_un, e_bin, e_chain, e_and, e_or, e_not, e_if, t_v, t_and, t_or, t_not, t_yes, a_nil, a_cons, a_star, e_tup, e_lst, e_tupS, e_lstS, e_call, e_callM, e_meth, e_bm, e_cut, p_no, p_e, tg_n, tg_t, tg_s, s_nil, s_then, s_seq, s_set, s_setO, s_par2, s_par3, pick, s_tgt, s_ex, s_ret, s_retN, s_if, s_setix, it_e, it_r1, it_r2, it_enum, it_zip, e_lstR, e_tupR, R.at, R.st, R.ats, R.sts, R.atx, R.atxs, R.new?, R.bl?, R.seq?, D.seq?, D.int?, D.bl?, D.str?, D.tup?, D.lst?, D.ty?, En.g, En.p, En.wipe, En.back, Option.bind_some, Option.bind_none, List.length_cons, List.length_nil, List.map_cons, List.map_nil, List.replicate, List.cons_append, List.nil_append, List.set_cons_zero, List.set_cons_succ, List.getElem?_cons_zero, List.getElem?_cons_succ, List.getElem?_nil, Option.join_some, Option.join_none, Nat.reduceAdd, Nat.reduceSub, reduceIte, if_true, if_false, Bool.false_eq_true, D.flat, D.flats, flatIn_l, Bool.and_true, Bool.true_and, Bool.and_self, ix_t0, ix_t1, ix_t2, ix_l0, ix_l1, ix_l2, len_t, len_l, tup_l, add_i, max_2, min_2, sub_i, lt_i, le_i, gt_i, ge_i, neg_i, ne_i, eq_i, ne_s, eq_s, ne_b, eq_b, int_i, int_b, abs_i, len_enc, r1, r2, and_self, er]
        intro o ho
        have ho := mem_Rn.mp ho
        refine ⟨[some (bD B), some (.int w), some (.str sOpen), some (.lst ((loL B).map .int)), some (.lst ((hiL B).map .int)), some (.int (mid B)), some (rD (near B)), some acc, some (.int i), none, some (.int o), none, none, none, none], [some (bD B), some (.int w), some (.str sOpen), some (.lst ((loL B).map .int)), some (.lst ((hiL B).map .int)), some (.int (mid B)), some (rD (near B)), some acc, some (.int i), none, some (.int o), none, none, none, none], rfl, rfl,
          fun _ => ⟨.val (rowD (tri B i o)), [some (bD B), some (.int w), some (.str sOpen), some (.lst ((loL B).map .int)), some (.lst ((hiL B).map .int)), some (.int (mid B)), some (rD (near B)), some acc, some (.int i), none, some (.int o), none, none, none, none], ?_, rfl, rfl⟩, fun _ => rfl⟩
        simp only [fn, fnM, fin, finM, R.res, R.resM, e_v, e_o, e_c, e_un, e_bin, e_chain, e_and, e_or, e_not, e_if, t_v, t_and, t_or, t_not, t_yes, a_nil, a_cons, a_star, e_tup, e_lst, e_tupS, e_lstS, e_call, e_callM, e_meth, e_bm, e_cut, p_no, p_e, tg_n, tg_t, tg_s, s_nil, s_then, s_seq, s_set, s_setO, s_par2, s_par3, pick, s_tgt, s_ex, s_ret, s_retN, s_if, s_setix, it_e, it_r1, it_r2, it_enum, it_zip, e_lstR, e_tupR, R.at, R.st, R.ats, R.sts, R.atx, R.atxs, R.new?, R.bl?, R.seq?, D.seq?, D.int?, D.bl?, D.str?, D.tup?, D.lst?, D.ty?, En.g, En.p, En.wipe, En.back, Option.bind_some, Option.bind_none, List.length_cons, List.length_nil, List.map_cons, List.map_nil, List.replicate, List.cons_append, List.nil_append, List.set_cons_zero, List.set_cons_succ, List.getElem?_cons_zero, List.getElem?_cons_succ, List.getElem?_nil, Option.join_some, Option.join_none, Nat.reduceAdd, Nat.reduceSub, reduceIte, if_true, if_false, Bool.false_eq_true, D.flat, D.flats, flatIn_l, Bool.and_true, Bool.true_and, Bool.and_self, ix_t0, ix_t1, ix_t2, ix_l0, ix_l1, ix_l2, len_t, len_l, tup_l, add_i, max_2, min_2, sub_i, lt_i, le_i, gt_i, ge_i, neg_i, ne_i, eq_i, ne_s, eq_s, ne_b, eq_b, int_i, int_b, abs_i, ixl_at (l := hiL B) ho.1 (by rw [lh]; exact ho.2), ixl_at (l := loL B) hi.1 (by rw [ll]; exact hi.2)]
        rfl
      have hz : ((done.flatMap (farOf B)).map rowD).length + ((farOf B i).map rowD).length ≤ SZ := by
        have l1 := len_flat (l := done) (c := 20) (f := farOf B) fun a _ => len_far h a
        have l2 := len_far h i
        rw [List.length_map, List.length_map, sz_val]
        have : done.length * 20 ≤ 20 * 20 := Nat.mul_le_mul (by omega) (Nat.le_refl _)
        omega
      simp only [s_ex, e_meth, a_cons, a_nil, En.g, D.lst?, lc, m_extend, List.getElem?_cons_zero, List.getElem?_cons_succ, Option.join_some, Option.bind_some, R.sts, R.st]
      rw [if_pos hz]
      simp only [fn, fnM, fin, finM, R.res, R.resM, e_v, e_o, e_c, e_un, e_bin, e_chain, e_and, e_or, e_not, e_if, t_v, t_and, t_or, t_not, t_yes, a_nil, a_cons, a_star, e_tup, e_lst, e_tupS, e_lstS, e_call, e_callM, e_meth, e_bm, e_cut, p_no, p_e, tg_n, tg_t, tg_s, s_nil, s_then, s_seq, s_set, s_setO, s_par2, s_par3, pick, s_tgt, s_ex, s_ret, s_retN, s_if, s_setix, it_e, it_r1, it_r2, it_enum, it_zip, e_lstR, e_tupR, R.at, R.st, R.ats, R.sts, R.atx, R.atxs, R.new?, R.bl?, R.seq?, D.seq?, D.int?, D.bl?, D.str?, D.tup?, D.lst?, D.ty?, En.g, En.p, En.wipe, En.back, Option.bind_some, Option.bind_none, List.length_cons, List.length_nil, List.map_cons, List.map_nil, List.replicate, List.cons_append, List.nil_append, List.set_cons_zero, List.set_cons_succ, List.getElem?_cons_zero, List.getElem?_cons_succ, List.getElem?_nil, Option.join_some, Option.join_none, Nat.reduceAdd, Nat.reduceSub, reduceIte, if_true, if_false, Bool.false_eq_true, D.flat, D.flats, flatIn_l, Bool.and_true, Bool.true_and, Bool.and_self, ix_t0, ix_t1, ix_t2, ix_l0, ix_l1, ix_l2, len_t, len_l, tup_l, add_i, max_2, min_2, sub_i, lt_i, le_i, gt_i, ge_i, neg_i, ne_i, eq_i, ne_s, eq_s, ne_b, eq_b, int_i, int_b, abs_i, List.flatMap_append, List.flatMap_cons, List.flatMap_nil, List.append_nil, List.map_append])
  subst f2
  have lcr : ∀ x1 x2 : D, e_lc (it_r1 (e_call o_len (a_cons (e_v 0) a_nil))) (tg_n 12) t_yes (e_if (t_v (e_bin o_eq (e_v 12) (e_v 10))) (e_bin o_ix (e_v 4) (e_v 12)) (e_bin o_ix (e_v 3) (e_v 12))) [12] [some (bD B), some (.int w), some (.str sOpen), some (.lst ((loL B).map .int)), some (.lst ((hiL B).map .int)), some (.int (mid B)), some (rD (near B)), some x1, some (.int one), some x2, some (.int other), none, none, none, none] =
      some (.new (.lst ((rowO B other).map .int)), [some (bD B), some (.int w), some (.str sOpen), some (.lst ((loL B).map .int)), some (.lst ((hiL B).map .int)), some (.int (mid B)), some (rD (near B)), some x1, some (.int one), some x2, some (.int other), none, none, none, none]) := fun x1 x2 => by
    refine lcX D.int (Rn B.length) (fun i => .int (if (i == other) = true then aT (hiL B) i else aT (loL B) i)) (e' := [some (bD B), some (.int w), some (.str sOpen), some (.lst ((loL B).map .int)), some (.lst ((hiL B).map .int)), some (.int (mid B)), some (rD (near B)), some x1, some (.int one), some x2, some (.int other), none, none, none, none]) ?_ (by unfold rowO; rw [List.map_map]; rfl) rfl ?_
    · simp only [fn, fnM, fin, finM, R.res, R.resM, e_v, e_o, e_c, e_un, e_bin, e_chain, e_and, e_or, e_not, e_if, t_v, t_and, t_or, t_not, t_yes, a_nil, a_cons, a_star, e_tup, e_lst, e_tupS, e_lstS, e_call, e_callM, e_meth, e_bm, e_cut, p_no, p_e, tg_n, tg_t, tg_s, s_nil, s_then, s_seq, s_set, s_setO, s_par2, s_par3, pick, s_tgt, s_ex, s_ret, s_retN, s_if, s_setix, it_e, it_r1, it_r2, it_enum, it_zip, e_lstR, e_tupR, R.at, R.st, R.ats, R.sts, R.atx, R.atxs, R.new?, R.bl?, R.seq?, D.seq?, D.int?, D.bl?, D.str?, D.tup?, D.lst?, D.ty?, En.g, En.p, En.wipe, En.back, Option.bind_some, Option.bind_none, List.length_cons, List.length_nil, List.map_cons, List.map_nil, List.replicate, List.cons_append, List.nil_append, List.set_cons_zero, List.set_cons_succ, List.getElem?_cons_zero, List.getElem?_cons_succ, List.getElem?_nil, Option.join_some, Option.join_none, Nat.reduceAdd, Nat.reduceSub, reduceIte, if_true, if_false, Bool.false_eq_true, D.flat, D.flats, flatIn_l, Bool.and_true, Bool.true_and, Bool.and_self, ix_t0, ix_t1, ix_t2, ix_l0, ix_l1, ix_l2, len_t, len_l, tup_l, add_i, max_2, min_2, sub_i, lt_i, le_i, gt_i, ge_i, neg_i, ne_i, eq_i, ne_s, eq_s, ne_b, eq_b, int_i, int_b, abs_i, len_enc, r1, r2, and_self, er]
    intro i hi
    have hi := mem_Rn.mp hi
    refine ⟨[some (bD B), some (.int w), some (.str sOpen), some (.lst ((loL B).map .int)), some (.lst ((hiL B).map .int)), some (.int (mid B)), some (rD (near B)), some x1, some (.int one), some x2, some (.int other), none, some (.int i), none, none], .val (.int (if (i == other) = true then aT (hiL B) i else aT (loL B) i)), [some (bD B), some (.int w), some (.str sOpen), some (.lst ((loL B).map .int)), some (.lst ((hiL B).map .int)), some (.int (mid B)), some (rD (near B)), some x1, some (.int one), some x2, some (.int other), none, some (.int i), none, none], rfl, ?_, rfl, rfl⟩
    simp only [fn, fnM, fin, finM, R.res, R.resM, e_v, e_o, e_c, e_un, e_bin, e_chain, e_and, e_or, e_not, e_if, t_v, t_and, t_or, t_not, t_yes, a_nil, a_cons, a_star, e_tup, e_lst, e_tupS, e_lstS, e_call, e_callM, e_meth, e_bm, e_cut, p_no, p_e, tg_n, tg_t, tg_s, s_nil, s_then, s_seq, s_set, s_setO, s_par2, s_par3, pick, s_tgt, s_ex, s_ret, s_retN, s_if, s_setix, it_e, it_r1, it_r2, it_enum, it_zip, e_lstR, e_tupR, R.at, R.st, R.ats, R.sts, R.atx, R.atxs, R.new?, R.bl?, R.seq?, D.seq?, D.int?, D.bl?, D.str?, D.tup?, D.lst?, D.ty?, En.g, En.p, En.wipe, En.back, Option.bind_some, Option.bind_none, List.length_cons, List.length_nil, List.map_cons, List.map_nil, List.replicate, List.cons_append, List.nil_append, List.set_cons_zero, List.set_cons_succ, List.getElem?_cons_zero, List.getElem?_cons_succ, List.getElem?_nil, Option.join_some, Option.join_none, Nat.reduceAdd, Nat.reduceSub, reduceIte, if_true, if_false, Bool.false_eq_true, D.flat, D.flats, flatIn_l, Bool.and_true, Bool.true_and, Bool.and_self, ix_t0, ix_t1, ix_t2, ix_l0, ix_l1, ix_l2, len_t, len_l, tup_l, add_i, max_2, min_2, sub_i, lt_i, le_i, gt_i, ge_i, neg_i, ne_i, eq_i, ne_s, eq_s, ne_b, eq_b, int_i, int_b, abs_i, ixl_at (l := hiL B) hi.1 (by rw [lh]; exact hi.2), ixl_at (l := loL B) hi.1 (by rw [ll]; exact hi.2)]
    cases (i == other) <;> simp only [fn, fnM, fin, finM, R.res, R.resM, e_v, e_o, e_c, e_un, e_bin, e_chain, e_and, e_or, e_not, e_if, t_v, t_and, t_or, t_not, t_yes, a_nil, a_cons, a_star, e_tup, e_lst, e_tupS, e_lstS, e_call, e_callM, e_meth, e_bm, e_cut, p_no, p_e, tg_n, tg_t, tg_s, s_nil, s_then, s_seq, s_set, s_setO, s_par2, s_par3, pick, s_tgt, s_ex, s_ret, s_retN, s_if, s_setix, it_e, it_r1, it_r2, it_enum, it_zip, e_lstR, e_tupR, R.at, R.st, R.ats, R.sts, R.atx, R.atxs, R.new?, R.bl?, R.seq?, D.seq?, D.int?, D.bl?, D.str?, D.tup?, D.lst?, D.ty?, En.g, En.p, En.wipe, En.back, Option.bind_some, Option.bind_none, List.length_cons, List.length_nil, List.map_cons, List.map_nil, List.replicate, List.cons_append, List.nil_append, List.set_cons_zero, List.set_cons_succ, List.getElem?_cons_zero, List.getElem?_cons_succ, List.getElem?_nil, Option.join_some, Option.join_none, Nat.reduceAdd, Nat.reduceSub, reduceIte, if_true, if_false, Bool.false_eq_true, D.flat, D.flats, flatIn_l, Bool.and_true, Bool.true_and, Bool.and_self, ix_t0, ix_t1, ix_t2, ix_l0, ix_l1, ix_l2, len_t, len_l, tup_l, add_i, max_2, min_2, sub_i, lt_i, le_i, gt_i, ge_i, neg_i, ne_i, eq_i, ne_s, eq_s, ne_b, eq_b, int_i, int_b, abs_i]
  have s3' : (sOpen == sSure) = false := s3
  have s2' : (sOpen == sNever) = false := s2
  refine ⟨rowO B other, ?_, row_wi h other, near_wide h h0 hl, row_wide h ho hp hn mh⟩
  have fe : (Rn B.length).flatMap (farOf B) = far B := rfl
  by_cases z : mn (hiL B) ≤ mx (loL B)
  · have hm' : mx (loL B) = mid B := by unfold mid; rw [Int.max_eq_left z]
    have z' : decide (mn (hiL B) ≤ mid B) = true := by rw [← hm']; exact decide_eq_true z
    simp only [F_why_even_27, B_why_even_27, fn, fnM, fin, finM, R.res, R.resM, e_v, e_o, e_c, e_un, e_bin, e_chain, e_and, e_or, e_not, e_if, t_v, t_and, t_or, t_not, t_yes, a_nil, a_cons, a_star, e_tup, e_lst, e_tupS, e_lstS, e_call, e_callM, e_meth, e_bm, e_cut, p_no, p_e, tg_n, tg_t, tg_s, s_nil, s_then, s_seq, s_set, s_setO, s_par2, s_par3, pick, s_tgt, s_ex, s_ret, s_retN, s_if, s_setix, it_e, it_r1, it_r2, it_enum, it_zip, e_lstR, e_tupR, R.at, R.st, R.ats, R.sts, R.atx, R.atxs, R.new?, R.bl?, R.seq?, D.seq?, D.int?, D.bl?, D.str?, D.tup?, D.lst?, D.ty?, En.g, En.p, En.wipe, En.back, Option.bind_some, Option.bind_none, List.length_cons, List.length_nil, List.map_cons, List.map_nil, List.replicate, List.cons_append, List.nil_append, List.set_cons_zero, List.set_cons_succ, List.getElem?_cons_zero, List.getElem?_cons_succ, List.getElem?_nil, Option.join_some, Option.join_none, Nat.reduceAdd, Nat.reduceSub, reduceIte, if_true, if_false, Bool.false_eq_true, D.flat, D.flats, flatIn_l, Bool.and_true, Bool.true_and, Bool.and_self, ix_t0, ix_t1, ix_t2, ix_l0, ix_l1, ix_l2, len_t, len_l, tup_l, add_i, max_2, min_2, sub_i, lt_i, le_i, gt_i, ge_i, neg_i, ne_i, eq_i, ne_s, eq_s, ne_b, eq_b, int_i, int_b, abs_i, ev, s3', s2', lcl, lch, max_l n1, min_l n2, hm', z', lcn, s_for, len_enc, r1, r2, and_self, er]
    rw [f1, fe]
    simp only [fn, fnM, fin, finM, R.res, R.resM, e_v, e_o, e_c, e_un, e_bin, e_chain, e_and, e_or, e_not, e_if, t_v, t_and, t_or, t_not, t_yes, a_nil, a_cons, a_star, e_tup, e_lst, e_tupS, e_lstS, e_call, e_callM, e_meth, e_bm, e_cut, p_no, p_e, tg_n, tg_t, tg_s, s_nil, s_then, s_seq, s_set, s_setO, s_par2, s_par3, pick, s_tgt, s_ex, s_ret, s_retN, s_if, s_setix, it_e, it_r1, it_r2, it_enum, it_zip, e_lstR, e_tupR, R.at, R.st, R.ats, R.sts, R.atx, R.atxs, R.new?, R.bl?, R.seq?, D.seq?, D.int?, D.bl?, D.str?, D.tup?, D.lst?, D.ty?, En.g, En.p, En.wipe, En.back, Option.bind_some, Option.bind_none, List.length_cons, List.length_nil, List.map_cons, List.map_nil, List.replicate, List.cons_append, List.nil_append, List.set_cons_zero, List.set_cons_succ, List.getElem?_cons_zero, List.getElem?_cons_succ, List.getElem?_nil, Option.join_some, Option.join_none, Nat.reduceAdd, Nat.reduceSub, reduceIte, if_true, if_false, Bool.false_eq_true, D.flat, D.flats, flatIn_l, Bool.and_true, Bool.true_and, Bool.and_self, ix_t0, ix_t1, ix_t2, ix_l0, ix_l1, ix_l2, len_t, len_l, tup_l, add_i, max_2, min_2, sub_i, lt_i, le_i, gt_i, ge_i, neg_i, ne_i, eq_i, ne_s, eq_s, ne_b, eq_b, int_i, int_b, abs_i, em, lcr, flats_ints]
  · have hm' : mn (hiL B) = mid B := by unfold mid; rw [Int.max_eq_right (by omega)]
    have z' : decide (mid B ≤ mx (loL B)) = false := by rw [← hm']; exact decide_eq_false z
    simp only [F_why_even_27, B_why_even_27, fn, fnM, fin, finM, R.res, R.resM, e_v, e_o, e_c, e_un, e_bin, e_chain, e_and, e_or, e_not, e_if, t_v, t_and, t_or, t_not, t_yes, a_nil, a_cons, a_star, e_tup, e_lst, e_tupS, e_lstS, e_call, e_callM, e_meth, e_bm, e_cut, p_no, p_e, tg_n, tg_t, tg_s, s_nil, s_then, s_seq, s_set, s_setO, s_par2, s_par3, pick, s_tgt, s_ex, s_ret, s_retN, s_if, s_setix, it_e, it_r1, it_r2, it_enum, it_zip, e_lstR, e_tupR, R.at, R.st, R.ats, R.sts, R.atx, R.atxs, R.new?, R.bl?, R.seq?, D.seq?, D.int?, D.bl?, D.str?, D.tup?, D.lst?, D.ty?, En.g, En.p, En.wipe, En.back, Option.bind_some, Option.bind_none, List.length_cons, List.length_nil, List.map_cons, List.map_nil, List.replicate, List.cons_append, List.nil_append, List.set_cons_zero, List.set_cons_succ, List.getElem?_cons_zero, List.getElem?_cons_succ, List.getElem?_nil, Option.join_some, Option.join_none, Nat.reduceAdd, Nat.reduceSub, reduceIte, if_true, if_false, Bool.false_eq_true, D.flat, D.flats, flatIn_l, Bool.and_true, Bool.true_and, Bool.and_self, ix_t0, ix_t1, ix_t2, ix_l0, ix_l1, ix_l2, len_t, len_l, tup_l, add_i, max_2, min_2, sub_i, lt_i, le_i, gt_i, ge_i, neg_i, ne_i, eq_i, ne_s, eq_s, ne_b, eq_b, int_i, int_b, abs_i, ev, s3', s2', lcl, lch, max_l n1, min_l n2, hm', z', lcn, s_for, len_enc, r1, r2, and_self, er]
    rw [f1, fe]
    simp only [fn, fnM, fin, finM, R.res, R.resM, e_v, e_o, e_c, e_un, e_bin, e_chain, e_and, e_or, e_not, e_if, t_v, t_and, t_or, t_not, t_yes, a_nil, a_cons, a_star, e_tup, e_lst, e_tupS, e_lstS, e_call, e_callM, e_meth, e_bm, e_cut, p_no, p_e, tg_n, tg_t, tg_s, s_nil, s_then, s_seq, s_set, s_setO, s_par2, s_par3, pick, s_tgt, s_ex, s_ret, s_retN, s_if, s_setix, it_e, it_r1, it_r2, it_enum, it_zip, e_lstR, e_tupR, R.at, R.st, R.ats, R.sts, R.atx, R.atxs, R.new?, R.bl?, R.seq?, D.seq?, D.int?, D.bl?, D.str?, D.tup?, D.lst?, D.ty?, En.g, En.p, En.wipe, En.back, Option.bind_some, Option.bind_none, List.length_cons, List.length_nil, List.map_cons, List.map_nil, List.replicate, List.cons_append, List.nil_append, List.set_cons_zero, List.set_cons_succ, List.getElem?_cons_zero, List.getElem?_cons_succ, List.getElem?_nil, Option.join_some, Option.join_none, Nat.reduceAdd, Nat.reduceSub, reduceIte, if_true, if_false, Bool.false_eq_true, D.flat, D.flats, flatIn_l, Bool.and_true, Bool.true_and, Bool.and_self, ix_t0, ix_t1, ix_t2, ix_l0, ix_l1, ix_l2, len_t, len_l, tup_l, add_i, max_2, min_2, sub_i, lt_i, le_i, gt_i, ge_i, neg_i, ne_i, eq_i, ne_s, eq_s, ne_b, eq_b, int_i, int_b, abs_i, em, lcr, flats_ints]
end G56

/-! ## V56 -/
namespace G56
open PySem Mini
def fineL (B : List (Int × Int)) (a : Int) : List Int := B.map fun p => max p.1 a
def wildL (B : List (Int × Int)) (b : Int) : List Int := B.map fun p => if decide (b < p.2) = true then p.2 else p.1
theorem verd_open {B : List (Int × Int)} {a b : Int} (h : verd B a b = sOpen) : (∀ p ∈ B, a ≤ p.2 ∧ p.1 ≤ b) ∧ ∃ p ∈ B, ¬ (a ≤ p.1 ∧ p.2 ≤ b) := by
  unfold verd at h
  split at h
  · exact absurd h (by decide)
  · rename_i h1
    split at h
    · exact absurd h (by decide)
    · rename_i h2
      refine ⟨fun p hp => ?_, ?_⟩
      · have q : ¬ ((decide (p.2 < a) || decide (b < p.1)) = true) := fun z => h1 (List.any_eq_true.mpr ⟨p, hp, z⟩)
        simp only [Bool.or_eq_true, decide_eq_true_eq] at q
        omega
      · refine Classical.byContradiction fun z => h2 (List.all_eq_true.mpr fun p hp => ?_)
        have : a ≤ p.1 ∧ p.2 ≤ b := Classical.byContradiction fun y => z ⟨p, hp, y⟩
        simpa using this
theorem map_wi {B : List (Int × Int)} {f : Int × Int → Int} (hf : ∀ p ∈ B, p.1 ≤ f p ∧ f p ≤ p.2) : Wi (B.map f) B := by
  refine ⟨List.length_map _, fun z hz => ?_⟩
  rw [List.zip_map_left] at hz
  obtain ⟨⟨p, q⟩, hp, rfl⟩ := List.mem_map.mp hz
  obtain ⟨i, hi⟩ := List.mem_iff_getElem?.mp hp
  rw [List.getElem?_zip_eq_some] at hi
  have e : p = q := Option.some.inj (hi.1.symm.trans hi.2)
  subst e
  exact hf p (List.mem_of_getElem? hi.1)
theorem paper_open {B : List (Int × Int)} {a b : Int} (h : Ok B) (h0 : 0 ≤ a) (h1 : a ≤ b) (h2 : b ≤ 1000) (hv : verd B a b = sOpen) : F_even_paper_73 [bD B, .tup [.int a, .int b]] = some (.val (.tup [.str sOpen, rD (fineL B a), rD (wildL B b)])) := by
  have ev := even_sure h h0 h1 h2
  rw [hv] at ev
  have s3' : (sOpen == sSure) = false := s3
  have s2' : (sOpen == sNever) = false := s2
  have lc1 : e_lc (it_e (e_v 0)) (tg_t [tg_n 5, tg_n 6]) t_yes (e_call o_max (a_cons (e_v 5) (a_cons (e_bin o_ix (e_v 1) (e_c (.int 0))) a_nil))) [5, 6] [some (bD B), some (.tup [.int a, .int b]), some (.str sOpen), none, none, none, none, none] = some (.new (.lst ((fineL B a).map .int)), [some (bD B), some (.tup [.int a, .int b]), some (.str sOpen), none, none, none, none, none]) := by
    refine lcX enc B (fun p => .int (max p.1 a)) (e' := [some (bD B), some (.tup [.int a, .int b]), some (.str sOpen), none, none, none, none, none]) ?_ (by unfold fineL; rw [List.map_map]; rfl) rfl ?_
    · rfl
    exact fun p hp => ⟨[some (bD B), some (.tup [.int a, .int b]), some (.str sOpen), none, none, some (.int p.1), some (.int p.2), none], .val (.int (max p.1 a)), [some (bD B), some (.tup [.int a, .int b]), some (.str sOpen), none, none, some (.int p.1), some (.int p.2), none], rfl, by simp only [fn, fnM, fin, finM, R.res, R.resM, e_v, e_o, e_c, e_un, e_bin, e_chain, e_and, e_or, e_not, e_if, t_v, t_and, t_or, t_not, t_yes, a_nil, a_cons, a_star, e_tup, e_lst, e_tupS, e_lstS, e_call, e_callM, e_meth, e_bm, e_cut, p_no, p_e, tg_n, tg_t, tg_s, s_nil, s_then, s_seq, s_set, s_setO, s_par2, s_par3, pick, s_tgt, s_ex, s_ret, s_retN, s_if, s_setix, it_e, it_r1, it_r2, it_enum, it_zip, e_lstR, e_tupR, R.at, R.st, R.ats, R.sts, R.atx, R.atxs, R.new?, R.bl?, R.seq?, D.seq?, D.int?, D.bl?, D.str?, D.tup?, D.lst?, D.ty?, En.g, En.p, En.wipe, En.back, Option.bind_some, Option.bind_none, List.length_cons, List.length_nil, List.map_cons, List.map_nil, List.replicate, List.cons_append, List.nil_append, List.set_cons_zero, List.set_cons_succ, List.getElem?_cons_zero, List.getElem?_cons_succ, List.getElem?_nil, Option.join_some, Option.join_none, Nat.reduceAdd, Nat.reduceSub, reduceIte, if_true, if_false, Bool.false_eq_true, D.flat, D.flats, flatIn_l, Bool.and_true, Bool.true_and, Bool.and_self, ix_t0, ix_t1, ix_t2, ix_l0, ix_l1, ix_l2, len_t, len_l, tup_l, add_i, max_2, min_2, sub_i, lt_i, le_i, gt_i, ge_i, neg_i, ne_i, eq_i, ne_s, eq_s, ne_b, eq_b, int_i, int_b, abs_i], rfl, rfl⟩
  have lc2 : ∀ x : D, e_lc (it_e (e_v 0)) (tg_t [tg_n 5, tg_n 6]) t_yes (e_if (t_v (e_bin o_gt (e_v 6) (e_bin o_ix (e_v 1) (e_c (.int 1))))) (e_v 6) (e_v 5)) [5, 6] [some (bD B), some (.tup [.int a, .int b]), some (.str sOpen), some x, none, none, none, none] = some (.new (.lst ((wildL B b).map .int)), [some (bD B), some (.tup [.int a, .int b]), some (.str sOpen), some x, none, none, none, none]) := fun x => by
    refine lcX enc B (fun p => .int (if decide (b < p.2) = true then p.2 else p.1)) (e' := [some (bD B), some (.tup [.int a, .int b]), some (.str sOpen), some x, none, none, none, none]) ?_ (by unfold wildL; rw [List.map_map]; rfl) rfl ?_
    · rfl
    exact fun p hp => ⟨[some (bD B), some (.tup [.int a, .int b]), some (.str sOpen), some x, none, some (.int p.1), some (.int p.2), none], .val (.int (if decide (b < p.2) = true then p.2 else p.1)), [some (bD B), some (.tup [.int a, .int b]), some (.str sOpen), some x, none, some (.int p.1), some (.int p.2), none], rfl, by
      simp only [fn, fnM, fin, finM, R.res, R.resM, e_v, e_o, e_c, e_un, e_bin, e_chain, e_and, e_or, e_not, e_if, t_v, t_and, t_or, t_not, t_yes, a_nil, a_cons, a_star, e_tup, e_lst, e_tupS, e_lstS, e_call, e_callM, e_meth, e_bm, e_cut, p_no, p_e, tg_n, tg_t, tg_s, s_nil, s_then, s_seq, s_set, s_setO, s_par2, s_par3, pick, s_tgt, s_ex, s_ret, s_retN, s_if, s_setix, it_e, it_r1, it_r2, it_enum, it_zip, e_lstR, e_tupR, R.at, R.st, R.ats, R.sts, R.atx, R.atxs, R.new?, R.bl?, R.seq?, D.seq?, D.int?, D.bl?, D.str?, D.tup?, D.lst?, D.ty?, En.g, En.p, En.wipe, En.back, Option.bind_some, Option.bind_none, List.length_cons, List.length_nil, List.map_cons, List.map_nil, List.replicate, List.cons_append, List.nil_append, List.set_cons_zero, List.set_cons_succ, List.getElem?_cons_zero, List.getElem?_cons_succ, List.getElem?_nil, Option.join_some, Option.join_none, Nat.reduceAdd, Nat.reduceSub, reduceIte, if_true, if_false, Bool.false_eq_true, D.flat, D.flats, flatIn_l, Bool.and_true, Bool.true_and, Bool.and_self, ix_t0, ix_t1, ix_t2, ix_l0, ix_l1, ix_l2, len_t, len_l, tup_l, add_i, max_2, min_2, sub_i, lt_i, le_i, gt_i, ge_i, neg_i, ne_i, eq_i, ne_s, eq_s, ne_b, eq_b, int_i, int_b, abs_i]
      cases decide (b < p.2) <;> simp only [fn, fnM, fin, finM, R.res, R.resM, e_v, e_o, e_c, e_un, e_bin, e_chain, e_and, e_or, e_not, e_if, t_v, t_and, t_or, t_not, t_yes, a_nil, a_cons, a_star, e_tup, e_lst, e_tupS, e_lstS, e_call, e_callM, e_meth, e_bm, e_cut, p_no, p_e, tg_n, tg_t, tg_s, s_nil, s_then, s_seq, s_set, s_setO, s_par2, s_par3, pick, s_tgt, s_ex, s_ret, s_retN, s_if, s_setix, it_e, it_r1, it_r2, it_enum, it_zip, e_lstR, e_tupR, R.at, R.st, R.ats, R.sts, R.atx, R.atxs, R.new?, R.bl?, R.seq?, D.seq?, D.int?, D.bl?, D.str?, D.tup?, D.lst?, D.ty?, En.g, En.p, En.wipe, En.back, Option.bind_some, Option.bind_none, List.length_cons, List.length_nil, List.map_cons, List.map_nil, List.replicate, List.cons_append, List.nil_append, List.set_cons_zero, List.set_cons_succ, List.getElem?_cons_zero, List.getElem?_cons_succ, List.getElem?_nil, Option.join_some, Option.join_none, Nat.reduceAdd, Nat.reduceSub, reduceIte, if_true, if_false, Bool.false_eq_true, D.flat, D.flats, flatIn_l, Bool.and_true, Bool.true_and, Bool.and_self, ix_t0, ix_t1, ix_t2, ix_l0, ix_l1, ix_l2, len_t, len_l, tup_l, add_i, max_2, min_2, sub_i, lt_i, le_i, gt_i, ge_i, neg_i, ne_i, eq_i, ne_s, eq_s, ne_b, eq_b, int_i, int_b, abs_i], rfl, rfl⟩
  simp only [F_even_paper_73, B_even_paper_73, fn, fnM, fin, finM, R.res, R.resM, e_v, e_o, e_c, e_un, e_bin, e_chain, e_and, e_or, e_not, e_if, t_v, t_and, t_or, t_not, t_yes, a_nil, a_cons, a_star, e_tup, e_lst, e_tupS, e_lstS, e_call, e_callM, e_meth, e_bm, e_cut, p_no, p_e, tg_n, tg_t, tg_s, s_nil, s_then, s_seq, s_set, s_setO, s_par2, s_par3, pick, s_tgt, s_ex, s_ret, s_retN, s_if, s_setix, it_e, it_r1, it_r2, it_enum, it_zip, e_lstR, e_tupR, R.at, R.st, R.ats, R.sts, R.atx, R.atxs, R.new?, R.bl?, R.seq?, D.seq?, D.int?, D.bl?, D.str?, D.tup?, D.lst?, D.ty?, En.g, En.p, En.wipe, En.back, Option.bind_some, Option.bind_none, List.length_cons, List.length_nil, List.map_cons, List.map_nil, List.replicate, List.cons_append, List.nil_append, List.set_cons_zero, List.set_cons_succ, List.getElem?_cons_zero, List.getElem?_cons_succ, List.getElem?_nil, Option.join_some, Option.join_none, Nat.reduceAdd, Nat.reduceSub, reduceIte, if_true, if_false, Bool.false_eq_true, D.flat, D.flats, flatIn_l, Bool.and_true, Bool.true_and, Bool.and_self, ix_t0, ix_t1, ix_t2, ix_l0, ix_l1, ix_l2, len_t, len_l, tup_l, add_i, max_2, min_2, sub_i, lt_i, le_i, gt_i, ge_i, neg_i, ne_i, eq_i, ne_s, eq_s, ne_b, eq_b, int_i, int_b, abs_i, ev, s3', s2', lc1, lc2, flats_ints]
theorem row_sure {B : List (Int × Int)} {r : List Int} (q : Wi r B) : F_is_row_68 [bD B, rD r] = some (.val (.bl true)) := by
  have tl : F_is_tuple_1 [rD r, .int ((B.map enc).length : Nat), .int ((B.map enc).length : Nat)] = some (.val (.bl true)) := by
    rw [tuple_ok, decide_eq_true (by rw [List.length_map, List.length_map, q.len]; omega)]
  have lc2 : e_lc (it_zip (e_v 1) (e_v 0)) (tg_t [tg_n 2, tg_t [tg_n 3, tg_n 4]]) t_yes (e_call F_is_integer_3 (a_cons (e_v 2) (a_cons (e_v 3) (a_cons (e_v 4) a_nil)))) [2, 3, 4] [some (bD B), some (rD r), none, none, none] =
      some (.new (.lst (((r.zip B).map fun _ => true).map .bl)), [some (bD B), some (rD r), none, none, none]) := by
    refine lcX (fun z : Int × (Int × Int) => D.tup [.int z.1, enc z.2]) (r.zip B) (fun _ => .bl true) (e' := [some (bD B), some (rD r), none, none, none]) ?_ (List.map_map).symm rfl ?_
    · simp only [fn, fnM, fin, finM, R.res, R.resM, e_v, e_o, e_c, e_un, e_bin, e_chain, e_and, e_or, e_not, e_if, t_v, t_and, t_or, t_not, t_yes, a_nil, a_cons, a_star, e_tup, e_lst, e_tupS, e_lstS, e_call, e_callM, e_meth, e_bm, e_cut, p_no, p_e, tg_n, tg_t, tg_s, s_nil, s_then, s_seq, s_set, s_setO, s_par2, s_par3, pick, s_tgt, s_ex, s_ret, s_retN, s_if, s_setix, it_e, it_r1, it_r2, it_enum, it_zip, e_lstR, e_tupR, R.at, R.st, R.ats, R.sts, R.atx, R.atxs, R.new?, R.bl?, R.seq?, D.seq?, D.int?, D.bl?, D.str?, D.tup?, D.lst?, D.ty?, En.g, En.p, En.wipe, En.back, Option.bind_some, Option.bind_none, List.length_cons, List.length_nil, List.map_cons, List.map_nil, List.replicate, List.cons_append, List.nil_append, List.set_cons_zero, List.set_cons_succ, List.getElem?_cons_zero, List.getElem?_cons_succ, List.getElem?_nil, Option.join_some, Option.join_none, Nat.reduceAdd, Nat.reduceSub, reduceIte, if_true, if_false, Bool.false_eq_true, D.flat, D.flats, flatIn_l, Bool.and_true, Bool.true_and, Bool.and_self, ix_t0, ix_t1, ix_t2, ix_l0, ix_l1, ix_l2, len_t, len_l, tup_l, add_i, max_2, min_2, sub_i, lt_i, le_i, gt_i, ge_i, neg_i, ne_i, eq_i, ne_s, eq_s, ne_b, eq_b, int_i, int_b, abs_i, zip_enc]
    exact fun z hz => ⟨[some (bD B), some (rD r), some (.int z.1), some (.int z.2.1), some (.int z.2.2)], .val (.bl true), [some (bD B), some (rD r), some (.int z.1), some (.int z.2.1), some (.int z.2.2)], rfl, by simp only [fn, fnM, fin, finM, R.res, R.resM, e_v, e_o, e_c, e_un, e_bin, e_chain, e_and, e_or, e_not, e_if, t_v, t_and, t_or, t_not, t_yes, a_nil, a_cons, a_star, e_tup, e_lst, e_tupS, e_lstS, e_call, e_callM, e_meth, e_bm, e_cut, p_no, p_e, tg_n, tg_t, tg_s, s_nil, s_then, s_seq, s_set, s_setO, s_par2, s_par3, pick, s_tgt, s_ex, s_ret, s_retN, s_if, s_setix, it_e, it_r1, it_r2, it_enum, it_zip, e_lstR, e_tupR, R.at, R.st, R.ats, R.sts, R.atx, R.atxs, R.new?, R.bl?, R.seq?, D.seq?, D.int?, D.bl?, D.str?, D.tup?, D.lst?, D.ty?, En.g, En.p, En.wipe, En.back, Option.bind_some, Option.bind_none, List.length_cons, List.length_nil, List.map_cons, List.map_nil, List.replicate, List.cons_append, List.nil_append, List.set_cons_zero, List.set_cons_succ, List.getElem?_cons_zero, List.getElem?_cons_succ, List.getElem?_nil, Option.join_some, Option.join_none, Nat.reduceAdd, Nat.reduceSub, reduceIte, if_true, if_false, Bool.false_eq_true, D.flat, D.flats, flatIn_l, Bool.and_true, Bool.true_and, Bool.and_self, ix_t0, ix_t1, ix_t2, ix_l0, ix_l1, ix_l2, len_t, len_l, tup_l, add_i, max_2, min_2, sub_i, lt_i, le_i, gt_i, ge_i, neg_i, ne_i, eq_i, ne_s, eq_s, ne_b, eq_b, int_i, int_b, abs_i, integer, decide_eq_true (q.fine z hz)], rfl, rfl⟩
  have al : ((r.zip B).map fun _ => true).all id = true := all_true fun _ _ => rfl
  simp only [F_is_row_68, B_is_row_68, fn, fnM, fin, finM, R.res, R.resM, e_v, e_o, e_c, e_un, e_bin, e_chain, e_and, e_or, e_not, e_if, t_v, t_and, t_or, t_not, t_yes, a_nil, a_cons, a_star, e_tup, e_lst, e_tupS, e_lstS, e_call, e_callM, e_meth, e_bm, e_cut, p_no, p_e, tg_n, tg_t, tg_s, s_nil, s_then, s_seq, s_set, s_setO, s_par2, s_par3, pick, s_tgt, s_ex, s_ret, s_retN, s_if, s_setix, it_e, it_r1, it_r2, it_enum, it_zip, e_lstR, e_tupR, R.at, R.st, R.ats, R.sts, R.atx, R.atxs, R.new?, R.bl?, R.seq?, D.seq?, D.int?, D.bl?, D.str?, D.tup?, D.lst?, D.ty?, En.g, En.p, En.wipe, En.back, Option.bind_some, Option.bind_none, List.length_cons, List.length_nil, List.map_cons, List.map_nil, List.replicate, List.cons_append, List.nil_append, List.set_cons_zero, List.set_cons_succ, List.getElem?_cons_zero, List.getElem?_cons_succ, List.getElem?_nil, Option.join_some, Option.join_none, Nat.reduceAdd, Nat.reduceSub, reduceIte, if_true, if_false, Bool.false_eq_true, D.flat, D.flats, flatIn_l, Bool.and_true, Bool.true_and, Bool.and_self, ix_t0, ix_t1, ix_t2, ix_l0, ix_l1, ix_l2, len_t, len_l, tup_l, add_i, max_2, min_2, sub_i, lt_i, le_i, gt_i, ge_i, neg_i, ne_i, eq_i, ne_s, eq_s, ne_b, eq_b, int_i, int_b, abs_i, tl, lc2, all_l, al, Bool.not_true]
end G56
namespace G56
open PySem Mini
theorem shows74 {B : List (Int × Int)} {a b : Int} {r1 r2 : List Int} (h : Ok B) (h0 : 0 ≤ a) (h1 : a ≤ b) (h2 : b ≤ 1000) (hv : verd B a b = sOpen) (q1 : Wi r1 B) (q2 : Wi r2 B) (i1 : ∀ x ∈ r1, a ≤ x ∧ x ≤ b) (i2 : ∃ x ∈ r2, ¬ (a ≤ x ∧ x ≤ b)) :
    F_shows_even_74 [bD B, .tup [.int a, .int b], .tup [.str sOpen, rD r1, rD r2]] = some (.val (.bl true)) := by
  have ev := even_sure h h0 h1 h2
  rw [hv] at ev
  have t3 : F_is_tuple_1 [.tup [.str sOpen, rD r1, rD r2], .int 1, .int 3] = some (.val (.bl true)) := by rw [tuple_ok]; rfl
  have lc1 : ∀ e0 : En, e0 = [some (bD B), some (.tup [.int a, .int b]), some (.tup [.str sOpen, rD r1, rD r2]), some (.str sOpen), none, none, none, none, none] → e_lc (it_e (e_cut (e_v 2) (p_e (e_c (.int 1))) p_no)) (tg_n 7) t_yes (e_call F_is_row_68 (a_cons (e_v 0) (a_cons (e_v 7) a_nil))) [7] e0 = some (.new (.lst [.bl true, .bl true]), e0) := by
    rintro _ rfl
    simp only [e_lc, fn, fnM, fin, finM, R.res, R.resM, e_v, e_o, e_c, e_un, e_bin, e_chain, e_and, e_or, e_not, e_if, t_v, t_and, t_or, t_not, t_yes, a_nil, a_cons, a_star, e_tup, e_lst, e_tupS, e_lstS, e_call, e_callM, e_meth, e_bm, e_cut, p_no, p_e, tg_n, tg_t, tg_s, s_nil, s_then, s_seq, s_set, s_setO, s_par2, s_par3, pick, s_tgt, s_ex, s_ret, s_retN, s_if, s_setix, it_e, it_r1, it_r2, it_enum, it_zip, e_lstR, e_tupR, R.at, R.st, R.ats, R.sts, R.atx, R.atxs, R.new?, R.bl?, R.seq?, D.seq?, D.int?, D.bl?, D.str?, D.tup?, D.lst?, D.ty?, En.g, En.p, En.wipe, En.back, Option.bind_some, Option.bind_none, List.length_cons, List.length_nil, List.map_cons, List.map_nil, List.replicate, List.cons_append, List.nil_append, List.set_cons_zero, List.set_cons_succ, List.getElem?_cons_zero, List.getElem?_cons_succ, List.getElem?_nil, Option.join_some, Option.join_none, Nat.reduceAdd, Nat.reduceSub, reduceIte, if_true, if_false, Bool.false_eq_true, D.flat, D.flats, flatIn_l, Bool.and_true, Bool.true_and, Bool.and_self, ix_t0, ix_t1, ix_t2, ix_l0, ix_l1, ix_l2, len_t, len_l, tup_l, add_i, max_2, min_2, sub_i, lt_i, le_i, gt_i, ge_i, neg_i, ne_i, eq_i, ne_s, eq_s, ne_b, eq_b, int_i, int_b, abs_i, o_cut, cut1, lcLoop, row_sure q1, row_sure q2]
  have lci : ∀ r : List Int, e_lc (it_e (e_v 7)) (tg_n 8) t_yes (e_chain o_le o_le (e_bin o_ix (e_v 1) (e_c (.int 0))) (e_v 8) (e_bin o_ix (e_v 1) (e_c (.int 1)))) [8] [some (bD B), some (.tup [.int a, .int b]), some (.tup [.str sOpen, rD r1, rD r2]), some (.str sOpen), none, none, none, some (rD r), none] =
      some (.new (.lst ((r.map fun x => decide (a ≤ x) && decide (x ≤ b)).map .bl)), [some (bD B), some (.tup [.int a, .int b]), some (.tup [.str sOpen, rD r1, rD r2]), some (.str sOpen), none, none, none, some (rD r), none]) := fun r => by
    refine lcX D.int r (fun x => .bl (decide (a ≤ x) && decide (x ≤ b))) (e' := [some (bD B), some (.tup [.int a, .int b]), some (.tup [.str sOpen, rD r1, rD r2]), some (.str sOpen), none, none, none, some (rD r), none]) ?_ (List.map_map).symm rfl ?_
    · rfl
    exact fun x hx => ⟨[some (bD B), some (.tup [.int a, .int b]), some (.tup [.str sOpen, rD r1, rD r2]), some (.str sOpen), none, none, none, some (rD r), some (.int x)], .val (.bl (decide (a ≤ x) && decide (x ≤ b))), [some (bD B), some (.tup [.int a, .int b]), some (.tup [.str sOpen, rD r1, rD r2]), some (.str sOpen), none, none, none, some (rD r), some (.int x)], rfl, by
      simp only [fn, fnM, fin, finM, R.res, R.resM, e_v, e_o, e_c, e_un, e_bin, e_chain, e_and, e_or, e_not, e_if, t_v, t_and, t_or, t_not, t_yes, a_nil, a_cons, a_star, e_tup, e_lst, e_tupS, e_lstS, e_call, e_callM, e_meth, e_bm, e_cut, p_no, p_e, tg_n, tg_t, tg_s, s_nil, s_then, s_seq, s_set, s_setO, s_par2, s_par3, pick, s_tgt, s_ex, s_ret, s_retN, s_if, s_setix, it_e, it_r1, it_r2, it_enum, it_zip, e_lstR, e_tupR, R.at, R.st, R.ats, R.sts, R.atx, R.atxs, R.new?, R.bl?, R.seq?, D.seq?, D.int?, D.bl?, D.str?, D.tup?, D.lst?, D.ty?, En.g, En.p, En.wipe, En.back, Option.bind_some, Option.bind_none, List.length_cons, List.length_nil, List.map_cons, List.map_nil, List.replicate, List.cons_append, List.nil_append, List.set_cons_zero, List.set_cons_succ, List.getElem?_cons_zero, List.getElem?_cons_succ, List.getElem?_nil, Option.join_some, Option.join_none, Nat.reduceAdd, Nat.reduceSub, reduceIte, if_true, if_false, Bool.false_eq_true, D.flat, D.flats, flatIn_l, Bool.and_true, Bool.true_and, Bool.and_self, ix_t0, ix_t1, ix_t2, ix_l0, ix_l1, ix_l2, len_t, len_l, tup_l, add_i, max_2, min_2, sub_i, lt_i, le_i, gt_i, ge_i, neg_i, ne_i, eq_i, ne_s, eq_s, ne_b, eq_b, int_i, int_b, abs_i]
      cases decide (a ≤ x) <;> simp only [fn, fnM, fin, finM, R.res, R.resM, e_v, e_o, e_c, e_un, e_bin, e_chain, e_and, e_or, e_not, e_if, t_v, t_and, t_or, t_not, t_yes, a_nil, a_cons, a_star, e_tup, e_lst, e_tupS, e_lstS, e_call, e_callM, e_meth, e_bm, e_cut, p_no, p_e, tg_n, tg_t, tg_s, s_nil, s_then, s_seq, s_set, s_setO, s_par2, s_par3, pick, s_tgt, s_ex, s_ret, s_retN, s_if, s_setix, it_e, it_r1, it_r2, it_enum, it_zip, e_lstR, e_tupR, R.at, R.st, R.ats, R.sts, R.atx, R.atxs, R.new?, R.bl?, R.seq?, D.seq?, D.int?, D.bl?, D.str?, D.tup?, D.lst?, D.ty?, En.g, En.p, En.wipe, En.back, Option.bind_some, Option.bind_none, List.length_cons, List.length_nil, List.map_cons, List.map_nil, List.replicate, List.cons_append, List.nil_append, List.set_cons_zero, List.set_cons_succ, List.getElem?_cons_zero, List.getElem?_cons_succ, List.getElem?_nil, Option.join_some, Option.join_none, Nat.reduceAdd, Nat.reduceSub, reduceIte, if_true, if_false, Bool.false_eq_true, D.flat, D.flats, flatIn_l, Bool.and_true, Bool.true_and, Bool.and_self, ix_t0, ix_t1, ix_t2, ix_l0, ix_l1, ix_l2, len_t, len_l, tup_l, add_i, max_2, min_2, sub_i, lt_i, le_i, gt_i, ge_i, neg_i, ne_i, eq_i, ne_s, eq_s, ne_b, eq_b, int_i, int_b, abs_i, Bool.false_and], rfl, rfl⟩
  have a1 : (r1.map fun x => decide (a ≤ x) && decide (x ≤ b)).all id = true := all_true fun x hx => by
    have := i1 x hx
    simpa using this
  have a3 : (r2.map fun x => decide (a ≤ x) && decide (x ≤ b)).all id = false := by
    obtain ⟨x, hx, hn⟩ := i2
    rw [all_map, List.all_eq_false]
    exact ⟨x, hx, by simpa using hn⟩
  have lc2 : ∀ e0 : En, e0 = [some (bD B), some (.tup [.int a, .int b]), some (.tup [.str sOpen, rD r1, rD r2]), some (.str sOpen), none, none, none, none, none] → e_lc (it_e (e_cut (e_v 2) (p_e (e_c (.int 1))) p_no)) (tg_n 7) t_yes (e_call o_all (a_cons (e_lc (it_e (e_v 7)) (tg_n 8) t_yes (e_chain o_le o_le (e_bin o_ix (e_v 1) (e_c (.int 0))) (e_v 8) (e_bin o_ix (e_v 1) (e_c (.int 1)))) [8]) a_nil)) [7] e0 = some (.new (.lst [.bl true, .bl false]), e0) := by
    rintro _ rfl
    rw [e_lc]
    simp only [fn, fnM, fin, finM, R.res, R.resM, e_v, e_o, e_c, e_un, e_bin, e_chain, e_and, e_or, e_not, e_if, t_v, t_and, t_or, t_not, t_yes, a_nil, a_cons, a_star, e_tup, e_lst, e_tupS, e_lstS, e_call, e_callM, e_meth, e_bm, e_cut, p_no, p_e, tg_n, tg_t, tg_s, s_nil, s_then, s_seq, s_set, s_setO, s_par2, s_par3, pick, s_tgt, s_ex, s_ret, s_retN, s_if, s_setix, it_e, it_r1, it_r2, it_enum, it_zip, e_lstR, e_tupR, R.at, R.st, R.ats, R.sts, R.atx, R.atxs, R.new?, R.bl?, R.seq?, D.seq?, D.int?, D.bl?, D.str?, D.tup?, D.lst?, D.ty?, En.g, En.p, En.wipe, En.back, Option.bind_some, Option.bind_none, List.length_cons, List.length_nil, List.map_cons, List.map_nil, List.replicate, List.cons_append, List.nil_append, List.set_cons_zero, List.set_cons_succ, List.getElem?_cons_zero, List.getElem?_cons_succ, List.getElem?_nil, Option.join_some, Option.join_none, Nat.reduceAdd, Nat.reduceSub, reduceIte, if_true, if_false, Bool.false_eq_true, D.flat, D.flats, flatIn_l, Bool.and_true, Bool.true_and, Bool.and_self, ix_t0, ix_t1, ix_t2, ix_l0, ix_l1, ix_l2, len_t, len_l, tup_l, add_i, max_2, min_2, sub_i, lt_i, le_i, gt_i, ge_i, neg_i, ne_i, eq_i, ne_s, eq_s, ne_b, eq_b, int_i, int_b, abs_i, o_cut, cut1, lcLoop, lci r1, lci r2, all_l, a1, a3]
  have a2 : o_all [.lst [.bl true, .bl true]] = some (.val (.bl true)) := rfl
  have e2 : o_eq (.lst [.bl true, .bl false]) (.lst [.bl true, .bl false]) = some (.val (.bl true)) := rfl
  have c3 : (((3 : Nat) : Int) == 3) = true := rfl
  have s3' : (sOpen == sSure) = false := s3
  have s2' : (sOpen == sNever) = false := s2
  simp only [F_shows_even_74, B_shows_even_74, fn, fnM, fin, finM, R.res, R.resM, e_v, e_o, e_c, e_un, e_bin, e_chain, e_and, e_or, e_not, e_if, t_v, t_and, t_or, t_not, t_yes, a_nil, a_cons, a_star, e_tup, e_lst, e_tupS, e_lstS, e_call, e_callM, e_meth, e_bm, e_cut, p_no, p_e, tg_n, tg_t, tg_s, s_nil, s_then, s_seq, s_set, s_setO, s_par2, s_par3, pick, s_tgt, s_ex, s_ret, s_retN, s_if, s_setix, it_e, it_r1, it_r2, it_enum, it_zip, e_lstR, e_tupR, R.at, R.st, R.ats, R.sts, R.atx, R.atxs, R.new?, R.bl?, R.seq?, D.seq?, D.int?, D.bl?, D.str?, D.tup?, D.lst?, D.ty?, En.g, En.p, En.wipe, En.back, Option.bind_some, Option.bind_none, List.length_cons, List.length_nil, List.map_cons, List.map_nil, List.replicate, List.cons_append, List.nil_append, List.set_cons_zero, List.set_cons_succ, List.getElem?_cons_zero, List.getElem?_cons_succ, List.getElem?_nil, Option.join_some, Option.join_none, Nat.reduceAdd, Nat.reduceSub, reduceIte, if_true, if_false, Bool.false_eq_true, D.flat, D.flats, flatIn_l, Bool.and_true, Bool.true_and, Bool.and_self, ix_t0, ix_t1, ix_t2, ix_l0, ix_l1, ix_l2, len_t, len_l, tup_l, add_i, max_2, min_2, sub_i, lt_i, le_i, gt_i, ge_i, neg_i, ne_i, eq_i, ne_s, eq_s, ne_b, eq_b, int_i, int_b, abs_i, ev, t3, isi_s, c3, Bool.not_true, beq_self_eq_true, s3', s2', lc1 _ rfl, lc2 _ rfl, a2, e2]
theorem wi_mem {r : List Int} {B : List (Int × Int)} (q : Wi r B) {x : Int} (hx : x ∈ r) : ∃ p ∈ B, p.1 ≤ x ∧ x ≤ p.2 := by
  obtain ⟨i, hi⟩ := List.mem_iff_getElem?.mp hx
  have il := (List.getElem?_eq_some_iff.mp hi).1
  rw [q.len] at il
  have hz : (x, B[i]) ∈ r.zip B := List.mem_iff_getElem?.mpr ⟨i, by rw [List.getElem?_zip_eq_some]; exact ⟨hi, List.getElem?_eq_getElem il⟩⟩
  exact ⟨B[i], List.getElem_mem il, q.fine _ hz⟩
theorem wi_of {r : List Int} {B : List (Int × Int)} (q : Wi r B) {p : Int × Int} (hp : p ∈ B) : ∃ x ∈ r, p.1 ≤ x ∧ x ≤ p.2 := by
  obtain ⟨i, hi⟩ := List.mem_iff_getElem?.mp hp
  have il := (List.getElem?_eq_some_iff.mp hi).1
  rw [← q.len] at il
  have hz : (r[i], p) ∈ r.zip B := List.mem_iff_getElem?.mpr ⟨i, by rw [List.getElem?_zip_eq_some]; exact ⟨List.getElem?_eq_getElem il, hi⟩⟩
  exact ⟨r[i], List.getElem_mem il, q.fine _ hz⟩
theorem cut2 (a b c : D) : o_cut (.tup [a, b, c]) (some 1) none = some (.val (.tup [b, c])) := rfl
theorem papers_right {B : List (Int × Int)} {w n : Int} {p : D} (h : Ok B) (h0 : 0 ≤ w) (h1 : w ≤ 1000) (hp : Pot n p) (hn : n ≤ 900000) : ∃ p', F__law_are_papers_right_85 p [bD B, .int w] = some (.val (.bl true), p') ∧ Pot (n + 1) p' := by
  have nb : ∀ k : Bool, o_notB (.bl k) (.bl true) = some (.val (.bl (!decide (k = true)))) := fun _ => rfl
  have s1' : (sSure == sNever) = false := s1
  have s3' : (sOpen == sSure) = false := s3
  have s2' : (sOpen == sNever) = false := s2
  rcases word3 B w with hw | hw | hw
  · -- sure
    have le : mst B ≤ w := Classical.byContradiction fun z => by
      unfold word at hw
      rw [if_neg z] at hw
      split at hw <;> exact absurd hw (by decide)
    refine ⟨p, ?_, hp.mono (by omega)⟩
    simp only [F__law_are_papers_right_85, B__law_are_papers_right_85, fn, fnM, fin, finM, R.res, R.resM, e_v, e_o, e_c, e_un, e_bin, e_chain, e_and, e_or, e_not, e_if, t_v, t_and, t_or, t_not, t_yes, a_nil, a_cons, a_star, e_tup, e_lst, e_tupS, e_lstS, e_call, e_callM, e_meth, e_bm, e_cut, p_no, p_e, tg_n, tg_t, tg_s, s_nil, s_then, s_seq, s_set, s_setO, s_par2, s_par3, pick, s_tgt, s_ex, s_ret, s_retN, s_if, s_setix, it_e, it_r1, it_r2, it_enum, it_zip, e_lstR, e_tupR, R.at, R.st, R.ats, R.sts, R.atx, R.atxs, R.new?, R.bl?, R.seq?, D.seq?, D.int?, D.bl?, D.str?, D.tup?, D.lst?, D.ty?, En.g, En.p, En.wipe, En.back, Option.bind_some, Option.bind_none, List.length_cons, List.length_nil, List.map_cons, List.map_nil, List.replicate, List.cons_append, List.nil_append, List.set_cons_zero, List.set_cons_succ, List.getElem?_cons_zero, List.getElem?_cons_succ, List.getElem?_nil, Option.join_some, Option.join_none, Nat.reduceAdd, Nat.reduceSub, reduceIte, if_true, if_false, Bool.false_eq_true, D.flat, D.flats, flatIn_l, Bool.and_true, Bool.true_and, Bool.and_self, ix_t0, ix_t1, ix_t2, ix_l0, ix_l1, ix_l2, len_t, len_l, tup_l, add_i, max_2, min_2, sub_i, lt_i, le_i, gt_i, ge_i, neg_i, ne_i, eq_i, ne_s, eq_s, ne_b, eq_b, int_i, int_b, abs_i, why_sure h h0 h1 hw, shows_sure h h0 h1 hw, nb, decide_true, Bool.not_true, s1', beq_self_eq_true, law_uneven h, decide_eq_true le, hp.flat]
  · -- never
    obtain ⟨i, j, a, b, e, gi, gj, el⟩ := why_never h h0 h1 hw
    have lt : w < low B := Classical.byContradiction fun z => by
      unfold word lst at hw
      split at hw
      · exact absurd hw (by decide)
      · rw [if_neg (by omega)] at hw
        exact absurd hw (by decide)
    have lt2 : w < a.1 - b.2 := by omega
    have x1 : o_ix (bD B) (.int (i : Int)) = some (.val (enc a)) := ix_t (by rw [List.getElem?_map, gi]; rfl)
    have x2 : o_ix (bD B) (.int (j : Int)) = some (.val (enc b)) := ix_t (by rw [List.getElem?_map, gj]; rfl)
    refine ⟨p, ?_, hp.mono (by omega)⟩
    simp only [F__law_are_papers_right_85, B__law_are_papers_right_85, fn, fnM, fin, finM, R.res, R.resM, e_v, e_o, e_c, e_un, e_bin, e_chain, e_and, e_or, e_not, e_if, t_v, t_and, t_or, t_not, t_yes, a_nil, a_cons, a_star, e_tup, e_lst, e_tupS, e_lstS, e_call, e_callM, e_meth, e_bm, e_cut, p_no, p_e, tg_n, tg_t, tg_s, s_nil, s_then, s_seq, s_set, s_setO, s_par2, s_par3, pick, s_tgt, s_ex, s_ret, s_retN, s_if, s_setix, it_e, it_r1, it_r2, it_enum, it_zip, e_lstR, e_tupR, R.at, R.st, R.ats, R.sts, R.atx, R.atxs, R.new?, R.bl?, R.seq?, D.seq?, D.int?, D.bl?, D.str?, D.tup?, D.lst?, D.ty?, En.g, En.p, En.wipe, En.back, Option.bind_some, Option.bind_none, List.length_cons, List.length_nil, List.map_cons, List.map_nil, List.replicate, List.cons_append, List.nil_append, List.set_cons_zero, List.set_cons_succ, List.getElem?_cons_zero, List.getElem?_cons_succ, List.getElem?_nil, Option.join_some, Option.join_none, Nat.reduceAdd, Nat.reduceSub, reduceIte, if_true, if_false, Bool.false_eq_true, D.flat, D.flats, flatIn_l, Bool.and_true, Bool.true_and, Bool.and_self, ix_t0, ix_t1, ix_t2, ix_l0, ix_l1, ix_l2, len_t, len_l, tup_l, add_i, max_2, min_2, sub_i, lt_i, le_i, gt_i, ge_i, neg_i, ne_i, eq_i, ne_s, eq_s, ne_b, eq_b, int_i, int_b, abs_i, e, shows_never h h0 h1 hw gi gj, decide_eq_true lt2, nb, decide_true, Bool.not_true, beq_self_eq_true, cut2, x1, x2, hp.flat]
  · -- open
    obtain ⟨r, e, qr, wn, wr⟩ := why_open h h0 h1 hw
    have qn := near_wi B h
    have nn := qn.ne h
    have nr := qr.ne h
    obtain ⟨mo, hmo⟩ : ∃ mo : Int, mo = mn (near B) := ⟨_, rfl⟩
    have inn : ∀ x ∈ near B, mo ≤ x ∧ x ≤ mo + w := fun x hx => by
      have a := mn_le hx
      have b := (wide_le nn).mp wn x hx _ (mn_mem nn)
      omega
    obtain ⟨pm, hpm, m0, m1⟩ := wi_mem qn (mn_mem nn)
    have fm := h.fine pm hpm
    have mo0 : 0 ≤ mo ∧ mo ≤ 1000 := by omega
    have rowr : Row r := ⟨nr, by rw [qr.len]; exact h.few, fun x hx => by
      obtain ⟨q, hq, a, b⟩ := wi_mem qr hx
      have := h.fine q hq
      omega⟩
    obtain ⟨k, p', ek, k0, k1, hp'⟩ := take (u := max 1 (1000 - w)) hp (by omega) (by omega) (by omega)
    have kw : k + w ≤ 1000 := by omega
    have vex : verd (ex r) k (k + w) ≠ sSure := fun z => by
      have q := verd_sure z
      have a := q (mx r, mx r) (List.mem_map.mpr ⟨_, mx_mem nr, rfl⟩)
      have b := q (mn r, mn r) (List.mem_map.mpr ⟨_, mn_mem nr, rfl⟩)
      have : wide r = mx r - mn r := rfl
      have a2 : mx r ≤ k + w := a.2
      have b2 : k ≤ mn r := b.1
      omega
    have vs : (verd (ex r) k (k + w) == sSure) = false := by rw [beq_eq_false_iff_ne]; exact vex
    have ves := even_sure (ex_ok rowr) k0 (show k ≤ k + w by omega) kw
    have hm' : mn (near B) = mo := hmo.symm
    have so := shows_open h h0 h1 hw qn qr
    rw [decide_eq_true wn, decide_eq_true wr] at so
    have d1 : decide (w < mx (near B) - mo) = false := decide_eq_false (by
      have : wide (near B) = mx (near B) - mn (near B) := rfl
      omega)
    have d2 : decide (mx r - mn r ≤ w) = false := decide_eq_false (by
      have : wide r = mx r - mn r := rfl
      omega)
    have nv : verd B mo (mo + w) ≠ sNever := fun z => by
      obtain ⟨q, hq, z⟩ := verd_never.mp z
      obtain ⟨x, hx, a, b⟩ := wi_of qn hq
      have := inn x hx
      omega
    have nvb : (verd B mo (mo + w) == sNever) = false := by rw [beq_eq_false_iff_ne]; exact nv
    have lx : ∀ (P T A : D), e_lc (it_e (e_v 7)) (tg_n 4) t_yes (e_tup (a_cons (e_v 4) (a_cons (e_v 4) a_nil))) [4] [some P, some (bD B), some (.int w), some T, none, none, some (rD (near B)), some (rD r), some A, none, none, none, none] =
        some (.new (.lst ((ex r).map enc)), [some P, some (bD B), some (.int w), some T, none, none, some (rD (near B)), some (rD r), some A, none, none, none, none]) := fun P T A => by
      refine lcX D.int r (fun x => enc (x, x)) (e' := [some P, some (bD B), some (.int w), some T, none, none, some (rD (near B)), some (rD r), some A, none, none, none, none]) ?_ (by unfold ex; rw [List.map_map]; rfl) rfl ?_
      · rfl
      exact fun x hx => ⟨[some P, some (bD B), some (.int w), some T, some (.int x), none, some (rD (near B)), some (rD r), some A, none, none, none, none], .val (enc (x, x)), [some P, some (bD B), some (.int w), some T, some (.int x), none, some (rD (near B)), some (rD r), some A, none, none, none, none], rfl, rfl, rfl, rfl⟩
    refine ⟨p', ?_, hp'⟩
    by_cases c : mo + w ≤ 1000
    · have ev := even_sure h mo0.1 (show mo ≤ mo + w by omega) c
      have c' : decide (mo + w ≤ 1000) = true := decide_eq_true c
      have c2 : decide (1000 < mo + w) = false := decide_eq_false (by omega)
      by_cases vo : verd B mo (mo + w) = sOpen
      · obtain ⟨g1, pp, hpp, g2⟩ := verd_open vo
        have vob : (verd B mo (mo + w) == sOpen) = true := by rw [vo]; exact beq_self_eq_true _
        have po := paper_open h mo0.1 (show mo ≤ mo + w by omega) c vo
        have wf : Wi (fineL B mo) B := map_wi fun q hq => by
          have a := g1 q hq
          have b := h.fine q hq
          omega
        have ww : Wi (wildL B (mo + w)) B := map_wi fun q hq => by
          have b := h.fine q hq
          cases decide (mo + w < q.2) <;> simp <;> omega
        have sh := shows74 h mo0.1 (show mo ≤ mo + w by omega) c vo qn ww inn ⟨_, List.mem_map.mpr ⟨pp, hpp, rfl⟩, by
          by_cases y : mo + w < pp.2
          · rw [if_pos (decide_eq_true y)]; omega
          · rw [if_neg (by rw [decide_eq_true_eq]; exact y)]; omega⟩
        have nf := wf.ne h
        have nw := ww.ne h
        have wfl : wide (fineL B mo) ≤ w := (wide_le nf).mpr fun x hx y hy => by
          obtain ⟨q, hq, rfl⟩ := List.mem_map.mp hx
          obtain ⟨t, ht, rfl⟩ := List.mem_map.mp hy
          have a := g1 q hq
          omega
        have so2 := shows_open h h0 h1 hw wf ww
        rw [decide_eq_true wfl, Bool.true_and] at so2
        have hwl : mx (wildL B (mo + w)) - mn (wildL B (mo + w)) = wide (wildL B (mo + w)) := rfl
        simp only [F__law_are_papers_right_85, B__law_are_papers_right_85, fn, fnM, fin, finM, R.res, R.resM, e_v, e_o, e_c, e_un, e_bin, e_chain, e_and, e_or, e_not, e_if, t_v, t_and, t_or, t_not, t_yes, a_nil, a_cons, a_star, e_tup, e_lst, e_tupS, e_lstS, e_call, e_callM, e_meth, e_bm, e_cut, p_no, p_e, tg_n, tg_t, tg_s, s_nil, s_then, s_seq, s_set, s_setO, s_par2, s_par3, pick, s_tgt, s_ex, s_ret, s_retN, s_if, s_setix, it_e, it_r1, it_r2, it_enum, it_zip, e_lstR, e_tupR, R.at, R.st, R.ats, R.sts, R.atx, R.atxs, R.new?, R.bl?, R.seq?, D.seq?, D.int?, D.bl?, D.str?, D.tup?, D.lst?, D.ty?, En.g, En.p, En.wipe, En.back, Option.bind_some, Option.bind_none, List.length_cons, List.length_nil, List.map_cons, List.map_nil, List.replicate, List.cons_append, List.nil_append, List.set_cons_zero, List.set_cons_succ, List.getElem?_cons_zero, List.getElem?_cons_succ, List.getElem?_nil, Option.join_some, Option.join_none, Nat.reduceAdd, Nat.reduceSub, reduceIte, if_true, if_false, Bool.false_eq_true, D.flat, D.flats, flatIn_l, Bool.and_true, Bool.true_and, Bool.and_self, ix_t0, ix_t1, ix_t2, ix_l0, ix_l1, ix_l2, len_t, len_l, tup_l, add_i, max_2, min_2, sub_i, lt_i, le_i, gt_i, ge_i, neg_i, ne_i, eq_i, ne_s, eq_s, ne_b, eq_b, int_i, int_b, abs_i, e, so, nb, decide_true, Bool.not_true, s2', s3', beq_self_eq_true, cut2, max_t nn, min_t nn, hm', c', ev, nvb, d1, max_t nr, min_t nr, d2, lx, ek, ves, vs, c2, vob, po, sh, max_t nw, min_t nw, hwl, so2, hp'.flat]
      · have vob : (verd B mo (mo + w) == sOpen) = false := by rw [beq_eq_false_iff_ne]; exact vo
        simp only [F__law_are_papers_right_85, B__law_are_papers_right_85, fn, fnM, fin, finM, R.res, R.resM, e_v, e_o, e_c, e_un, e_bin, e_chain, e_and, e_or, e_not, e_if, t_v, t_and, t_or, t_not, t_yes, a_nil, a_cons, a_star, e_tup, e_lst, e_tupS, e_lstS, e_call, e_callM, e_meth, e_bm, e_cut, p_no, p_e, tg_n, tg_t, tg_s, s_nil, s_then, s_seq, s_set, s_setO, s_par2, s_par3, pick, s_tgt, s_ex, s_ret, s_retN, s_if, s_setix, it_e, it_r1, it_r2, it_enum, it_zip, e_lstR, e_tupR, R.at, R.st, R.ats, R.sts, R.atx, R.atxs, R.new?, R.bl?, R.seq?, D.seq?, D.int?, D.bl?, D.str?, D.tup?, D.lst?, D.ty?, En.g, En.p, En.wipe, En.back, Option.bind_some, Option.bind_none, List.length_cons, List.length_nil, List.map_cons, List.map_nil, List.replicate, List.cons_append, List.nil_append, List.set_cons_zero, List.set_cons_succ, List.getElem?_cons_zero, List.getElem?_cons_succ, List.getElem?_nil, Option.join_some, Option.join_none, Nat.reduceAdd, Nat.reduceSub, reduceIte, if_true, if_false, Bool.false_eq_true, D.flat, D.flats, flatIn_l, Bool.and_true, Bool.true_and, Bool.and_self, ix_t0, ix_t1, ix_t2, ix_l0, ix_l1, ix_l2, len_t, len_l, tup_l, add_i, max_2, min_2, sub_i, lt_i, le_i, gt_i, ge_i, neg_i, ne_i, eq_i, ne_s, eq_s, ne_b, eq_b, int_i, int_b, abs_i, e, so, nb, decide_true, Bool.not_true, Bool.not_false, s2', s3', beq_self_eq_true, cut2, max_t nn, min_t nn, hm', c', ev, nvb, d1, max_t nr, min_t nr, d2, lx, ek, ves, vs, c2, vob, hp'.flat]
    · have c' : decide (mo + w ≤ 1000) = false := decide_eq_false c
      have c2 : decide (1000 < mo + w) = true := decide_eq_true (by omega)
      simp only [F__law_are_papers_right_85, B__law_are_papers_right_85, fn, fnM, fin, finM, R.res, R.resM, e_v, e_o, e_c, e_un, e_bin, e_chain, e_and, e_or, e_not, e_if, t_v, t_and, t_or, t_not, t_yes, a_nil, a_cons, a_star, e_tup, e_lst, e_tupS, e_lstS, e_call, e_callM, e_meth, e_bm, e_cut, p_no, p_e, tg_n, tg_t, tg_s, s_nil, s_then, s_seq, s_set, s_setO, s_par2, s_par3, pick, s_tgt, s_ex, s_ret, s_retN, s_if, s_setix, it_e, it_r1, it_r2, it_enum, it_zip, e_lstR, e_tupR, R.at, R.st, R.ats, R.sts, R.atx, R.atxs, R.new?, R.bl?, R.seq?, D.seq?, D.int?, D.bl?, D.str?, D.tup?, D.lst?, D.ty?, En.g, En.p, En.wipe, En.back, Option.bind_some, Option.bind_none, List.length_cons, List.length_nil, List.map_cons, List.map_nil, List.replicate, List.cons_append, List.nil_append, List.set_cons_zero, List.set_cons_succ, List.getElem?_cons_zero, List.getElem?_cons_succ, List.getElem?_nil, Option.join_some, Option.join_none, Nat.reduceAdd, Nat.reduceSub, reduceIte, if_true, if_false, Bool.false_eq_true, D.flat, D.flats, flatIn_l, Bool.and_true, Bool.true_and, Bool.and_self, ix_t0, ix_t1, ix_t2, ix_l0, ix_l1, ix_l2, len_t, len_l, tup_l, add_i, max_2, min_2, sub_i, lt_i, le_i, gt_i, ge_i, neg_i, ne_i, eq_i, ne_s, eq_s, ne_b, eq_b, int_i, int_b, abs_i, e, so, nb, decide_true, Bool.not_true, s2', s3', beq_self_eq_true, cut2, max_t nn, min_t nn, hm', c', d1, max_t nr, min_t nr, d2, lx, ek, ves, vs, c2, hp'.flat]
end G56

/-! ## E56 -/
namespace G56
open PySem Mini
theorem ne_pp (a b c d : Int) : o_ne (.tup [.int a, .int b]) (.tup [.int c, .int d]) = some (.val (.bl (!(a == c && (b == d && true))))) := rfl
theorem low_le {B : List (Int × Int)} (h : Ok B) : 0 ≤ lst B ∧ lst B ≤ 1000 ∧ 0 ≤ mst B ∧ mst B ≤ 1000 := by
  obtain ⟨⟨p, hp, ep⟩, q, hq, eq⟩ := pos_low h
  have fp := h.fine p hp
  have fq := h.fine q hq
  have m0 : 0 ≤ mst B := mx_le (mem_dl.mpr (.inl rfl))
  have m1 : mst B ≤ 1000 := mst_le.mpr ⟨by decide, fun i j p q _ hp hq => by
    have a := h.fine p (List.mem_of_getElem? hp)
    have b := h.fine q (List.mem_of_getElem? hq)
    omega⟩
  unfold lst low
  rw [← ep, ← eq]
  omega
theorem law_right {n : Int} {p : D} (h : Pot n p) (hn : n ≤ 800000) : ∃ p', F__law_right_87 p [] = some (.val (.bl true), p') ∧ Pot (n + 200) p' := by
  obtain ⟨d1, p1, e1, m1, h1⟩ := law_of (l := [.int 6, .int 25, .int 60]) h (by omega) (by decide) (by decide) (fun d hd => by
    simp only [List.mem_cons, List.not_mem_nil, or_false] at hd
    rcases hd with rfl | rfl | rfl <;> rfl)
  obtain ⟨mo, rfl, mo0, mo1⟩ : ∃ mo : Int, d1 = .int mo ∧ 0 ≤ mo ∧ mo ≤ 60 := by
    simp only [List.mem_cons, List.not_mem_nil, or_false] at m1
    rcases m1 with rfl | rfl | rfl
    · exact ⟨6, rfl, by decide, by decide⟩
    · exact ⟨25, rfl, by decide, by decide⟩
    · exact ⟨60, rfl, by decide, by decide⟩
  obtain ⟨d2, p2, e2, m2, h2⟩ := law_of (l := [.int 4, .int 20]) h1 (by omega) (by decide) (by decide) (fun d hd => by
    simp only [List.mem_cons, List.not_mem_nil, or_false] at hd
    rcases hd with rfl | rfl <;> rfl)
  obtain ⟨u, rfl, u0, u1⟩ : ∃ u : Int, d2 = .int u ∧ 4 ≤ u ∧ u ≤ 20 := by
    simp only [List.mem_cons, List.not_mem_nil, or_false] at m2
    rcases m2 with rfl | rfl
    · exact ⟨4, rfl, by decide, by decide⟩
    · exact ⟨20, rfl, by decide, by decide⟩
  obtain ⟨k, p3, e3, k0, k1, h3⟩ := take (u := u) h2 (by omega) (by omega) (by omega)
  obtain ⟨B, p4, e4, bl, bf, h4⟩ := law_bounds (m := 1 + k) (mo := mo) h3 (by omega) (by omega) (by omega) mo0 (by omega)
  have ok : Ok B := ⟨fun z => by rw [z] at bl; simp at bl; omega, by omega, fun q hq => by have := bf q hq; omega⟩
  obtain ⟨l0, l1, l2, l3⟩ := low_le ok
  obtain ⟨k2, p5, e5, k20, k21, h5⟩ := take (u := mo + 1) h4 (by omega) (by omega) (by omega)
  obtain ⟨e', f1, p6, x4, f2, h6⟩ := for_pre (fun i : Int => D.int i) (g := tg_n 4) (b := s_seq (s_if (t_or (t_not (t_v (e_call F__law_are_bands_right_84 (a_cons (e_v 2) (a_cons (e_v 4) a_nil))))) (t_not (t_v (e_callM F__law_are_papers_right_85 0 (a_cons (e_v 2) (a_cons (e_v 4) a_nil)))))) (s_ret (e_c (.bl false))) s_nil) (s_if (t_v (e_bin o_ne (e_call F_even_23 (a_cons (e_un o_rev (e_v 2)) (a_cons (e_v 4) a_nil))) (e_call F_even_23 (a_cons (e_v 2) (a_cons (e_v 4) a_nil))))) (s_ret (e_c (.bl false))) s_nil))
    (fun done e => ∃ p' x4, e = [some p', some (.int mo), some (bD B), some (.tup [.int (lst B), .int (mst B)]), x4, none, none] ∧ Pot (n + 70 + done.length) p') [lst B, max 0 (lst B - 1), mst B, k2]
    [some p5, some (.int mo), some (bD B), some (.tup [.int (lst B), .int (mst B)]), none, none, none] ⟨p5, none, rfl, h5.mono (by simp; omega)⟩ (fun done w rest e hf hi => by
      obtain ⟨p', x4, rfl, hp⟩ := hi
      have hw : 0 ≤ w ∧ w ≤ 1000 := by
        have : w ∈ [lst B, max 0 (lst B - 1), mst B, k2] := by rw [hf]; exact List.mem_append_right _ List.mem_cons_self
        simp only [List.mem_cons, List.not_mem_nil, or_false] at this
        omega
      have hd : done.length < 4 := by
        have := congrArg List.length hf
        rw [List.length_append, List.length_cons] at this
        simp only [List.length_cons, List.length_nil] at this
        omega
      obtain ⟨p'', ep, hp2⟩ := papers_right ok hw.1 hw.2 hp (by omega)
      refine ⟨[some p', some (.int mo), some (bD B), some (.tup [.int (lst B), .int (mst B)]), some (.int w), none, none], [some p'', some (.int mo), some (bD B), some (.tup [.int (lst B), .int (mst B)]), some (.int w), none, none], rfl, .inl ?_, p'', _, rfl, hp2.mono (by rw [List.length_append]; simp; omega)⟩
      simp only [fn, fnM, fin, finM, R.res, R.resM, e_v, e_o, e_c, e_un, e_bin, e_chain, e_and, e_or, e_not, e_if, t_v, t_and, t_or, t_not, t_yes, a_nil, a_cons, a_star, e_tup, e_lst, e_tupS, e_lstS, e_call, e_callM, e_meth, e_bm, e_cut, p_no, p_e, tg_n, tg_t, tg_s, s_nil, s_then, s_seq, s_set, s_setO, s_par2, s_par3, pick, s_tgt, s_ex, s_ret, s_retN, s_if, s_setix, it_e, it_r1, it_r2, it_enum, it_zip, e_lstR, e_tupR, R.at, R.st, R.ats, R.sts, R.atx, R.atxs, R.new?, R.bl?, R.seq?, D.seq?, D.int?, D.bl?, D.str?, D.tup?, D.lst?, D.ty?, En.g, En.p, En.wipe, En.back, Option.bind_some, Option.bind_none, List.length_cons, List.length_nil, List.map_cons, List.map_nil, List.replicate, List.cons_append, List.nil_append, List.set_cons_zero, List.set_cons_succ, List.getElem?_cons_zero, List.getElem?_cons_succ, List.getElem?_nil, Option.join_some, Option.join_none, Nat.reduceAdd, Nat.reduceSub, reduceIte, if_true, if_false, Bool.false_eq_true, D.flat, D.flats, flatIn_l, Bool.and_true, Bool.true_and, Bool.and_self, ix_t0, ix_t1, ix_t2, ix_l0, ix_l1, ix_l2, len_t, len_l, tup_l, add_i, max_2, min_2, sub_i, lt_i, le_i, gt_i, ge_i, neg_i, ne_i, eq_i, ne_s, eq_s, ne_b, eq_b, int_i, int_b, abs_i, bands_right ok hw.1 hw.2, ep, o_rev_B, even ok.rev hw.1 hw.2, even ok hw.1 hw.2, word_rev, beq_self_eq_true, Bool.not_true])
  subst f2
  obtain ⟨k3, p7, e7, k30, k31, h7⟩ := take (u := mo + 1) h6 (by simp; omega) (by omega) (by omega)
  have lc : e_lc (it_e (e_v 2)) (tg_t [tg_n 5, tg_n 6]) t_yes (e_v 5) [5, 6] [some p6, some (.int mo), some (bD B), some (.tup [.int (lst B), .int (mst B)]), x4, none, none] = some (.new (.lst ((B.map (·.1)).map .int)), [some p6, some (.int mo), some (bD B), some (.tup [.int (lst B), .int (mst B)]), x4, none, none]) := by
    refine lcX enc B (fun p => .int p.1) (e' := [some p6, some (.int mo), some (bD B), some (.tup [.int (lst B), .int (mst B)]), x4, none, none]) ?_ (List.map_map).symm rfl ?_
    · rfl
    exact fun q hq => ⟨[some p6, some (.int mo), some (bD B), some (.tup [.int (lst B), .int (mst B)]), x4, some (.int q.1), some (.int q.2)], .val (.int q.1), _, rfl, rfl, rfl, rfl⟩
  have ex := exact_right (row := B.map (·.1)) (w := k3) (fun z => ok.pos (List.map_eq_nil_iff.mp z)) (by rw [List.length_map]; exact ok.few) (fun x hx => by
    obtain ⟨q, hq, rfl⟩ := List.mem_map.mp hx
    have := ok.fine q hq
    omega) k30 (by omega)
  refine ⟨p7, ?_, h7.mono (by simp; omega)⟩
  simp only [F__law_right_87, B__law_right_87, fn, fnM, fin, finM, R.res, R.resM, e_v, e_o, e_c, e_un, e_bin, e_chain, e_and, e_or, e_not, e_if, t_v, t_and, t_or, t_not, t_yes, a_nil, a_cons, a_star, e_tup, e_lst, e_tupS, e_lstS, e_call, e_callM, e_meth, e_bm, e_cut, p_no, p_e, tg_n, tg_t, tg_s, s_nil, s_then, s_seq, s_set, s_setO, s_par2, s_par3, pick, s_tgt, s_ex, s_ret, s_retN, s_if, s_setix, it_e, it_r1, it_r2, it_enum, it_zip, e_lstR, e_tupR, R.at, R.st, R.ats, R.sts, R.atx, R.atxs, R.new?, R.bl?, R.seq?, D.seq?, D.int?, D.bl?, D.str?, D.tup?, D.lst?, D.ty?, En.g, En.p, En.wipe, En.back, Option.bind_some, Option.bind_none, List.length_cons, List.length_nil, List.map_cons, List.map_nil, List.replicate, List.cons_append, List.nil_append, List.set_cons_zero, List.set_cons_succ, List.getElem?_cons_zero, List.getElem?_cons_succ, List.getElem?_nil, Option.join_some, Option.join_none, Nat.reduceAdd, Nat.reduceSub, reduceIte, if_true, if_false, Bool.false_eq_true, D.flat, D.flats, flatIn_l, Bool.and_true, Bool.true_and, Bool.and_self, ix_t0, ix_t1, ix_t2, ix_l0, ix_l1, ix_l2, len_t, len_l, tup_l, add_i, max_2, min_2, sub_i, lt_i, le_i, gt_i, ge_i, neg_i, ne_i, eq_i, ne_s, eq_s, ne_b, eq_b, int_i, int_b, abs_i, e1, e2, e3, e4, uneven ok, law_uneven ok, ne_pp, o_rev_B, uneven ok.rev, mst_rev, lst_rev, beq_self_eq_true, Bool.not_true, s_for, e5]
  rw [show ([D.int (lst B), D.int (max 0 (lst B - 1)), D.int (mst B), D.int k2] : List D) = [lst B, max 0 (lst B - 1), mst B, k2].map D.int from rfl, f1]
  simp only [fn, fnM, fin, finM, R.res, R.resM, e_v, e_o, e_c, e_un, e_bin, e_chain, e_and, e_or, e_not, e_if, t_v, t_and, t_or, t_not, t_yes, a_nil, a_cons, a_star, e_tup, e_lst, e_tupS, e_lstS, e_call, e_callM, e_meth, e_bm, e_cut, p_no, p_e, tg_n, tg_t, tg_s, s_nil, s_then, s_seq, s_set, s_setO, s_par2, s_par3, pick, s_tgt, s_ex, s_ret, s_retN, s_if, s_setix, it_e, it_r1, it_r2, it_enum, it_zip, e_lstR, e_tupR, R.at, R.st, R.ats, R.sts, R.atx, R.atxs, R.new?, R.bl?, R.seq?, D.seq?, D.int?, D.bl?, D.str?, D.tup?, D.lst?, D.ty?, En.g, En.p, En.wipe, En.back, Option.bind_some, Option.bind_none, List.length_cons, List.length_nil, List.map_cons, List.map_nil, List.replicate, List.cons_append, List.nil_append, List.set_cons_zero, List.set_cons_succ, List.getElem?_cons_zero, List.getElem?_cons_succ, List.getElem?_nil, Option.join_some, Option.join_none, Nat.reduceAdd, Nat.reduceSub, reduceIte, if_true, if_false, Bool.false_eq_true, D.flat, D.flats, flatIn_l, Bool.and_true, Bool.true_and, Bool.and_self, ix_t0, ix_t1, ix_t2, ix_l0, ix_l1, ix_l2, len_t, len_l, tup_l, add_i, max_2, min_2, sub_i, lt_i, le_i, gt_i, ge_i, neg_i, ne_i, eq_i, ne_s, eq_s, ne_b, eq_b, int_i, int_b, abs_i, lc, e7, ex, h7.flat]
/-! ### the law -/
theorem three {s : D} {k : Int} {p : D} (h : Pot 0 p) : ∃ p', e_lc (it_r1 (e_c (.int 3))) (tg_n 3) t_yes (e_callM F__law_right_87 2 a_nil) [3] [some s, some (.int k), some p, none] = some (.new (.lst ([true, true, true].map .bl)), [some s, some (.int k), some p', none]) := by
  obtain ⟨p1, e1, h1⟩ := law_right h (by decide)
  obtain ⟨p2, e2, h2⟩ := law_right h1 (by decide)
  obtain ⟨p3, e3, h3⟩ := law_right h2 (by decide)
  have r1 : rngOk 3 = true := by rw [rngOk_def]; decide
  have r2 : le24 3 = true := by rw [le24_def]; decide
  have er : rngL 0 (3 : Int).toNat = [.int 0, .int 1, .int 2] := rfl
  exact ⟨p3, by simp only [e_lc, fn, fnM, fin, finM, R.res, R.resM, e_v, e_o, e_c, e_un, e_bin, e_chain, e_and, e_or, e_not, e_if, t_v, t_and, t_or, t_not, t_yes, a_nil, a_cons, a_star, e_tup, e_lst, e_tupS, e_lstS, e_call, e_callM, e_meth, e_bm, e_cut, p_no, p_e, tg_n, tg_t, tg_s, s_nil, s_then, s_seq, s_set, s_setO, s_par2, s_par3, pick, s_tgt, s_ex, s_ret, s_retN, s_if, s_setix, it_e, it_r1, it_r2, it_enum, it_zip, e_lstR, e_tupR, R.at, R.st, R.ats, R.sts, R.atx, R.atxs, R.new?, R.bl?, R.seq?, D.seq?, D.int?, D.bl?, D.str?, D.tup?, D.lst?, D.ty?, En.g, En.p, En.wipe, En.back, Option.bind_some, Option.bind_none, List.length_cons, List.length_nil, List.map_cons, List.map_nil, List.replicate, List.cons_append, List.nil_append, List.set_cons_zero, List.set_cons_succ, List.getElem?_cons_zero, List.getElem?_cons_succ, List.getElem?_nil, Option.join_some, Option.join_none, Nat.reduceAdd, Nat.reduceSub, reduceIte, if_true, if_false, Bool.false_eq_true, D.flat, D.flats, flatIn_l, Bool.and_true, Bool.true_and, Bool.and_self, ix_t0, ix_t1, ix_t2, ix_l0, ix_l1, ix_l2, len_t, len_l, tup_l, add_i, max_2, min_2, sub_i, lt_i, le_i, gt_i, ge_i, neg_i, ne_i, eq_i, ne_s, eq_s, ne_b, eq_b, int_i, int_b, abs_i, r1, r2, and_self, er, lcLoop, e1, e2, e3]⟩
theorem law_true (ns : List Int) (s : D) (h1 : ns.length ≤ 63) (hs : s = .scr (ns.map D.int) ∨ s = .lst (ns.map D.int)) : F_law_88 [s] = some (.val (.bl true)) := by
  have hq : IsSq s (ns.map D.int) := hs
  obtain ⟨e', f1, x1, x2, f2⟩ := for_pre (fun i : Int => D.int i) (g := tg_n 1) (b := s_seq (s_setO 2 (e_call F__law_pot_77 (a_cons (e_v 0) (a_cons (e_v 1) a_nil)))) (s_if (t_not (t_v (e_call o_all (a_cons (e_lc (it_r1 (e_c (.int 3))) (tg_n 3) t_yes (e_callM F__law_right_87 2 a_nil) [3]) a_nil)))) (s_ret (e_c (.bl false))) s_nil))
    (fun done e => ∃ x1 x2, e = [some s, x1, x2, none]) ((List.range (max 1 (min 3 ((ns.map D.int).length : Int))).toNat).map fun i => (0 : Int) + (i : Nat))
    [some s, none, none, none] ⟨none, none, rfl⟩ (fun done i rest e hf hi => by
      obtain ⟨x1, x2, rfl⟩ := hi
      have hm : i ∈ (List.range (max 1 (min 3 ((ns.map D.int).length : Int))).toNat).map fun i => (0 : Int) + (i : Nat) := by rw [hf]; exact List.mem_append_right _ List.mem_cons_self
      obtain ⟨k, hk, rfl⟩ := List.mem_map.mp hm
      have hk := List.mem_range.mp hk
      rw [List.length_map] at hk
      rw [Int.zero_add]
      have c1 : k < ns.length ∨ ns = [] := by
        by_cases z : ns = []
        · exact .inr z
        · have := List.length_pos_iff.mpr z
          exact .inl (by omega)
      obtain ⟨p, ep, hp⟩ := law_pot (s := s) (k := k) hq c1 (by omega)
      obtain ⟨p', e3⟩ := three (s := s) (k := (k : Int)) hp
      refine ⟨[some s, some (.int (k : Int)), x2, none], [some s, some (.int (k : Int)), some p', none], rfl, .inl ?_, _, _, rfl⟩
      have e4 : o_all [.lst [.bl true, .bl true, .bl true]] = some (.val (.bl true)) := rfl
      simp only [fn, fnM, fin, finM, R.res, R.resM, e_v, e_o, e_c, e_un, e_bin, e_chain, e_and, e_or, e_not, e_if, t_v, t_and, t_or, t_not, t_yes, a_nil, a_cons, a_star, e_tup, e_lst, e_tupS, e_lstS, e_call, e_callM, e_meth, e_bm, e_cut, p_no, p_e, tg_n, tg_t, tg_s, s_nil, s_then, s_seq, s_set, s_setO, s_par2, s_par3, pick, s_tgt, s_ex, s_ret, s_retN, s_if, s_setix, it_e, it_r1, it_r2, it_enum, it_zip, e_lstR, e_tupR, R.at, R.st, R.ats, R.sts, R.atx, R.atxs, R.new?, R.bl?, R.seq?, D.seq?, D.int?, D.bl?, D.str?, D.tup?, D.lst?, D.ty?, En.g, En.p, En.wipe, En.back, Option.bind_some, Option.bind_none, List.length_cons, List.length_nil, List.map_cons, List.map_nil, List.replicate, List.cons_append, List.nil_append, List.set_cons_zero, List.set_cons_succ, List.getElem?_cons_zero, List.getElem?_cons_succ, List.getElem?_nil, Option.join_some, Option.join_none, Nat.reduceAdd, Nat.reduceSub, reduceIte, if_true, if_false, Bool.false_eq_true, D.flat, D.flats, flatIn_l, Bool.and_true, Bool.true_and, Bool.and_self, ix_t0, ix_t1, ix_t2, ix_l0, ix_l1, ix_l2, len_t, len_l, tup_l, add_i, max_2, min_2, sub_i, lt_i, le_i, gt_i, ge_i, neg_i, ne_i, eq_i, ne_s, eq_s, ne_b, eq_b, int_i, int_b, abs_i, ep, e3, e4, Bool.not_true])
  subst f2
  rw [← rng_map] at f1
  simp only [F_law_88, B_law_88, fn, fnM, fin, finM, R.res, R.resM, e_v, e_o, e_c, e_un, e_bin, e_chain, e_and, e_or, e_not, e_if, t_v, t_and, t_or, t_not, t_yes, a_nil, a_cons, a_star, e_tup, e_lst, e_tupS, e_lstS, e_call, e_callM, e_meth, e_bm, e_cut, p_no, p_e, tg_n, tg_t, tg_s, s_nil, s_then, s_seq, s_set, s_setO, s_par2, s_par3, pick, s_tgt, s_ex, s_ret, s_retN, s_if, s_setix, it_e, it_r1, it_r2, it_enum, it_zip, e_lstR, e_tupR, R.at, R.st, R.ats, R.sts, R.atx, R.atxs, R.new?, R.bl?, R.seq?, D.seq?, D.int?, D.bl?, D.str?, D.tup?, D.lst?, D.ty?, En.g, En.p, En.wipe, En.back, Option.bind_some, Option.bind_none, List.length_cons, List.length_nil, List.map_cons, List.map_nil, List.replicate, List.cons_append, List.nil_append, List.set_cons_zero, List.set_cons_succ, List.getElem?_cons_zero, List.getElem?_cons_succ, List.getElem?_nil, Option.join_some, Option.join_none, Nat.reduceAdd, Nat.reduceSub, reduceIte, if_true, if_false, Bool.false_eq_true, D.flat, D.flats, flatIn_l, Bool.and_true, Bool.true_and, Bool.and_self, ix_t0, ix_t1, ix_t2, ix_l0, ix_l1, ix_l2, len_t, len_l, tup_l, add_i, max_2, min_2, sub_i, lt_i, le_i, gt_i, ge_i, neg_i, ne_i, eq_i, ne_s, eq_s, ne_b, eq_b, int_i, int_b, abs_i, law_cells hq, s_for, R.seq?, D.seq?]
  rw [f1]
  simp only [fn, fnM, fin, finM, R.res, R.resM, e_v, e_o, e_c, e_un, e_bin, e_chain, e_and, e_or, e_not, e_if, t_v, t_and, t_or, t_not, t_yes, a_nil, a_cons, a_star, e_tup, e_lst, e_tupS, e_lstS, e_call, e_callM, e_meth, e_bm, e_cut, p_no, p_e, tg_n, tg_t, tg_s, s_nil, s_then, s_seq, s_set, s_setO, s_par2, s_par3, pick, s_tgt, s_ex, s_ret, s_retN, s_if, s_setix, it_e, it_r1, it_r2, it_enum, it_zip, e_lstR, e_tupR, R.at, R.st, R.ats, R.sts, R.atx, R.atxs, R.new?, R.bl?, R.seq?, D.seq?, D.int?, D.bl?, D.str?, D.tup?, D.lst?, D.ty?, En.g, En.p, En.wipe, En.back, Option.bind_some, Option.bind_none, List.length_cons, List.length_nil, List.map_cons, List.map_nil, List.replicate, List.cons_append, List.nil_append, List.set_cons_zero, List.set_cons_succ, List.getElem?_cons_zero, List.getElem?_cons_succ, List.getElem?_nil, Option.join_some, Option.join_none, Nat.reduceAdd, Nat.reduceSub, reduceIte, if_true, if_false, Bool.false_eq_true, D.flat, D.flats, flatIn_l, Bool.and_true, Bool.true_and, Bool.and_self, ix_t0, ix_t1, ix_t2, ix_l0, ix_l1, ix_l2, len_t, len_l, tup_l, add_i, max_2, min_2, sub_i, lt_i, le_i, gt_i, ge_i, neg_i, ne_i, eq_i, ne_s, eq_s, ne_b, eq_b, int_i, int_b, abs_i]
end G56

/-! ## G56 -/
namespace G56
open PySem PySem.Spec PyProof.Rows L2 Mini
/-! ### the text -/
def topS (i : Nat) : Stmt := PySem.Challenge.pw_reeledeven_k56_whole_bounds_within_bands.main.body.getD i (.Pass ⟨0, 0, 0, 0⟩)
abbrev t__law_cells_80 : Stmt := topS 80
abbrev t__law_pot_77 : Stmt := topS 77
abbrev t__law_take_78 : Stmt := topS 78
abbrev t__law_of_79 : Stmt := topS 79
abbrev t__law_bounds_81 : Stmt := topS 81
abbrev t_is_tuple_1 : Stmt := topS 1
abbrev t_is_whole_2 : Stmt := topS 2
abbrev t_is_integer_3 : Stmt := topS 3
abbrev t_is_bound_18 : Stmt := topS 18
abbrev t_check_bounds_19 : Stmt := topS 19
abbrev t_others_of_21 : Stmt := topS 21
abbrev t_unevenness_22 : Stmt := topS 22
abbrev t_even_23 : Stmt := topS 23
abbrev t_is_row_50 : Stmt := topS 50
abbrev t_check_row_52 : Stmt := topS 52
abbrev t_check_width_53 : Stmt := topS 53
abbrev t_differ_54 : Stmt := topS 54
abbrev t_fewest_parts_55 : Stmt := topS 55
abbrev t_least_width_56 : Stmt := topS 56
abbrev t_is_sizes_32 : Stmt := topS 32
abbrev t_check_sizes_33 : Stmt := topS 33
abbrev t_check_number_38 : Stmt := topS 38
abbrev t_rising_35 : Stmt := topS 35
abbrev t_classes_of_36 : Stmt := topS 36
abbrev t_least_spread_39 : Stmt := topS 39
abbrev t_check_spread_34 : Stmt := topS 34
abbrev t_fewest_classes_37 : Stmt := topS 37
abbrev t__law_are_exact_right_86 : Stmt := topS 86
abbrev t__law_unevenness_82 : Stmt := topS 82
abbrev t_is_bounds_65 : Stmt := topS 65
abbrev t_check_bounds_66 : Stmt := topS 66
abbrev t_is_band_43 : Stmt := topS 43
abbrev t_check_band_44 : Stmt := topS 44
abbrev t_verdict_of_70 : Stmt := topS 70
abbrev t_even_71 : Stmt := topS 71
abbrev t__law_word_83 : Stmt := topS 83
abbrev t__law_are_bands_right_84 : Stmt := topS 84
abbrev t_why_even_27 : Stmt := topS 27
abbrev t_even_paper_73 : Stmt := topS 73
abbrev t_shows_even_25 : Stmt := topS 25
abbrev t_is_row_68 : Stmt := topS 68
abbrev t_shows_even_74 : Stmt := topS 74
abbrev t__law_are_papers_right_85 : Stmt := topS 85
abbrev t__law_right_87 : Stmt := topS 87
abbrev t_law_88 : Stmt := topS 88
theorem z__law_cells_80 : FnScope ["script", "most"] ["script", "most"] (defScope t__law_cells_80) := ⟨rfl, rfl, rfl, by decide +kernel, rfl, by decide +kernel, by decide +kernel⟩
theorem z__law_pot_77 : FnScope ["script", "place", "cell", "own", "small"] ["script", "place"] (defScope t__law_pot_77) := ⟨rfl, rfl, rfl, by decide +kernel, rfl, by decide +kernel, by decide +kernel⟩
theorem z__law_take_78 : FnScope ["pot", "upto", "digit", "prime", "blend"] ["pot", "upto"] (defScope t__law_take_78) := ⟨rfl, rfl, rfl, by decide +kernel, rfl, by decide +kernel, by decide +kernel⟩
theorem z__law_of_79 : FnScope ["pot", "some"] ["pot", "some"] (defScope t__law_of_79) := ⟨rfl, rfl, rfl, by decide +kernel, rfl, by decide +kernel, by decide +kernel⟩
theorem z__law_bounds_81 : FnScope ["pot", "many", "most", "found", "lap", "one", "other"] ["pot", "many", "most"] (defScope t__law_bounds_81) := ⟨rfl, rfl, rfl, by decide +kernel, rfl, by decide +kernel, by decide +kernel⟩
theorem z_is_tuple_1 : FnScope ["value", "least", "most"] ["value", "least", "most"] (defScope t_is_tuple_1) := ⟨rfl, rfl, rfl, by decide +kernel, rfl, by decide +kernel, by decide +kernel⟩
theorem z_is_whole_2 : FnScope ["value"] ["value"] (defScope t_is_whole_2) := ⟨rfl, rfl, rfl, by decide +kernel, rfl, by decide +kernel, by decide +kernel⟩
theorem z_is_integer_3 : FnScope ["value", "low", "high"] ["value", "low", "high"] (defScope t_is_integer_3) := ⟨rfl, rfl, rfl, by decide +kernel, rfl, by decide +kernel, by decide +kernel⟩
theorem z_is_bound_18 : FnScope ["value"] ["value"] (defScope t_is_bound_18) := ⟨rfl, rfl, rfl, by decide +kernel, rfl, by decide +kernel, by decide +kernel⟩
theorem z_check_bounds_19 : FnScope ["value", "one"] ["value"] (defScope t_check_bounds_19) := ⟨rfl, rfl, rfl, by decide +kernel, rfl, by decide +kernel, by decide +kernel⟩
theorem z_others_of_21 : FnScope ["bounds", "at"] ["bounds", "at"] (defScope t_others_of_21) := ⟨rfl, rfl, rfl, by decide +kernel, rfl, by decide +kernel, by decide +kernel⟩
theorem z_unevenness_22 : FnScope ["bounds", "low", "some", "at", "least", "most", "one"] ["bounds"] (defScope t_unevenness_22) := ⟨rfl, rfl, rfl, by decide +kernel, rfl, by decide +kernel, by decide +kernel⟩
theorem z_even_23 : FnScope ["bounds", "within", "least", "most"] ["bounds", "within"] (defScope t_even_23) := ⟨rfl, rfl, rfl, by decide +kernel, rfl, by decide +kernel, by decide +kernel⟩
theorem z_is_row_50 : FnScope ["value", "one"] ["value"] (defScope t_is_row_50) := ⟨rfl, rfl, rfl, by decide +kernel, rfl, by decide +kernel, by decide +kernel⟩
theorem z_check_row_52 : FnScope ["value"] ["value"] (defScope t_check_row_52) := ⟨rfl, rfl, rfl, by decide +kernel, rfl, by decide +kernel, by decide +kernel⟩
theorem z_check_width_53 : FnScope ["row", "width"] ["row", "width"] (defScope t_check_width_53) := ⟨rfl, rfl, rfl, by decide +kernel, rfl, by decide +kernel, by decide +kernel⟩
theorem z_differ_54 : FnScope ["row", "begin", "end", "some"] ["row", "begin", "end"] (defScope t_differ_54) := ⟨rfl, rfl, rfl, by decide +kernel, rfl, by decide +kernel, by decide +kernel⟩
theorem z_fewest_parts_55 : FnScope ["row", "width", "begins", "spans", "yard"] ["row", "width"] (defScope t_fewest_parts_55) := ⟨rfl, rfl, rfl, by decide +kernel, rfl, by decide +kernel, by decide +kernel⟩
theorem z_least_width_56 : FnScope ["row", "parts", "low", "high", "middle"] ["row", "parts"] (defScope t_least_width_56) := ⟨rfl, rfl, rfl, by decide +kernel, rfl, by decide +kernel, by decide +kernel⟩
theorem z_is_sizes_32 : FnScope ["value", "one"] ["value"] (defScope t_is_sizes_32) := ⟨rfl, rfl, rfl, by decide +kernel, rfl, by decide +kernel, by decide +kernel⟩
theorem z_check_sizes_33 : FnScope ["value"] ["value"] (defScope t_check_sizes_33) := ⟨rfl, rfl, rfl, by decide +kernel, rfl, by decide +kernel, by decide +kernel⟩
theorem z_check_number_38 : FnScope ["sizes", "value"] ["sizes", "value"] (defScope t_check_number_38) := ⟨rfl, rfl, rfl, by decide +kernel, rfl, by decide +kernel, by decide +kernel⟩
theorem z_rising_35 : FnScope ["sizes"] ["sizes"] (defScope t_rising_35) := ⟨rfl, rfl, rfl, by decide +kernel, rfl, by decide +kernel, by decide +kernel⟩
theorem z_classes_of_36 : FnScope ["sizes", "spread", "left", "found", "firsts", "first", "some", "one"] ["sizes", "spread"] (defScope t_classes_of_36) := ⟨rfl, rfl, rfl, by decide +kernel, rfl, by decide +kernel, by decide +kernel⟩
theorem z_least_spread_39 : FnScope ["sizes", "number", "low", "high", "middle", "is_enough"] ["sizes", "number"] (defScope t_least_spread_39) := ⟨rfl, rfl, rfl, by decide +kernel, rfl, by decide +kernel, by decide +kernel⟩
theorem z_check_spread_34 : FnScope ["value"] ["value"] (defScope t_check_spread_34) := ⟨rfl, rfl, rfl, by decide +kernel, rfl, by decide +kernel, by decide +kernel⟩
theorem z_fewest_classes_37 : FnScope ["sizes", "spread"] ["sizes", "spread"] (defScope t_fewest_classes_37) := ⟨rfl, rfl, rfl, by decide +kernel, rfl, by decide +kernel, by decide +kernel⟩
theorem z__law_are_exact_right_86 : FnScope ["row", "within", "exact", "wide", "word", "one"] ["row", "within"] (defScope t__law_are_exact_right_86) := ⟨rfl, rfl, rfl, by decide +kernel, rfl, by decide +kernel, by decide +kernel⟩
theorem z__law_unevenness_82 : FnScope ["bounds", "least", "most", "at", "low", "high", "to", "other"] ["bounds"] (defScope t__law_unevenness_82) := ⟨rfl, rfl, rfl, by decide +kernel, rfl, by decide +kernel, by decide +kernel⟩
theorem z_is_bounds_65 : FnScope ["value", "least", "most", "one"] ["value"] (defScope t_is_bounds_65) := ⟨rfl, rfl, rfl, by decide +kernel, rfl, by decide +kernel, by decide +kernel⟩
theorem z_check_bounds_66 : FnScope ["value"] ["value"] (defScope t_check_bounds_66) := ⟨rfl, rfl, rfl, by decide +kernel, rfl, by decide +kernel, by decide +kernel⟩
theorem z_is_band_43 : FnScope ["value"] ["value"] (defScope t_is_band_43) := ⟨rfl, rfl, rfl, by decide +kernel, rfl, by decide +kernel, by decide +kernel⟩
theorem z_check_band_44 : FnScope ["value"] ["value"] (defScope t_check_band_44) := ⟨rfl, rfl, rfl, by decide +kernel, rfl, by decide +kernel, by decide +kernel⟩
theorem z_verdict_of_70 : FnScope ["bounds", "band", "least", "most"] ["bounds", "band"] (defScope t_verdict_of_70) := ⟨rfl, rfl, rfl, by decide +kernel, rfl, by decide +kernel, by decide +kernel⟩
theorem z_even_71 : FnScope ["bounds", "band"] ["bounds", "band"] (defScope t_even_71) := ⟨rfl, rfl, rfl, by decide +kernel, rfl, by decide +kernel, by decide +kernel⟩
theorem z__law_word_83 : FnScope ["words"] ["words"] (defScope t__law_word_83) := ⟨rfl, rfl, rfl, by decide +kernel, rfl, by decide +kernel, by decide +kernel⟩
theorem z__law_are_bands_right_84 : FnScope ["bounds", "within", "word", "lows", "words", "low", "high"] ["bounds", "within"] (defScope t__law_are_bands_right_84) := ⟨rfl, rfl, rfl, by decide +kernel, rfl, by decide +kernel, by decide +kernel⟩
theorem z_why_even_27 : FnScope ["bounds", "within", "word", "lows", "highs", "middle", "near", "far", "one", "much", "other", "row", "at", "least", "most"] ["bounds", "within"] (defScope t_why_even_27) := ⟨rfl, rfl, rfl, by decide +kernel, rfl, by decide +kernel, by decide +kernel⟩
theorem z_even_paper_73 : FnScope ["bounds", "band", "word", "fine", "wild", "least", "most", "at"] ["bounds", "band"] (defScope t_even_paper_73) := ⟨rfl, rfl, rfl, by decide +kernel, rfl, by decide +kernel, by decide +kernel⟩
theorem z_shows_even_25 : FnScope ["bounds", "within", "value", "word", "row", "one", "least", "most", "at"] ["bounds", "within", "value"] (defScope t_shows_even_25) := ⟨rfl, rfl, rfl, by decide +kernel, rfl, by decide +kernel, by decide +kernel⟩
theorem z_is_row_68 : FnScope ["bounds", "value", "one", "least", "most"] ["bounds", "value"] (defScope t_is_row_68) := ⟨rfl, rfl, rfl, by decide +kernel, rfl, by decide +kernel, by decide +kernel⟩
theorem z_shows_even_74 : FnScope ["bounds", "band", "value", "word", "least", "most", "found", "row", "one"] ["bounds", "band", "value"] (defScope t_shows_even_74) := ⟨rfl, rfl, rfl, by decide +kernel, rfl, by decide +kernel, by decide +kernel⟩
theorem z__law_are_papers_right_85 : FnScope ["pot", "bounds", "within", "told", "one", "other", "fine", "wild", "band", "exact", "low", "paper", "wide"] ["pot", "bounds", "within"] (defScope t__law_are_papers_right_85) := ⟨rfl, rfl, rfl, by decide +kernel, rfl, by decide +kernel, by decide +kernel⟩
theorem z__law_right_87 : FnScope ["pot", "most", "bounds", "told", "within", "low", "high"] ["pot"] (defScope t__law_right_87) := ⟨rfl, rfl, rfl, by decide +kernel, rfl, by decide +kernel, by decide +kernel⟩
theorem z_law_88 : FnScope ["script", "place", "pot", "lap"] ["script"] (defScope t_law_88) := ⟨rfl, rfl, rfl, by decide +kernel, rfl, by decide +kernel, by decide +kernel⟩
section
variable [Tb] {P : Program} {w : World} {K : PySem.W.Frag} {mg : Str → Option Value} {base : Heap}
theorem ok__law_cells_80 {f : Addr} {fd : FuncData} (F : Fun K "_law_cells" "_law_cells" t__law_cells_80 f fd) (Z : Blt mg)  : FnOk P w K mg base CX0 1 f fd ["script", "most"] (spP K F__law_cells_80) := by
  refine fn_ok (k := 0) (O := []) F z__law_cells_80 rfl rfl rfl (by decide) fun cdv A outer s H E hc0 hr => ?_
  have nd := z__law_cells_80.nd
  have hu := hr.units
  have hu1 := Room.units1 hr
  have hd := hr.hd
  exact (gs_one (gs_ret (gL1 rfl Z.list Z.range (gB (b_max rfl hu hd) boot_max Z.max (g_cons (g_c pe_int) (g_cons (gB (b_min rfl hu hd) boot_min Z.min (g_cons (g_v 1 (pv 1)) (g_cons (gB b_len boot_len Z.len (g_cons (g_v 0 (pv 0)) g_nil)) g_nil))) g_nil))))))
theorem ok__law_pot_77 {f : Addr} {fd : FuncData} (F : Fun K "_law_pot" "_law_pot" t__law_pot_77 f fd) (Z : Blt mg)  : FnOk P w K mg base CX0 1 f fd ["script", "place"] (spP K F__law_pot_77) := by
  refine fn_ok (k := 0) (O := []) F z__law_pot_77 rfl rfl rfl (by decide) fun cdv A outer s H E hc0 hr => ?_
  have nd := z__law_pot_77.nd
  have hu := hr.units
  have hu1 := Room.units1 hr
  have hd := hr.hd
  exact (gs_cons (gA 2 nd (g_if (g_tcmp s_lt (g_v 1 (pv 1)) (gB b_len boot_len Z.len (g_cons (g_v 0 (pv 0)) g_nil))) (g_ix s_ix (g_v 0 (pv 0)) (g_v 1 (pv 1))) (g_bin s_add (g_bin s_add (g_bin s_mod (gB (b_sum rfl) boot_sum Z.sum (g_cons (g_cut (g_v 0 (pv 0)) gp_no (gp_e (g_c pe_int))) g_nil)) (g_c pe_int)) (g_bin s_mulI (g_c pe_int) (g_v 1 (pv 1)))) (g_c pe_int)))) (gs_cons (gA 3 nd (g_bin s_mulI (g_bin s_mod (gT b_int boot_int Z.int (g_cons (gB b_abs boot_abs Z.abs (g_cons (g_v 2 (pv 2)) g_nil)) g_nil)) (g_bin s_pow (g_bin s_pow (g_c pe_int) (g_c pe_int)) (g_c pe_int))) (gT b_int boot_int Z.int (g_cons (g_cmp s_ge (gB b_abs boot_abs Z.abs (g_cons (g_v 2 (pv 2)) g_nil)) (g_bin s_pow (g_c pe_int) (g_c pe_int))) g_nil)))) (gs_cons (gA 4 nd (g_bin s_mod (gT b_int boot_int Z.int (g_cons (g_v 2 (pv 2)) g_nil)) (g_c pe_int))) (gs_one (gs_ret (g_lst (g_cons (g_v 3 (pv 3)) (g_cons (g_bin s_mod (gT b_int boot_int Z.int (g_cons (g_bin s_add (g_bin s_add (g_bin s_mulI (g_v 4 (pv 4)) (g_c pe_int)) (g_bin s_mulI (g_bin s_mulI (g_c pe_int) (g_v 1 (pv 1))) (g_v 1 (pv 1)))) (g_c pe_int)) g_nil)) (g_c pe_int)) (g_cons (g_c pe_int) g_nil)))))))))
theorem ok__law_take_78 {f : Addr} {fd : FuncData} (F : Fun K "_law_take" "_law_take" t__law_take_78 f fd) (Z : Blt mg)  : FnOk P w K mg base CX0 1 f fd ["pot", "upto"] (spM K F__law_take_78) := by
  refine fnM_ok (k := 0) (O := [0]) F z__law_take_78 rfl (by decide) rfl rfl (by decide) fun cdv A outer s H E hc0 hr => ?_
  have nd := z__law_take_78.nd
  have hu := hr.units
  have hu1 := Room.units1 hr
  have hd := hr.hd
  exact (gs_cons (gs_if (g_tcmp s_gt (g_ix s_ix (g_o 0 (pv 0)) (g_c pe_int)) (g_c pe_int)) (gs_cons (gA 2 nd (g_bin s_mod (gT b_int boot_int Z.int (g_cons (g_ix s_ix (g_o 0 (pv 0)) (g_c pe_int)) g_nil)) (g_v 1 (pv 1)))) (gs_cons (gIx 0 (pv 0) (g_c pe_int) (g_bin s_fdiv (g_ix s_ix (g_o 0 (pv 0)) (g_c pe_int)) (g_v 1 (pv 1)))) (gs_one (gs_ret (g_v 2 (pv 2)))))) gs_nil) (gs_cons (gIx 0 (pv 0) (g_c pe_int) (g_bin s_add (g_ix s_ix (g_o 0 (pv 0)) (g_c pe_int)) (g_c pe_int))) (gs_cons (gA 3 nd (g_ix s_ix (g_lst (g_cons (g_c pe_int) (g_cons (g_c pe_int) (g_cons (g_c pe_int) (g_cons (g_c pe_int) (g_cons (g_c pe_int) g_nil)))))) (g_bin s_mod (gT b_int boot_int Z.int (g_cons (g_ix s_ix (g_o 0 (pv 0)) (g_c pe_int)) g_nil)) (g_c pe_int)))) (gs_cons (gA 4 nd (g_bin s_mod (gT b_int boot_int Z.int (g_cons (g_bin s_pow (gT b_int boot_int Z.int (g_cons (g_bin s_add (g_bin s_add (g_ix s_ix (g_o 0 (pv 0)) (g_c pe_int)) (g_bin s_mulI (g_bin s_mulI (g_c pe_int) (g_ix s_ix (g_o 0 (pv 0)) (g_c pe_int))) (g_ix s_ix (g_o 0 (pv 0)) (g_c pe_int)))) (g_c pe_int)) g_nil)) (g_c pe_int)) g_nil)) (g_v 3 (pv 3)))) (gs_cons (gA 4 nd (g_bin s_mod (gT b_int boot_int Z.int (g_cons (g_bin s_mulI (g_v 4 (pv 4)) (g_bin s_add (g_bin s_mod (gT b_int boot_int Z.int (g_cons (g_v 4 (pv 4)) g_nil)) (g_c pe_int)) (g_bin s_mulI (g_c pe_int) (g_ix s_ix (g_o 0 (pv 0)) (g_c pe_int))))) g_nil)) (g_c pe_int))) (gs_one (gs_ret (g_bin s_mod (gT b_int boot_int Z.int (g_cons (g_bin s_fdiv (g_v 4 (pv 4)) (g_c pe_int)) g_nil)) (g_v 1 (pv 1))))))))))
theorem ok__law_of_79 {f : Addr} {fd : FuncData} (F : Fun K "_law_of" "_law_of" t__law_of_79 f fd) (Z : Blt mg) (k__law_take : Mini.Cl P w K mg base "_law_take" ["pot", "upto"] 1 (spM K F__law_take_78)) : FnOk P w K mg base CX0 2 f fd ["pot", "some"] (spM K F__law_of_79) := by
  refine fnM_ok (k := 1) (O := [0]) F z__law_of_79 rfl (by decide) rfl rfl (by decide) fun cdv A outer s H E hc0 hr => ?_
  have nd := z__law_of_79.nd
  have hu := hr.units
  have hu1 := Room.units1 hr
  have hd := hr.hd
  exact (gs_one (gs_ret (g_ix s_ix (g_v 1 (pv 1)) (gM 0 k__law_take hr (pv 0) (g_cons (gB b_len boot_len Z.len (g_cons (g_v 1 (pv 1)) g_nil)) g_nil)))))
theorem ok__law_bounds_81 {f : Addr} {fd : FuncData} (F : Fun K "_law_bounds" "_law_bounds" t__law_bounds_81 f fd) (Z : Blt mg) (k__law_take : Mini.Cl P w K mg base "_law_take" ["pot", "upto"] 1 (spM K F__law_take_78)) : FnOk P w K mg base CX0 2 f fd ["pot", "many", "most"] (spM K F__law_bounds_81) := by
  refine fnM_ok (k := 1) (O := [0, 3]) F z__law_bounds_81 rfl (by decide) rfl rfl (by decide) fun cdv A outer s H E hc0 hr => ?_
  have nd := z__law_bounds_81.nd
  have hu := hr.units
  have hu1 := Room.units1 hr
  have hd := hr.hd
  exact (gs_cons (gAo 3 nd (g_lst g_nil)) (gs_cons (gs_for (gR1 Z.range (g_v 1 (pv 1))) (gN 4 nd) (gs_cons (gA 5 nd (gT b_int boot_int Z.int (g_cons (gM 0 k__law_take hr (pv 0) (g_cons (g_bin s_add (g_v 2 (pv 2)) (g_c pe_int)) g_nil)) g_nil))) (gs_cons (gA 6 nd (g_if (g_tcmp s_gt (gM 0 k__law_take hr (pv 0) (g_cons (g_c pe_int) g_nil)) (g_c pe_int)) (gT b_int boot_int Z.int (g_cons (gM 0 k__law_take hr (pv 0) (g_cons (g_bin s_add (g_v 2 (pv 2)) (g_c pe_int)) g_nil)) g_nil)) (g_v 5 (pv 5)))) (gs_one (gE (gMe 3 ms_append PySem.F.slot_list_append PySem.F.type_list_append (pv 3) (g_cons (g_tup (g_cons (gB (b_min rfl hu hd) boot_min Z.min (g_cons (g_v 5 (pv 5)) (g_cons (g_v 6 (pv 6)) g_nil))) (g_cons (gB (b_max rfl hu hd) boot_max Z.max (g_cons (g_v 5 (pv 5)) (g_cons (g_v 6 (pv 6)) g_nil))) g_nil))) g_nil))))))) (gs_one (gs_ret (gT b_tuple boot_tuple Z.tuple (g_cons (g_o 3 (pv 3)) g_nil))))))
theorem ok_is_tuple_1 {f : Addr} {fd : FuncData} (F : Fun K "is_tuple" "is_tuple" t_is_tuple_1 f fd) (Z : Blt mg)  : FnOk P w K mg base CX0 1 f fd ["value", "least", "most"] (spP K F_is_tuple_1) := by
  refine fn_ok (k := 0) (O := []) F z_is_tuple_1 rfl rfl rfl (by decide) fun cdv A outer s H E hc0 hr => ?_
  have nd := z_is_tuple_1.nd
  have hu := hr.units
  have hu1 := Room.units1 hr
  have hd := hr.hd
  exact (gs_one (gs_ret (g_and (gB b_isi boot_isinstance Z.isinstance (g_cons (g_v 0 (pv 0)) (g_cons (gY Z.tuple boot_tuple) g_nil))) (g_one (gCh s_le s_le (g_v 1 (pv 1)) (gB b_len boot_len Z.len (g_cons (g_v 0 (pv 0)) g_nil)) (g_v 2 (pv 2)))))))
theorem ok_is_whole_2 {f : Addr} {fd : FuncData} (F : Fun K "is_whole" "is_whole" t_is_whole_2 f fd) (Z : Blt mg)  : FnOk P w K mg base CX0 1 f fd ["value"] (spP K F_is_whole_2) := by
  refine fn_ok (k := 0) (O := []) F z_is_whole_2 rfl rfl rfl (by decide) fun cdv A outer s H E hc0 hr => ?_
  have nd := z_is_whole_2.nd
  have hu := hr.units
  have hu1 := Room.units1 hr
  have hd := hr.hd
  exact (gs_one (gs_ret (g_and (gB b_isi boot_isinstance Z.isinstance (g_cons (g_v 0 (pv 0)) (g_cons (gY Z.int boot_int) g_nil))) (g_one (g_not (gB b_isi boot_isinstance Z.isinstance (g_cons (g_v 0 (pv 0)) (g_cons (gY Z.bool boot_bool) g_nil))))))))
theorem ok_is_integer_3 {f : Addr} {fd : FuncData} (F : Fun K "is_integer" "is_integer" t_is_integer_3 f fd) (Z : Blt mg) (k_is_whole : Mini.Cl P w K mg base "is_whole" ["value"] 1 (spP K F_is_whole_2)) : FnOk P w K mg base CX0 2 f fd ["value", "low", "high"] (spP K F_is_integer_3) := by
  refine fn_ok (k := 1) (O := []) F z_is_integer_3 rfl rfl rfl (by decide) fun cdv A outer s H E hc0 hr => ?_
  have nd := z_is_integer_3.nd
  have hu := hr.units
  have hu1 := Room.units1 hr
  have hd := hr.hd
  exact (gs_one (gs_ret (g_and (gD k_is_whole hr (g_cons (g_v 0 (pv 0)) g_nil)) (g_one (gCh s_le s_le (g_v 1 (pv 1)) (g_v 0 (pv 0)) (g_v 2 (pv 2)))))))
theorem ok_is_bound_18 {f : Addr} {fd : FuncData} (F : Fun K "is_bound" "is_bound" t_is_bound_18 f fd) (Z : Blt mg) (c_PAIR_bounds : ∃ t, mg "PAIR_bounds" = some (Value.int 2 t)) (c_MOST_STRENGTH : ∃ t, mg "MOST_STRENGTH" = some (Value.int 1000 t)) (k_is_tuple : Mini.Cl P w K mg base "is_tuple" ["value", "least", "most"] 1 (spP K F_is_tuple_1)) (k_is_integer : Mini.Cl P w K mg base "is_integer" ["value", "low", "high"] 2 (spP K F_is_integer_3)) : FnOk P w K mg base CX0 3 f fd ["value"] (spP K F_is_bound_18) := by
  refine fn_ok (k := 2) (O := []) F z_is_bound_18 rfl rfl rfl (by decide) fun cdv A outer s H E hc0 hr => ?_
  have nd := z_is_bound_18.nd
  have hu := hr.units
  have hu1 := Room.units1 hr
  have hd := hr.hd
  exact (gs_cons (gs_if (PW.pt (g_tor (g_tnot (gTv (gD k_is_tuple hr (g_cons (g_v 0 (pv 0)) (g_cons (gC (v := .int 2) (c_PAIR_bounds).choose_spec ⟨_, rfl⟩) (g_cons (gC (v := .int 2) (c_PAIR_bounds).choose_spec ⟨_, rfl⟩) g_nil)))))) (g_tor1 (g_tnot (gTv (gD k_is_integer hr (g_cons (g_ix s_ix (g_v 0 (pv 0)) (g_c pe_int)) (g_cons (g_c pe_int) (g_cons (gC (v := .int 1000) (c_MOST_STRENGTH).choose_spec ⟨_, rfl⟩) g_nil))))))))) (gs_one (gs_ret (g_c pe_bl))) gs_nil) (gs_one (gs_ret (gD k_is_integer hr (g_cons (g_ix s_ix (g_v 0 (pv 0)) (g_c pe_int)) (g_cons (g_ix s_ix (g_v 0 (pv 0)) (g_c pe_int)) (g_cons (gC (v := .int 1000) (c_MOST_STRENGTH).choose_spec ⟨_, rfl⟩) g_nil)))))))
theorem ok_check_bounds_19 {f : Addr} {fd : FuncData} (F : Fun K "check_bounds" "check_bounds" t_check_bounds_19 f fd) (Z : Blt mg) (c_MOST_STRANDS : ∃ t, mg "MOST_STRANDS" = some (Value.int 20 t)) (k_is_tuple : Mini.Cl P w K mg base "is_tuple" ["value", "least", "most"] 1 (spP K F_is_tuple_1)) (k_is_bound : Mini.Cl P w K mg base "is_bound" ["value"] 3 (spP K F_is_bound_18)) : FnOk P w K mg base CX0 4 f fd ["value"] (spP K F_check_bounds_19) := by
  refine fn_ok (k := 3) (O := []) F z_check_bounds_19 rfl rfl rfl (by decide) fun cdv A outer s H E hc0 hr => ?_
  have nd := z_check_bounds_19.nd
  have hu := hr.units
  have hu1 := Room.units1 hr
  have hd := hr.hd
  exact (gs_one (gs_if (PW.pt (g_tor (g_tnot (gTv (gD k_is_tuple hr (g_cons (g_v 0 (pv 0)) (g_cons (g_c pe_int) (g_cons (gC (v := .int 20) (c_MOST_STRANDS).choose_spec ⟨_, rfl⟩) g_nil)))))) (g_tor1 (g_tnot (gTv (gB (b_all rfl) boot_all Z.all (g_cons (gLc [("one", 1)] rfl nd (pi_e (g_v 0 (pv 0))) (by first | decide +kernel | rfl) (fun _ _ _ _ _ => (gN 1 nd)) (fun _ _ _ _ _ => g_yes) (fun _ _ _ _ _ => (gD k_is_bound hr (g_cons (g_v 1 (pv 1)) g_nil)))) g_nil))))))) (gs_one gs_never) gs_nil))
theorem ok_others_of_21 {f : Addr} {fd : FuncData} (F : Fun K "others_of" "others_of" t_others_of_21 f fd) (Z : Blt mg)  : FnOk P w K mg base CX0 1 f fd ["bounds", "at"] (spP K F_others_of_21) := by
  refine fn_ok (k := 0) (O := []) F z_others_of_21 rfl rfl rfl (by decide) fun cdv A outer s H E hc0 hr => ?_
  have nd := z_others_of_21.nd
  have hu := hr.units
  have hu1 := Room.units1 hr
  have hd := hr.hd
  exact (gs_one (gs_ret (g_lstS (gb_star (g_cut (g_v 0 (pv 0)) gp_no (gp_e (g_v 1 (pv 1)))) (gb_star (g_cut (g_v 0 (pv 0)) (gp_e (g_bin s_add (g_v 1 (pv 1)) (g_c pe_int))) gp_no) gb_nil)))))
theorem ok_unevenness_22 {f : Addr} {fd : FuncData} (F : Fun K "unevenness" "unevenness" t_unevenness_22 f fd) (Z : Blt mg) (k_check_bounds_bounds : Mini.Cl P w K mg base "check_bounds_bounds" ["value"] 4 (spP K F_check_bounds_19)) (k_others_of : Mini.Cl P w K mg base "others_of" ["bounds", "at"] 1 (spP K F_others_of_21)) : FnOk P w K mg base CX0 5 f fd ["bounds"] (spP K F_unevenness_22) := by
  refine fn_ok (k := 4) (O := [2]) F z_unevenness_22 rfl rfl rfl (by decide) fun cdv A outer s H E hc0 hr => ?_
  have nd := z_unevenness_22.nd
  have hu := hr.units
  have hu1 := Room.units1 hr
  have hd := hr.hd
  exact (gs_cons (gE (gD k_check_bounds_bounds hr (g_cons (g_v 0 (pv 0)) g_nil))) (gs_cons (gA 1 nd (g_bin s_sub (gB (b_max rfl hu hd) boot_max Z.max (g_cons (gLc [("least", 4), ("most", 5)] rfl nd (pi_e (g_v 0 (pv 0))) (by first | decide +kernel | rfl) (fun _ _ _ _ _ => (gTT rfl (gg_cons (gN 4 nd) (gg_cons (gN 5 nd) gg_nil)))) (fun _ _ _ _ _ => g_yes) (fun _ _ _ _ _ => (g_v 4 (pv 4)))) g_nil)) (gB (b_min rfl hu hd) boot_min Z.min (g_cons (gLc [("least", 4), ("most", 5)] rfl nd (pi_e (g_v 0 (pv 0))) (by first | decide +kernel | rfl) (fun _ _ _ _ _ => (gTT rfl (gg_cons (gN 4 nd) (gg_cons (gN 5 nd) gg_nil)))) (fun _ _ _ _ _ => g_yes) (fun _ _ _ _ _ => (g_v 5 (pv 5)))) g_nil)))) (gs_cons (gAo 2 nd (g_lst (g_cons (g_c pe_int) g_nil))) (gs_cons (gs_for (gEn Z.enumerate (g_v 0 (pv 0))) (gTT rfl (gg_cons (gN 3 nd) (gg_cons (gTT rfl (gg_cons (gN 4 nd) (gg_cons (gN 5 nd) gg_nil))) gg_nil))) (gs_one (gE (gMe 2 ms_extend PySem.F.slot_list_extend PySem.F.type_list_extend (pv 2) (g_cons (gLc [("one", 6)] rfl nd (pi_e (gD k_others_of hr (g_cons (g_v 0 (pv 0)) (g_cons (g_v 3 (pv 3)) g_nil)))) (by first | decide +kernel | rfl) (fun _ _ _ _ _ => (gN 6 nd)) (fun _ _ _ _ _ => g_yes) (fun _ _ _ _ _ => (g_bin s_sub (g_v 5 (pv 5)) (g_ix s_ix (g_v 6 (pv 6)) (g_c pe_int))))) g_nil))))) (gs_one (gs_ret (g_tup (g_cons (gB (b_max rfl hu hd) boot_max Z.max (g_cons (g_c pe_int) (g_cons (g_v 1 (pv 1)) g_nil))) (g_cons (gB (b_max rfl hu hd) boot_max Z.max (g_cons (g_o 2 (pv 2)) g_nil)) g_nil)))))))))
theorem ok_even_23 {f : Addr} {fd : FuncData} (F : Fun K "even" "even" t_even_23 f fd) (Z : Blt mg) (c_MOST_STRENGTH : ∃ t, mg "MOST_STRENGTH" = some (Value.int 1000 t)) (c_SURE_bounds : ∃ t, mg "SURE_bounds" = some (Value.str "sure" t)) (c_NEVER_bounds : ∃ t, mg "NEVER_bounds" = some (Value.str "never" t)) (c_OPEN_bounds : ∃ t, mg "OPEN_bounds" = some (Value.str "open" t)) (k_check_bounds_bounds : Mini.Cl P w K mg base "check_bounds_bounds" ["value"] 4 (spP K F_check_bounds_19)) (k_is_integer : Mini.Cl P w K mg base "is_integer" ["value", "low", "high"] 2 (spP K F_is_integer_3)) (k_unevenness : Mini.Cl P w K mg base "unevenness" ["bounds"] 5 (spP K F_unevenness_22)) : FnOk P w K mg base CX0 6 f fd ["bounds", "within"] (spP K F_even_23) := by
  refine fn_ok (k := 5) (O := []) F z_even_23 rfl rfl rfl (by decide) fun cdv A outer s H E hc0 hr => ?_
  have nd := z_even_23.nd
  have hu := hr.units
  have hu1 := Room.units1 hr
  have hd := hr.hd
  exact (gs_cons (gE (gD k_check_bounds_bounds hr (g_cons (g_v 0 (pv 0)) g_nil))) (gs_cons (gs_if (g_tnot (gTv (gD k_is_integer hr (g_cons (g_v 1 (pv 1)) (g_cons (g_c pe_int) (g_cons (gC (v := .int 1000) (c_MOST_STRENGTH).choose_spec ⟨_, rfl⟩) g_nil)))))) (gs_one gs_never) gs_nil) (gs_cons (gTg (gD k_unevenness hr (g_cons (g_v 0 (pv 0)) g_nil)) (gTT rfl (gg_cons (gN 2 nd) (gg_cons (gN 3 nd) gg_nil)))) (gs_one (gs_ret (g_if (g_tcmp s_le (g_v 3 (pv 3)) (g_v 1 (pv 1))) (gC (v := .str "sure") (c_SURE_bounds).choose_spec ⟨_, rfl⟩) (g_if (g_tcmp s_gt (g_v 2 (pv 2)) (g_v 1 (pv 1))) (gC (v := .str "never") (c_NEVER_bounds).choose_spec ⟨_, rfl⟩) (gC (v := .str "open") (c_OPEN_bounds).choose_spec ⟨_, rfl⟩))))))))
theorem ok_is_row_50 {f : Addr} {fd : FuncData} (F : Fun K "is_row" "is_row" t_is_row_50 f fd) (Z : Blt mg) (c_MOST_YARDS : ∃ t, mg "MOST_YARDS" = some (Value.int 260 t)) (c_MOST_SUM_parts : ∃ t, mg "MOST_SUM_parts" = some (Value.int 1000 t)) (k_is_tuple : Mini.Cl P w K mg base "is_tuple" ["value", "least", "most"] 1 (spP K F_is_tuple_1)) (k_is_integer : Mini.Cl P w K mg base "is_integer" ["value", "low", "high"] 2 (spP K F_is_integer_3)) : FnOk P w K mg base CX0 3 f fd ["value"] (spP K F_is_row_50) := by
  refine fn_ok (k := 2) (O := []) F z_is_row_50 rfl rfl rfl (by decide) fun cdv A outer s H E hc0 hr => ?_
  have nd := z_is_row_50.nd
  have hu := hr.units
  have hu1 := Room.units1 hr
  have hd := hr.hd
  exact (gs_one (gs_ret (g_and (gD k_is_tuple hr (g_cons (g_v 0 (pv 0)) (g_cons (g_c pe_int) (g_cons (gC (v := .int 260) (c_MOST_YARDS).choose_spec ⟨_, rfl⟩) g_nil)))) (g_one (gB (b_all rfl) boot_all Z.all (g_cons (gLc [("one", 1)] rfl nd (pi_e (g_v 0 (pv 0))) (by first | decide +kernel | rfl) (fun _ _ _ _ _ => (gN 1 nd)) (fun _ _ _ _ _ => g_yes) (fun _ _ _ _ _ => (gD k_is_integer hr (g_cons (g_v 1 (pv 1)) (g_cons (g_c pe_int) (g_cons (gC (v := .int 1000) (c_MOST_SUM_parts).choose_spec ⟨_, rfl⟩) g_nil)))))) g_nil))))))
theorem ok_check_row_52 {f : Addr} {fd : FuncData} (F : Fun K "check_row" "check_row" t_check_row_52 f fd) (Z : Blt mg) (k_is_row_parts : Mini.Cl P w K mg base "is_row_parts" ["value"] 3 (spP K F_is_row_50)) : FnOk P w K mg base CX0 4 f fd ["value"] (spP K F_check_row_52) := by
  refine fn_ok (k := 3) (O := []) F z_check_row_52 rfl rfl rfl (by decide) fun cdv A outer s H E hc0 hr => ?_
  have nd := z_check_row_52.nd
  have hu := hr.units
  have hu1 := Room.units1 hr
  have hd := hr.hd
  exact (gs_one (gs_if (g_tnot (gTv (gD k_is_row_parts hr (g_cons (g_v 0 (pv 0)) g_nil)))) (gs_one gs_never) gs_nil))
theorem ok_check_width_53 {f : Addr} {fd : FuncData} (F : Fun K "check_width" "check_width" t_check_width_53 f fd) (Z : Blt mg) (c_MOST_SUM_parts : ∃ t, mg "MOST_SUM_parts" = some (Value.int 1000 t)) (k_check_row : Mini.Cl P w K mg base "check_row" ["value"] 4 (spP K F_check_row_52)) (k_is_integer : Mini.Cl P w K mg base "is_integer" ["value", "low", "high"] 2 (spP K F_is_integer_3)) : FnOk P w K mg base CX0 5 f fd ["row", "width"] (spP K F_check_width_53) := by
  refine fn_ok (k := 4) (O := []) F z_check_width_53 rfl rfl rfl (by decide) fun cdv A outer s H E hc0 hr => ?_
  have nd := z_check_width_53.nd
  have hu := hr.units
  have hu1 := Room.units1 hr
  have hd := hr.hd
  exact (gs_cons (gE (gD k_check_row hr (g_cons (g_v 0 (pv 0)) g_nil))) (gs_one (gs_if (g_tnot (gTv (gD k_is_integer hr (g_cons (g_v 1 (pv 1)) (g_cons (g_c pe_int) (g_cons (gC (v := .int 1000) (c_MOST_SUM_parts).choose_spec ⟨_, rfl⟩) g_nil)))))) (gs_one gs_never) gs_nil)))
theorem ok_differ_54 {f : Addr} {fd : FuncData} (F : Fun K "differ" "differ" t_differ_54 f fd) (Z : Blt mg)  : FnOk P w K mg base CX0 1 f fd ["row", "begin", "end"] (spP K F_differ_54) := by
  refine fn_ok (k := 0) (O := []) F z_differ_54 rfl rfl rfl (by decide) fun cdv A outer s H E hc0 hr => ?_
  have nd := z_differ_54.nd
  have hu := hr.units
  have hu1 := Room.units1 hr
  have hd := hr.hd
  exact (gs_cons (gA 3 nd (g_cut (g_v 0 (pv 0)) (gp_e (g_v 1 (pv 1))) (gp_e (g_v 2 (pv 2))))) (gs_one (gs_ret (g_bin s_sub (gB (b_max rfl hu hd) boot_max Z.max (g_cons (g_v 3 (pv 3)) g_nil)) (gB (b_min rfl hu hd) boot_min Z.min (g_cons (g_v 3 (pv 3)) g_nil))))))
theorem ok_fewest_parts_55 {f : Addr} {fd : FuncData} (F : Fun K "fewest_parts" "fewest_parts" t_fewest_parts_55 f fd) (Z : Blt mg) (k_check_width : Mini.Cl P w K mg base "check_width" ["row", "width"] 5 (spP K F_check_width_53)) (k_differ : Mini.Cl P w K mg base "differ" ["row", "begin", "end"] 1 (spP K F_differ_54)) : FnOk P w K mg base CX0 6 f fd ["row", "width"] (spP K F_fewest_parts_55) := by
  refine fn_ok (k := 5) (O := [2, 3]) F z_fewest_parts_55 rfl rfl rfl (by decide) fun cdv A outer s H E hc0 hr => ?_
  have nd := z_fewest_parts_55.nd
  have hu := hr.units
  have hu1 := Room.units1 hr
  have hd := hr.hd
  exact (gs_cons (gE (gD k_check_width hr (g_cons (g_v 0 (pv 0)) (g_cons (g_v 1 (pv 1)) g_nil)))) (gs_cons (gP2 2 3 true true rfl nd (g_lst (g_cons (g_c pe_int) g_nil)) (g_lst g_nil)) (gs_cons (gs_for (gR2 Z.range (g_c pe_int) (gB b_len boot_len Z.len (g_cons (g_v 0 (pv 0)) g_nil))) (gN 4 nd) (gs_one (gs_if (g_tcmp s_gt (gD k_differ hr (g_cons (g_v 0 (pv 0)) (g_cons (g_ix s_ix (g_o 2 (pv 2)) (g_un s_neg (g_c pe_int))) (g_cons (g_bin s_add (g_v 4 (pv 4)) (g_c pe_int)) g_nil)))) (g_v 1 (pv 1))) (gs_cons (gE (gMe 3 ms_append PySem.F.slot_list_append PySem.F.type_list_append (pv 3) (g_cons (g_tup (g_cons (g_ix s_ix (g_o 2 (pv 2)) (g_un s_neg (g_c pe_int))) (g_cons (g_v 4 (pv 4)) g_nil))) g_nil))) (gs_one (gE (gMe 2 ms_append PySem.F.slot_list_append PySem.F.type_list_append (pv 2) (g_cons (g_v 4 (pv 4)) g_nil))))) gs_nil))) (gs_one (gs_ret (g_tup (g_cons (gT b_tuple boot_tuple Z.tuple (g_cons (g_o 2 (pv 2)) g_nil)) (g_cons (gT b_tuple boot_tuple Z.tuple (g_cons (g_o 3 (pv 3)) g_nil)) g_nil))))))))
theorem ok_least_width_56 {f : Addr} {fd : FuncData} (F : Fun K "least_width" "least_width" t_least_width_56 f fd) (Z : Blt mg) (c_MOST_PARTS : ∃ t, mg "MOST_PARTS" = some (Value.int 260 t)) (c_PAIR_parts : ∃ t, mg "PAIR_parts" = some (Value.int 2 t)) (k_check_row : Mini.Cl P w K mg base "check_row" ["value"] 4 (spP K F_check_row_52)) (k_is_integer : Mini.Cl P w K mg base "is_integer" ["value", "low", "high"] 2 (spP K F_is_integer_3)) (k_fewest_parts : Mini.Cl P w K mg base "fewest_parts" ["row", "width"] 6 (spP K F_fewest_parts_55)) : FnOk P w K mg base CX0 7 f fd ["row", "parts"] (spP K F_least_width_56) := by
  refine fn_ok (k := 6) (O := []) F z_least_width_56 rfl rfl rfl (by decide) fun cdv A outer s H E hc0 hr => ?_
  have nd := z_least_width_56.nd
  have hu := hr.units
  have hu1 := Room.units1 hr
  have hd := hr.hd
  exact (gs_cons (gE (gD k_check_row hr (g_cons (g_v 0 (pv 0)) g_nil))) (gs_cons (gs_if (g_tnot (gTv (gD k_is_integer hr (g_cons (g_v 1 (pv 1)) (g_cons (g_c pe_int) (g_cons (gC (v := .int 260) (c_MOST_PARTS).choose_spec ⟨_, rfl⟩) g_nil)))))) (gs_one gs_never) gs_nil) (gs_cons (gP2 2 3 false false rfl nd (g_un s_neg (g_c pe_int)) (g_bin s_sub (gB (b_max rfl hu hd) boot_max Z.max (g_cons (g_v 0 (pv 0)) g_nil)) (gB (b_min rfl hu hd) boot_min Z.min (g_cons (g_v 0 (pv 0)) g_nil)))) (gs_cons (gs_while (g_tcmp s_gt (g_bin s_sub (g_v 3 (pv 3)) (g_v 2 (pv 2))) (g_c pe_int)) (gs_cons (gA 4 nd (g_bin s_fdiv (g_bin s_add (g_v 2 (pv 2)) (g_v 3 (pv 3))) (gC (v := .int 2) (c_PAIR_parts).choose_spec ⟨_, rfl⟩))) (gs_one (gs_if (g_tcmp s_le (gB b_len boot_len Z.len (g_cons (g_ix s_ix (gD k_fewest_parts hr (g_cons (g_v 0 (pv 0)) (g_cons (g_v 4 (pv 4)) g_nil))) (g_c pe_int)) g_nil)) (g_v 1 (pv 1))) (gs_one (gA 3 nd (g_v 4 (pv 4)))) (gs_one (gA 2 nd (g_v 4 (pv 4)))))))) (gs_one (gs_ret (g_v 3 (pv 3))))))))
theorem ok_is_sizes_32 {f : Addr} {fd : FuncData} (F : Fun K "is_sizes" "is_sizes" t_is_sizes_32 f fd) (Z : Blt mg) (c_MOST_SIZES : ∃ t, mg "MOST_SIZES" = some (Value.int 40 t)) (c_MOST_SIZE : ∃ t, mg "MOST_SIZE" = some (Value.int 1000 t)) (k_is_tuple : Mini.Cl P w K mg base "is_tuple" ["value", "least", "most"] 1 (spP K F_is_tuple_1)) (k_is_integer : Mini.Cl P w K mg base "is_integer" ["value", "low", "high"] 2 (spP K F_is_integer_3)) : FnOk P w K mg base CX0 3 f fd ["value"] (spP K F_is_sizes_32) := by
  refine fn_ok (k := 2) (O := []) F z_is_sizes_32 rfl rfl rfl (by decide) fun cdv A outer s H E hc0 hr => ?_
  have nd := z_is_sizes_32.nd
  have hu := hr.units
  have hu1 := Room.units1 hr
  have hd := hr.hd
  exact (gs_one (gs_ret (g_and (gD k_is_tuple hr (g_cons (g_v 0 (pv 0)) (g_cons (g_c pe_int) (g_cons (gC (v := .int 40) (c_MOST_SIZES).choose_spec ⟨_, rfl⟩) g_nil)))) (g_one (gB (b_all rfl) boot_all Z.all (g_cons (gLc [("one", 1)] rfl nd (pi_e (g_v 0 (pv 0))) (by first | decide +kernel | rfl) (fun _ _ _ _ _ => (gN 1 nd)) (fun _ _ _ _ _ => g_yes) (fun _ _ _ _ _ => (gD k_is_integer hr (g_cons (g_v 1 (pv 1)) (g_cons (g_c pe_int) (g_cons (gC (v := .int 1000) (c_MOST_SIZE).choose_spec ⟨_, rfl⟩) g_nil)))))) g_nil))))))
theorem ok_check_sizes_33 {f : Addr} {fd : FuncData} (F : Fun K "check_sizes" "check_sizes" t_check_sizes_33 f fd) (Z : Blt mg) (k_is_sizes : Mini.Cl P w K mg base "is_sizes" ["value"] 3 (spP K F_is_sizes_32)) : FnOk P w K mg base CX0 4 f fd ["value"] (spP K F_check_sizes_33) := by
  refine fn_ok (k := 3) (O := []) F z_check_sizes_33 rfl rfl rfl (by decide) fun cdv A outer s H E hc0 hr => ?_
  have nd := z_check_sizes_33.nd
  have hu := hr.units
  have hu1 := Room.units1 hr
  have hd := hr.hd
  exact (gs_one (gs_if (g_tnot (gTv (gD k_is_sizes hr (g_cons (g_v 0 (pv 0)) g_nil)))) (gs_one gs_never) gs_nil))
theorem ok_check_number_38 {f : Addr} {fd : FuncData} (F : Fun K "check_number" "check_number" t_check_number_38 f fd) (Z : Blt mg) (k_is_integer : Mini.Cl P w K mg base "is_integer" ["value", "low", "high"] 2 (spP K F_is_integer_3)) : FnOk P w K mg base CX0 3 f fd ["sizes", "value"] (spP K F_check_number_38) := by
  refine fn_ok (k := 2) (O := []) F z_check_number_38 rfl rfl rfl (by decide) fun cdv A outer s H E hc0 hr => ?_
  have nd := z_check_number_38.nd
  have hu := hr.units
  have hu1 := Room.units1 hr
  have hd := hr.hd
  exact (gs_one (gs_if (g_tnot (gTv (gD k_is_integer hr (g_cons (g_v 1 (pv 1)) (g_cons (g_c pe_int) (g_cons (gB b_len boot_len Z.len (g_cons (g_v 0 (pv 0)) g_nil)) g_nil)))))) (gs_one gs_never) gs_nil))
theorem ok_rising_35 {f : Addr} {fd : FuncData} (F : Fun K "rising" "rising" t_rising_35 f fd) (Z : Blt mg)  {cc PP : Addr} (TB : LamX.TabB base mg cc PP) (hcd0 : fd.code = .ref cc) (hT : (PP, lamN "rising") ∈ Tb.T) (hTu : ∀ p ∈ Tb.T, p.1 = PP → p.2 = lamN "rising") : FnOk P w K mg base CX0 1 f fd ["sizes"] (spP K F_rising_35) := by
  refine fn_ok (k := 0) (O := []) F z_rising_35 rfl rfl rfl (by decide) fun cdv A outer s H E hc0 hr => ?_
  have nd := z_rising_35.nd
  have hu := hr.units
  have hu1 := Room.units1 hr
  have hd := hr.hd
  have hcd := hc0.symm.trans hcd0
  exact (gs_one (gs_ret (gSortRL 0 rfl hu1 hr.depth TB hcd hT hTu Z.sorted Z.range (gB b_len boot_len Z.len (g_cons (g_v 0 (pv 0)) g_nil)) (hfr := by intro z hz e; rcases List.mem_cons.mp hz with h | h; (subst h; cases e); rcases List.mem_cons.mp h with h | h; (subst h; exact Or.inl rfl); cases h))))
theorem ok_classes_of_36 {f : Addr} {fd : FuncData} (F : Fun K "classes_of" "classes_of" t_classes_of_36 f fd) (Z : Blt mg) (k_rising : Mini.Cl P w K mg base "rising" ["sizes"] 1 (spP K F_rising_35)) : FnOk P w K mg base CX0 2 f fd ["sizes", "spread"] (spP K F_classes_of_36) := by
  refine fn_ok (k := 1) (O := [3, 4]) F z_classes_of_36 rfl rfl rfl (by decide) fun cdv A outer s H E hc0 hr => ?_
  have nd := z_classes_of_36.nd
  have hu := hr.units
  have hu1 := Room.units1 hr
  have hd := hr.hd
  exact (gs_cons (gP3 2 3 4 false true true rfl nd (gD k_rising hr (g_cons (g_v 0 (pv 0)) g_nil)) (g_lst g_nil) (g_lst g_nil)) (gs_cons (gs_while (g_tcmp (s_ne hu) (g_v 2 (pv 2)) (g_lst g_nil)) (gs_cons (gA 5 nd (g_ix s_ix (g_v 2 (pv 2)) (g_c pe_int))) (gs_cons (gAc 6 [("one", 7)] rfl nd (pi_e (g_v 2 (pv 2))) (by first | decide +kernel | rfl) (sw_true rfl rfl rfl (by decide +kernel)) (fun _ _ _ _ _ => (gN 7 nd)) (fun _ _ _ _ _ => (pts_one (g_tcmp s_le (g_bin s_sub (g_ix s_ix (g_v 0 (pv 0)) (g_v 7 (pv 7))) (g_ix s_ix (g_v 0 (pv 0)) (g_v 5 (pv 5)))) (g_v 1 (pv 1))))) (fun _ _ _ _ _ => (g_v 7 (pv 7)))) (gs_cons (gE (gMe 3 ms_append PySem.F.slot_list_append PySem.F.type_list_append (pv 3) (g_cons (gT b_tuple boot_tuple Z.tuple (g_cons (gB b_sorted boot_sorted Z.sorted (g_cons (g_v 6 (pv 6)) g_nil)) g_nil)) g_nil))) (gs_cons (gE (gMe 4 ms_append PySem.F.slot_list_append PySem.F.type_list_append (pv 4) (g_cons (g_v 5 (pv 5)) g_nil))) (gs_one (gA 2 nd (g_cut (g_v 2 (pv 2)) (gp_e (gB b_len boot_len Z.len (g_cons (g_v 6 (pv 6)) g_nil))) gp_no)))))))) (gs_one (gs_ret (g_tup (g_cons (gT b_tuple boot_tuple Z.tuple (g_cons (g_o 3 (pv 3)) g_nil)) (g_cons (gT b_tuple boot_tuple Z.tuple (g_cons (g_o 4 (pv 4)) g_nil)) g_nil)))))))
theorem ok_least_spread_39 {f : Addr} {fd : FuncData} (F : Fun K "least_spread" "least_spread" t_least_spread_39 f fd) (Z : Blt mg) (c_PAIR_classes : ∃ t, mg "PAIR_classes" = some (Value.int 2 t)) (k_check_sizes : Mini.Cl P w K mg base "check_sizes" ["value"] 4 (spP K F_check_sizes_33)) (k_check_number : Mini.Cl P w K mg base "check_number" ["sizes", "value"] 3 (spP K F_check_number_38)) (k_classes_of : Mini.Cl P w K mg base "classes_of" ["sizes", "spread"] 2 (spP K F_classes_of_36)) : FnOk P w K mg base CX0 5 f fd ["sizes", "number"] (spP K F_least_spread_39) := by
  refine fn_ok (k := 4) (O := []) F z_least_spread_39 rfl rfl rfl (by decide) fun cdv A outer s H E hc0 hr => ?_
  have nd := z_least_spread_39.nd
  have hu := hr.units
  have hu1 := Room.units1 hr
  have hd := hr.hd
  exact (gs_cons (gE (gD k_check_sizes hr (g_cons (g_v 0 (pv 0)) g_nil))) (gs_cons (gE (gD k_check_number hr (g_cons (g_v 0 (pv 0)) (g_cons (g_v 1 (pv 1)) g_nil)))) (gs_cons (gP2 2 3 false false rfl nd (g_c pe_int) (g_bin s_sub (gB (b_max rfl hu hd) boot_max Z.max (g_cons (g_v 0 (pv 0)) g_nil)) (gB (b_min rfl hu hd) boot_min Z.min (g_cons (g_v 0 (pv 0)) g_nil)))) (gs_cons (gs_while (g_tcmp s_lt (g_v 2 (pv 2)) (g_v 3 (pv 3))) (gs_cons (gA 4 nd (g_bin s_fdiv (g_bin s_add (g_v 2 (pv 2)) (g_v 3 (pv 3))) (gC (v := .int 2) (c_PAIR_classes).choose_spec ⟨_, rfl⟩))) (gs_cons (gA 5 nd (g_cmp s_le (gB b_len boot_len Z.len (g_cons (g_ix s_ix (gD k_classes_of hr (g_cons (g_v 0 (pv 0)) (g_cons (g_v 4 (pv 4)) g_nil))) (g_c pe_int)) g_nil)) (g_v 1 (pv 1)))) (gs_one (gTg (g_if (gTv (g_v 5 (pv 5))) (g_tup (g_cons (g_v 2 (pv 2)) (g_cons (g_v 4 (pv 4)) g_nil))) (g_tup (g_cons (g_bin s_add (g_v 4 (pv 4)) (g_c pe_int)) (g_cons (g_v 3 (pv 3)) g_nil)))) (gTT rfl (gg_cons (gN 2 nd) (gg_cons (gN 3 nd) gg_nil)))))))) (gs_one (gs_ret (g_tup (g_cons (g_v 2 (pv 2)) (g_cons (g_ix s_ix (gD k_classes_of hr (g_cons (g_v 0 (pv 0)) (g_cons (g_v 2 (pv 2)) g_nil))) (g_c pe_int)) g_nil)))))))))
theorem ok_check_spread_34 {f : Addr} {fd : FuncData} (F : Fun K "check_spread" "check_spread" t_check_spread_34 f fd) (Z : Blt mg) (c_MOST_SIZE : ∃ t, mg "MOST_SIZE" = some (Value.int 1000 t)) (k_is_integer : Mini.Cl P w K mg base "is_integer" ["value", "low", "high"] 2 (spP K F_is_integer_3)) : FnOk P w K mg base CX0 3 f fd ["value"] (spP K F_check_spread_34) := by
  refine fn_ok (k := 2) (O := []) F z_check_spread_34 rfl rfl rfl (by decide) fun cdv A outer s H E hc0 hr => ?_
  have nd := z_check_spread_34.nd
  have hu := hr.units
  have hu1 := Room.units1 hr
  have hd := hr.hd
  exact (gs_one (gs_if (g_tnot (gTv (gD k_is_integer hr (g_cons (g_v 0 (pv 0)) (g_cons (g_c pe_int) (g_cons (gC (v := .int 1000) (c_MOST_SIZE).choose_spec ⟨_, rfl⟩) g_nil)))))) (gs_one gs_never) gs_nil))
theorem ok_fewest_classes_37 {f : Addr} {fd : FuncData} (F : Fun K "fewest_classes" "fewest_classes" t_fewest_classes_37 f fd) (Z : Blt mg) (k_check_sizes : Mini.Cl P w K mg base "check_sizes" ["value"] 4 (spP K F_check_sizes_33)) (k_check_spread : Mini.Cl P w K mg base "check_spread" ["value"] 3 (spP K F_check_spread_34)) (k_classes_of : Mini.Cl P w K mg base "classes_of" ["sizes", "spread"] 2 (spP K F_classes_of_36)) : FnOk P w K mg base CX0 5 f fd ["sizes", "spread"] (spP K F_fewest_classes_37) := by
  refine fn_ok (k := 4) (O := []) F z_fewest_classes_37 rfl rfl rfl (by decide) fun cdv A outer s H E hc0 hr => ?_
  have nd := z_fewest_classes_37.nd
  have hu := hr.units
  have hu1 := Room.units1 hr
  have hd := hr.hd
  exact (gs_cons (gE (gD k_check_sizes hr (g_cons (g_v 0 (pv 0)) g_nil))) (gs_cons (gE (gD k_check_spread hr (g_cons (g_v 1 (pv 1)) g_nil))) (gs_one (gs_ret (gD k_classes_of hr (g_cons (g_v 0 (pv 0)) (g_cons (g_v 1 (pv 1)) g_nil)))))))
theorem ok__law_are_exact_right_86 {f : Addr} {fd : FuncData} (F : Fun K "_law_are_exact_right" "_law_are_exact_right" t__law_are_exact_right_86 f fd) (Z : Blt mg) (k_unevenness : Mini.Cl P w K mg base "unevenness" ["bounds"] 5 (spP K F_unevenness_22)) (k_least_spread : Mini.Cl P w K mg base "least_spread" ["sizes", "number"] 5 (spP K F_least_spread_39)) (k_least_width : Mini.Cl P w K mg base "least_width" ["row", "parts"] 7 (spP K F_least_width_56)) (k_even_bounds : Mini.Cl P w K mg base "even_bounds" ["bounds", "within"] 6 (spP K F_even_23)) (k_fewest_classes : Mini.Cl P w K mg base "fewest_classes" ["sizes", "spread"] 5 (spP K F_fewest_classes_37)) (k_fewest_parts : Mini.Cl P w K mg base "fewest_parts" ["row", "width"] 6 (spP K F_fewest_parts_55)) : FnOk P w K mg base CX0 8 f fd ["row", "within"] (spP K F__law_are_exact_right_86) := by
  refine fn_ok (k := 7) (O := []) F z__law_are_exact_right_86 rfl rfl rfl (by decide) fun cdv A outer s H E hc0 hr => ?_
  have nd := z__law_are_exact_right_86.nd
  have hu := hr.units
  have hu1 := Room.units1 hr
  have hd := hr.hd
  exact (gs_cons (gP2 2 3 false false rfl nd (gT b_tuple boot_tuple Z.tuple (g_cons (gLc [("one", 5)] rfl nd (pi_e (g_v 0 (pv 0))) (by first | decide +kernel | rfl) (fun _ _ _ _ _ => (gN 5 nd)) (fun _ _ _ _ _ => g_yes) (fun _ _ _ _ _ => (g_tup (g_cons (g_v 5 (pv 5)) (g_cons (g_v 5 (pv 5)) g_nil))))) g_nil)) (g_bin s_sub (gB (b_max rfl hu hd) boot_max Z.max (g_cons (g_v 0 (pv 0)) g_nil)) (gB (b_min rfl hu hd) boot_min Z.min (g_cons (g_v 0 (pv 0)) g_nil)))) (gs_cons (gs_if (PW.pt (g_tor (g_tcmp (s_ne hu) (gD k_unevenness hr (g_cons (g_v 2 (pv 2)) g_nil)) (g_tup (g_cons (g_v 3 (pv 3)) (g_cons (g_v 3 (pv 3)) g_nil)))) (g_tor1 (g_tcmp (s_ne hu) (g_ix s_ix (gD k_least_spread hr (g_cons (g_v 0 (pv 0)) (g_cons (g_c pe_int) g_nil))) (g_c pe_int)) (g_v 3 (pv 3)))))) (gs_one (gs_ret (g_c pe_bl))) gs_nil) (gs_cons (gs_if (g_tcmp (s_ne hu) (gD k_least_width hr (g_cons (g_v 0 (pv 0)) (g_cons (g_c pe_int) g_nil))) (g_v 3 (pv 3))) (gs_one (gs_ret (g_c pe_bl))) gs_nil) (gs_cons (gA 4 nd (gD k_even_bounds hr (g_cons (g_v 2 (pv 2)) (g_cons (g_v 1 (pv 1)) g_nil)))) (gs_cons (gs_if (g_tcmp (s_ne hu) (g_v 4 (pv 4)) (g_if (g_tcmp s_le (g_v 3 (pv 3)) (g_v 1 (pv 1))) (g_c pe_str) (g_c pe_str))) (gs_one (gs_ret (g_c pe_bl))) gs_nil) (gs_cons (gs_if (g_tcmp (s_ne hu) (g_cmp (s_eq hu) (gB b_len boot_len Z.len (g_cons (g_ix s_ix (gD k_fewest_classes hr (g_cons (g_v 0 (pv 0)) (g_cons (g_v 1 (pv 1)) g_nil))) (g_c pe_int)) g_nil)) (g_c pe_int)) (g_cmp (s_eq hu) (g_v 4 (pv 4)) (g_c pe_str))) (gs_one (gs_ret (g_c pe_bl))) gs_nil) (gs_one (gs_ret (g_cmp (s_eq hu) (g_cmp (s_eq hu) (gB b_len boot_len Z.len (g_cons (g_ix s_ix (gD k_fewest_parts hr (g_cons (g_v 0 (pv 0)) (g_cons (g_v 1 (pv 1)) g_nil))) (g_c pe_int)) g_nil)) (g_c pe_int)) (g_cmp (s_eq hu) (g_v 4 (pv 4)) (g_c pe_str)))))))))))
theorem ok__law_unevenness_82 {f : Addr} {fd : FuncData} (F : Fun K "_law_unevenness" "_law_unevenness" t__law_unevenness_82 f fd) (Z : Blt mg)  : FnOk P w K mg base CX0 1 f fd ["bounds"] (spP K F__law_unevenness_82) := by
  refine fn_ok (k := 0) (O := [2]) F z__law_unevenness_82 rfl rfl rfl (by decide) fun cdv A outer s H E hc0 hr => ?_
  have nd := z__law_unevenness_82.nd
  have hu := hr.units
  have hu1 := Room.units1 hr
  have hd := hr.hd
  exact (gs_cons (gA 1 nd (g_bin s_sub (gB (b_max rfl hu hd) boot_max Z.max (g_cons (gLc [("low", 4), ("high", 5)] rfl nd (pi_e (g_v 0 (pv 0))) (by first | decide +kernel | rfl) (fun _ _ _ _ _ => (gTT rfl (gg_cons (gN 4 nd) (gg_cons (gN 5 nd) gg_nil)))) (fun _ _ _ _ _ => g_yes) (fun _ _ _ _ _ => (g_v 4 (pv 4)))) g_nil)) (gB (b_min rfl hu hd) boot_min Z.min (g_cons (gLc [("low", 4), ("high", 5)] rfl nd (pi_e (g_v 0 (pv 0))) (by first | decide +kernel | rfl) (fun _ _ _ _ _ => (gTT rfl (gg_cons (gN 4 nd) (gg_cons (gN 5 nd) gg_nil)))) (fun _ _ _ _ _ => g_yes) (fun _ _ _ _ _ => (g_v 5 (pv 5)))) g_nil)))) (gs_cons (gAo 2 nd (g_lst (g_cons (g_c pe_int) g_nil))) (gs_cons (gs_for (gEn Z.enumerate (g_v 0 (pv 0))) (gTT rfl (gg_cons (gN 3 nd) (gg_cons (gTT rfl (gg_cons (gN 4 nd) (gg_cons (gN 5 nd) gg_nil))) gg_nil))) (gs_one (gE (gMe 2 ms_extend PySem.F.slot_list_extend PySem.F.type_list_extend (pv 2) (g_cons (gLc [("to", 6), ("other", 7)] rfl nd (gEn Z.enumerate (g_v 0 (pv 0))) (by first | decide +kernel | rfl) (fun _ _ _ _ _ => (gTT rfl (gg_cons (gN 6 nd) (gg_cons (gN 7 nd) gg_nil)))) (fun _ _ _ _ _ => (pts_one (g_tcmp (s_ne hu) (g_v 6 (pv 6)) (g_v 3 (pv 3))))) (fun _ _ _ _ _ => (g_bin s_sub (g_v 5 (pv 5)) (g_ix s_ix (g_v 7 (pv 7)) (g_c pe_int))))) g_nil))))) (gs_one (gs_ret (g_tup (g_cons (gB (b_max rfl hu hd) boot_max Z.max (g_cons (g_c pe_int) (g_cons (g_v 1 (pv 1)) g_nil))) (g_cons (gB (b_max rfl hu hd) boot_max Z.max (g_cons (g_o 2 (pv 2)) g_nil)) g_nil))))))))
theorem ok_is_bounds_65 {f : Addr} {fd : FuncData} (F : Fun K "is_bounds" "is_bounds" t_is_bounds_65 f fd) (Z : Blt mg) (c_MOST_ROWS : ∃ t, mg "MOST_ROWS" = some (Value.int 260 t)) (c_PAIR_sure : ∃ t, mg "PAIR_sure" = some (Value.int 2 t)) (c_MOST_SUM_sure : ∃ t, mg "MOST_SUM_sure" = some (Value.int 1000 t)) (k_is_tuple : Mini.Cl P w K mg base "is_tuple" ["value", "least", "most"] 1 (spP K F_is_tuple_1)) (k_is_integer : Mini.Cl P w K mg base "is_integer" ["value", "low", "high"] 2 (spP K F_is_integer_3)) : FnOk P w K mg base CX0 3 f fd ["value"] (spP K F_is_bounds_65) := by
  refine fn_ok (k := 2) (O := []) F z_is_bounds_65 rfl rfl rfl (by decide) fun cdv A outer s H E hc0 hr => ?_
  have nd := z_is_bounds_65.nd
  have hu := hr.units
  have hu1 := Room.units1 hr
  have hd := hr.hd
  exact (gs_cons (gs_if (PW.pt (g_tor (g_tnot (gTv (gD k_is_tuple hr (g_cons (g_v 0 (pv 0)) (g_cons (g_c pe_int) (g_cons (gC (v := .int 260) (c_MOST_ROWS).choose_spec ⟨_, rfl⟩) g_nil)))))) (g_tor1 (g_tnot (gTv (gB (b_all rfl) boot_all Z.all (g_cons (gLc [("one", 3)] rfl nd (pi_e (g_v 0 (pv 0))) (by first | decide +kernel | rfl) (fun _ _ _ _ _ => (gN 3 nd)) (fun _ _ _ _ _ => g_yes) (fun _ _ _ _ _ => (gD k_is_tuple hr (g_cons (g_v 3 (pv 3)) (g_cons (gC (v := .int 2) (c_PAIR_sure).choose_spec ⟨_, rfl⟩) (g_cons (gC (v := .int 2) (c_PAIR_sure).choose_spec ⟨_, rfl⟩) g_nil)))))) g_nil))))))) (gs_one (gs_ret (g_c pe_bl))) gs_nil) (gs_cons (gs_if (g_tnot (gTv (gB (b_all rfl) boot_all Z.all (g_cons (gLc [("least", 1), ("most", 2)] rfl nd (pi_e (g_v 0 (pv 0))) (by first | decide +kernel | rfl) (fun _ _ _ _ _ => (gTT rfl (gg_cons (gN 1 nd) (gg_cons (gN 2 nd) gg_nil)))) (fun _ _ _ _ _ => g_yes) (fun _ _ _ _ _ => (gD k_is_integer hr (g_cons (g_v 1 (pv 1)) (g_cons (g_c pe_int) (g_cons (gC (v := .int 1000) (c_MOST_SUM_sure).choose_spec ⟨_, rfl⟩) g_nil)))))) g_nil)))) (gs_one (gs_ret (g_c pe_bl))) gs_nil) (gs_one (gs_ret (gB (b_all rfl) boot_all Z.all (g_cons (gLc [("least", 1), ("most", 2)] rfl nd (pi_e (g_v 0 (pv 0))) (by first | decide +kernel | rfl) (fun _ _ _ _ _ => (gTT rfl (gg_cons (gN 1 nd) (gg_cons (gN 2 nd) gg_nil)))) (fun _ _ _ _ _ => g_yes) (fun _ _ _ _ _ => (gD k_is_integer hr (g_cons (g_v 2 (pv 2)) (g_cons (g_v 1 (pv 1)) (g_cons (gC (v := .int 1000) (c_MOST_SUM_sure).choose_spec ⟨_, rfl⟩) g_nil)))))) g_nil))))))
theorem ok_check_bounds_66 {f : Addr} {fd : FuncData} (F : Fun K "check_bounds" "check_bounds" t_check_bounds_66 f fd) (Z : Blt mg) (k_is_bounds : Mini.Cl P w K mg base "is_bounds" ["value"] 3 (spP K F_is_bounds_65)) : FnOk P w K mg base CX0 4 f fd ["value"] (spP K F_check_bounds_66) := by
  refine fn_ok (k := 3) (O := []) F z_check_bounds_66 rfl rfl rfl (by decide) fun cdv A outer s H E hc0 hr => ?_
  have nd := z_check_bounds_66.nd
  have hu := hr.units
  have hu1 := Room.units1 hr
  have hd := hr.hd
  exact (gs_one (gs_if (g_tnot (gTv (gD k_is_bounds hr (g_cons (g_v 0 (pv 0)) g_nil)))) (gs_one gs_never) gs_nil))
theorem ok_is_band_43 {f : Addr} {fd : FuncData} (F : Fun K "is_band" "is_band" t_is_band_43 f fd) (Z : Blt mg) (c_PAIR_strands : ∃ t, mg "PAIR_strands" = some (Value.int 2 t)) (c_MOST_SUM_strands : ∃ t, mg "MOST_SUM_strands" = some (Value.int 1000 t)) (k_is_tuple : Mini.Cl P w K mg base "is_tuple" ["value", "least", "most"] 1 (spP K F_is_tuple_1)) (k_is_integer : Mini.Cl P w K mg base "is_integer" ["value", "low", "high"] 2 (spP K F_is_integer_3)) : FnOk P w K mg base CX0 3 f fd ["value"] (spP K F_is_band_43) := by
  refine fn_ok (k := 2) (O := []) F z_is_band_43 rfl rfl rfl (by decide) fun cdv A outer s H E hc0 hr => ?_
  have nd := z_is_band_43.nd
  have hu := hr.units
  have hu1 := Room.units1 hr
  have hd := hr.hd
  exact (gs_cons (gs_if (PW.pt (g_tor (g_tnot (gTv (gD k_is_tuple hr (g_cons (g_v 0 (pv 0)) (g_cons (gC (v := .int 2) (c_PAIR_strands).choose_spec ⟨_, rfl⟩) (g_cons (gC (v := .int 2) (c_PAIR_strands).choose_spec ⟨_, rfl⟩) g_nil)))))) (g_tor1 (g_tnot (gTv (gD k_is_integer hr (g_cons (g_ix s_ix (g_v 0 (pv 0)) (g_c pe_int)) (g_cons (g_c pe_int) (g_cons (gC (v := .int 1000) (c_MOST_SUM_strands).choose_spec ⟨_, rfl⟩) g_nil))))))))) (gs_one (gs_ret (g_c pe_bl))) gs_nil) (gs_one (gs_ret (gD k_is_integer hr (g_cons (g_ix s_ix (g_v 0 (pv 0)) (g_c pe_int)) (g_cons (g_ix s_ix (g_v 0 (pv 0)) (g_c pe_int)) (g_cons (gC (v := .int 1000) (c_MOST_SUM_strands).choose_spec ⟨_, rfl⟩) g_nil)))))))
theorem ok_check_band_44 {f : Addr} {fd : FuncData} (F : Fun K "check_band" "check_band" t_check_band_44 f fd) (Z : Blt mg) (k_is_band : Mini.Cl P w K mg base "is_band" ["value"] 3 (spP K F_is_band_43)) : FnOk P w K mg base CX0 4 f fd ["value"] (spP K F_check_band_44) := by
  refine fn_ok (k := 3) (O := []) F z_check_band_44 rfl rfl rfl (by decide) fun cdv A outer s H E hc0 hr => ?_
  have nd := z_check_band_44.nd
  have hu := hr.units
  have hu1 := Room.units1 hr
  have hd := hr.hd
  exact (gs_one (gs_if (g_tnot (gTv (gD k_is_band hr (g_cons (g_v 0 (pv 0)) g_nil)))) (gs_one gs_never) gs_nil))
theorem ok_verdict_of_70 {f : Addr} {fd : FuncData} (F : Fun K "verdict_of" "verdict_of" t_verdict_of_70 f fd) (Z : Blt mg) (c_NEVER_sure : ∃ t, mg "NEVER_sure" = some (Value.str "never" t)) (c_SURE_sure : ∃ t, mg "SURE_sure" = some (Value.str "sure" t)) (c_OPEN_sure : ∃ t, mg "OPEN_sure" = some (Value.str "open" t)) : FnOk P w K mg base CX0 1 f fd ["bounds", "band"] (spP K F_verdict_of_70) := by
  refine fn_ok (k := 0) (O := []) F z_verdict_of_70 rfl rfl rfl (by decide) fun cdv A outer s H E hc0 hr => ?_
  have nd := z_verdict_of_70.nd
  have hu := hr.units
  have hu1 := Room.units1 hr
  have hd := hr.hd
  exact (gs_cons (gs_if (gTv (gB (b_any rfl) boot_any Z.any (g_cons (gLc [("least", 2), ("most", 3)] rfl nd (pi_e (g_v 0 (pv 0))) (by first | decide +kernel | rfl) (fun _ _ _ _ _ => (gTT rfl (gg_cons (gN 2 nd) (gg_cons (gN 3 nd) gg_nil)))) (fun _ _ _ _ _ => g_yes) (fun _ _ _ _ _ => (g_or (g_cmp s_lt (g_v 3 (pv 3)) (g_ix s_ix (g_v 1 (pv 1)) (g_c pe_int))) (g_one (g_cmp s_gt (g_v 2 (pv 2)) (g_ix s_ix (g_v 1 (pv 1)) (g_c pe_int))))))) g_nil))) (gs_one (gs_ret (gC (v := .str "never") (c_NEVER_sure).choose_spec ⟨_, rfl⟩))) gs_nil) (gs_one (gs_ret (g_if (gTv (gB (b_all rfl) boot_all Z.all (g_cons (gLc [("least", 2), ("most", 3)] rfl nd (pi_e (g_v 0 (pv 0))) (by first | decide +kernel | rfl) (fun _ _ _ _ _ => (gTT rfl (gg_cons (gN 2 nd) (gg_cons (gN 3 nd) gg_nil)))) (fun _ _ _ _ _ => g_yes) (fun _ _ _ _ _ => (g_and (g_cmp s_le (g_ix s_ix (g_v 1 (pv 1)) (g_c pe_int)) (g_v 2 (pv 2))) (g_one (g_cmp s_le (g_v 3 (pv 3)) (g_ix s_ix (g_v 1 (pv 1)) (g_c pe_int))))))) g_nil))) (gC (v := .str "sure") (c_SURE_sure).choose_spec ⟨_, rfl⟩) (gC (v := .str "open") (c_OPEN_sure).choose_spec ⟨_, rfl⟩)))))
theorem ok_even_71 {f : Addr} {fd : FuncData} (F : Fun K "even" "even" t_even_71 f fd) (Z : Blt mg) (k_check_bounds_sure : Mini.Cl P w K mg base "check_bounds_sure" ["value"] 4 (spP K F_check_bounds_66)) (k_check_band : Mini.Cl P w K mg base "check_band" ["value"] 4 (spP K F_check_band_44)) (k_verdict_of : Mini.Cl P w K mg base "verdict_of" ["bounds", "band"] 1 (spP K F_verdict_of_70)) : FnOk P w K mg base CX0 5 f fd ["bounds", "band"] (spP K F_even_71) := by
  refine fn_ok (k := 4) (O := []) F z_even_71 rfl rfl rfl (by decide) fun cdv A outer s H E hc0 hr => ?_
  have nd := z_even_71.nd
  have hu := hr.units
  have hu1 := Room.units1 hr
  have hd := hr.hd
  exact (gs_cons (gE (gD k_check_bounds_sure hr (g_cons (g_v 0 (pv 0)) g_nil))) (gs_cons (gE (gD k_check_band hr (g_cons (g_v 1 (pv 1)) g_nil))) (gs_one (gs_ret (gD k_verdict_of hr (g_cons (g_v 0 (pv 0)) (g_cons (g_v 1 (pv 1)) g_nil)))))))
theorem ok__law_word_83 {f : Addr} {fd : FuncData} (F : Fun K "_law_word" "_law_word" t__law_word_83 f fd) (Z : Blt mg)  : FnOk P w K mg base CX0 1 f fd ["words"] (spP K F__law_word_83) := by
  refine fn_ok (k := 0) (O := []) F z__law_word_83 rfl rfl rfl (by decide) fun cdv A outer s H E hc0 hr => ?_
  have nd := z__law_word_83.nd
  have hu := hr.units
  have hu1 := Room.units1 hr
  have hd := hr.hd
  exact (gs_one (gs_ret (g_if (g_tcmp (s_in hu1) (g_c pe_str) (g_v 0 (pv 0))) (g_c pe_str) (g_if (g_tcmp (s_eq hu) (g_v 0 (pv 0)) (g_bin s_mul (g_lst (g_cons (g_c pe_str) g_nil)) (gB b_len boot_len Z.len (g_cons (g_v 0 (pv 0)) g_nil)))) (g_c pe_str) (g_c pe_str)))))
theorem ok__law_are_bands_right_84 {f : Addr} {fd : FuncData} (F : Fun K "_law_are_bands_right" "_law_are_bands_right" t__law_are_bands_right_84 f fd) (Z : Blt mg) (k_even_bounds : Mini.Cl P w K mg base "even_bounds" ["bounds", "within"] 6 (spP K F_even_23)) (k_even_sure : Mini.Cl P w K mg base "even_sure" ["bounds", "band"] 5 (spP K F_even_71)) (k__law_word : Mini.Cl P w K mg base "_law_word" ["words"] 1 (spP K F__law_word_83)) : FnOk P w K mg base CX0 7 f fd ["bounds", "within"] (spP K F__law_are_bands_right_84) := by
  refine fn_ok (k := 6) (O := [4]) F z__law_are_bands_right_84 rfl rfl rfl (by decide) fun cdv A outer s H E hc0 hr => ?_
  have nd := z__law_are_bands_right_84.nd
  have hu := hr.units
  have hu1 := Room.units1 hr
  have hd := hr.hd
  exact (gs_cons (gA 2 nd (gD k_even_bounds hr (g_cons (g_v 0 (pv 0)) (g_cons (g_v 1 (pv 1)) g_nil)))) (gs_cons (gAc 3 [("low", 5), ("high", 6)] rfl nd (pi_e (g_v 0 (pv 0))) (by first | decide +kernel | rfl) (sw_true rfl rfl rfl (by decide +kernel)) (fun _ _ _ _ _ => (gTT rfl (gg_cons (gN 5 nd) (gg_cons (gN 6 nd) gg_nil)))) (fun _ _ _ _ _ => g_yes) (fun _ _ _ _ _ => (g_v 5 (pv 5)))) (gs_cons (gAo 4 nd (g_lst g_nil)) (gs_cons (gs_for (gR2 Z.range (gB (b_max rfl hu hd) boot_max Z.max (g_cons (g_c pe_int) (g_cons (g_bin s_sub (gB (b_min rfl hu hd) boot_min Z.min (g_cons (g_v 3 (pv 3)) g_nil)) (g_v 1 (pv 1))) g_nil))) (g_bin s_add (gB (b_min rfl hu hd) boot_min Z.min (g_cons (g_bin s_sub (g_c pe_int) (g_v 1 (pv 1))) (g_cons (gB (b_max rfl hu hd) boot_max Z.max (g_cons (g_v 3 (pv 3)) g_nil)) g_nil))) (g_c pe_int))) (gN 5 nd) (gs_one (gE (gMe 4 ms_append PySem.F.slot_list_append PySem.F.type_list_append (pv 4) (g_cons (gD k_even_sure hr (g_cons (g_v 0 (pv 0)) (g_cons (g_tup (g_cons (g_v 5 (pv 5)) (g_cons (g_bin s_add (g_v 5 (pv 5)) (g_v 1 (pv 1))) g_nil))) g_nil))) g_nil))))) (gs_cons (gs_if (PW.pt (g_tand (g_tcmp (s_in hu1) (g_c pe_str) (g_o 4 (pv 4))) (g_tand1 (g_tcmp (s_ne hu) (g_v 2 (pv 2)) (g_c pe_str))))) (gs_one (gs_ret (g_c pe_bl))) gs_nil) (gs_cons (gs_if (g_tcmp (s_ne hu) (g_cmp (s_eq hu) (g_v 2 (pv 2)) (g_c pe_str)) (g_cmp (s_eq hu) (g_o 4 (pv 4)) (g_bin s_mul (g_lst (g_cons (g_c pe_str) g_nil)) (gB b_len boot_len Z.len (g_cons (g_o 4 (pv 4)) g_nil))))) (gs_one (gs_ret (g_c pe_bl))) gs_nil) (gs_one (gs_ret (g_or (g_cmp (s_eq hu) (g_v 2 (pv 2)) (gD k__law_word hr (g_cons (g_o 4 (pv 4)) g_nil))) (g_one (g_and (g_cmp (s_eq hu) (g_v 2 (pv 2)) (g_c pe_str)) (g_and (g_cmp (s_nin hu1) (g_c pe_str) (g_o 4 (pv 4))) (g_one (g_cmp s_gt (gB b_len boot_len Z.len (g_cons (g_v 0 (pv 0)) g_nil)) (g_c pe_int)))))))))))))))
theorem ok_why_even_27 {f : Addr} {fd : FuncData} (F : Fun K "why_even" "why_even" t_why_even_27 f fd) (Z : Blt mg) (c_SURE_bounds : ∃ t, mg "SURE_bounds" = some (Value.str "sure" t)) (c_NEVER_bounds : ∃ t, mg "NEVER_bounds" = some (Value.str "never" t)) (c_OPEN_bounds : ∃ t, mg "OPEN_bounds" = some (Value.str "open" t)) (k_even_bounds : Mini.Cl P w K mg base "even_bounds" ["bounds", "within"] 6 (spP K F_even_23)) : FnOk P w K mg base CX0 7 f fd ["bounds", "within"] (spP K F_why_even_27) := by
  refine fn_ok (k := 6) (O := [7]) F z_why_even_27 rfl rfl rfl (by decide) fun cdv A outer s H E hc0 hr => ?_
  have nd := z_why_even_27.nd
  have hu := hr.units
  have hu1 := Room.units1 hr
  have hd := hr.hd
  exact (gs_cons (gA 2 nd (gD k_even_bounds hr (g_cons (g_v 0 (pv 0)) (g_cons (g_v 1 (pv 1)) g_nil)))) (gs_cons (gs_if (g_tcmp (s_eq hu) (g_v 2 (pv 2)) (gC (v := .str "sure") (c_SURE_bounds).choose_spec ⟨_, rfl⟩)) (gs_one (gs_ret (g_tup (g_cons (gC (v := .str "sure") (c_SURE_bounds).choose_spec ⟨_, rfl⟩) g_nil)))) gs_nil) (gs_cons (gTg (g_tup (g_cons (gLc [("least", 13), ("most", 14)] rfl nd (pi_e (g_v 0 (pv 0))) (by first | decide +kernel | rfl) (fun _ _ _ _ _ => (gTT rfl (gg_cons (gN 13 nd) (gg_cons (gN 14 nd) gg_nil)))) (fun _ _ _ _ _ => g_yes) (fun _ _ _ _ _ => (g_v 13 (pv 13)))) (g_cons (gLc [("least", 13), ("most", 14)] rfl nd (pi_e (g_v 0 (pv 0))) (by first | decide +kernel | rfl) (fun _ _ _ _ _ => (gTT rfl (gg_cons (gN 13 nd) (gg_cons (gN 14 nd) gg_nil)))) (fun _ _ _ _ _ => g_yes) (fun _ _ _ _ _ => (g_v 14 (pv 14)))) g_nil))) (gTT rfl (gg_cons (gN 3 nd) (gg_cons (gN 4 nd) gg_nil)))) (gs_cons (gs_if (g_tcmp (s_eq hu) (g_v 2 (pv 2)) (gC (v := .str "never") (c_NEVER_bounds).choose_spec ⟨_, rfl⟩)) (gs_one (gs_ret (g_tup (g_cons (gC (v := .str "never") (c_NEVER_bounds).choose_spec ⟨_, rfl⟩) (g_cons (gBm bm_index PySem.F.slot_list_index PySem.F.type_list_index (g_v 3 (pv 3)) (g_cons (gB (b_max rfl hu hd) boot_max Z.max (g_cons (g_v 3 (pv 3)) g_nil)) g_nil)) (g_cons (gBm bm_index PySem.F.slot_list_index PySem.F.type_list_index (g_v 4 (pv 4)) (g_cons (gB (b_min rfl hu hd) boot_min Z.min (g_cons (g_v 4 (pv 4)) g_nil)) g_nil)) g_nil)))))) gs_nil) (gs_cons (gA 5 nd (g_if (g_tcmp s_ge (gB (b_max rfl hu hd) boot_max Z.max (g_cons (g_v 3 (pv 3)) g_nil)) (gB (b_min rfl hu hd) boot_min Z.min (g_cons (g_v 4 (pv 4)) g_nil))) (gB (b_max rfl hu hd) boot_max Z.max (g_cons (g_v 3 (pv 3)) g_nil)) (gB (b_min rfl hu hd) boot_min Z.min (g_cons (g_v 4 (pv 4)) g_nil)))) (gs_cons (gA 6 nd (gT b_tuple boot_tuple Z.tuple (g_cons (gLc [("least", 13), ("most", 14)] rfl nd (pi_e (g_v 0 (pv 0))) (by first | decide +kernel | rfl) (fun _ _ _ _ _ => (gTT rfl (gg_cons (gN 13 nd) (gg_cons (gN 14 nd) gg_nil)))) (fun _ _ _ _ _ => g_yes) (fun _ _ _ _ _ => (gB (b_min rfl hu hd) boot_min Z.min (g_cons (gB (b_max rfl hu hd) boot_max Z.max (g_cons (g_v 5 (pv 5)) (g_cons (g_v 13 (pv 13)) g_nil))) (g_cons (g_v 14 (pv 14)) g_nil))))) g_nil))) (gs_cons (gAo 7 nd (g_lst g_nil)) (gs_cons (gs_for (gR1 Z.range (gB b_len boot_len Z.len (g_cons (g_v 0 (pv 0)) g_nil))) (gN 8 nd) (gs_one (gE (gMe 7 ms_extend PySem.F.slot_list_extend PySem.F.type_list_extend (pv 7) (g_cons (gLc [("other", 10)] rfl nd (gR1 Z.range (gB b_len boot_len Z.len (g_cons (g_v 0 (pv 0)) g_nil))) (by first | decide +kernel | rfl) (fun _ _ _ _ _ => (gN 10 nd)) (fun _ _ _ _ _ => (pts_one (g_tcmp (s_ne hu) (g_v 10 (pv 10)) (g_v 8 (pv 8))))) (fun _ _ _ _ _ => (g_tup (g_cons (g_bin s_sub (g_ix s_ix (g_v 4 (pv 4)) (g_v 10 (pv 10))) (g_ix s_ix (g_v 3 (pv 3)) (g_v 8 (pv 8)))) (g_cons (g_v 8 (pv 8)) (g_cons (g_v 10 (pv 10)) g_nil)))))) g_nil))))) (gs_cons (gTg (gB (b_max rfl hu hd) boot_max Z.max (g_cons (g_o 7 (pv 7)) g_nil)) (gTT rfl (gg_cons (gN 9 nd) (gg_cons (gN 8 nd) (gg_cons (gN 10 nd) gg_nil))))) (gs_cons (gAc 11 [("at", 12)] rfl nd (gR1 Z.range (gB b_len boot_len Z.len (g_cons (g_v 0 (pv 0)) g_nil))) (by first | decide +kernel | rfl) (sw_true rfl rfl rfl (by decide +kernel)) (fun _ _ _ _ _ => (gN 12 nd)) (fun _ _ _ _ _ => g_yes) (fun _ _ _ _ _ => (g_if (g_tcmp (s_eq hu) (g_v 12 (pv 12)) (g_v 10 (pv 10))) (g_ix s_ix (g_v 4 (pv 4)) (g_v 12 (pv 12))) (g_ix s_ix (g_v 3 (pv 3)) (g_v 12 (pv 12)))))) (gs_one (gs_ret (g_tup (g_cons (gC (v := .str "open") (c_OPEN_bounds).choose_spec ⟨_, rfl⟩) (g_cons (g_v 6 (pv 6)) (g_cons (gT b_tuple boot_tuple Z.tuple (g_cons (g_v 11 (pv 11)) g_nil)) g_nil))))))))))))))))
theorem ok_even_paper_73 {f : Addr} {fd : FuncData} (F : Fun K "even_paper" "even_paper" t_even_paper_73 f fd) (Z : Blt mg) (c_SURE_sure : ∃ t, mg "SURE_sure" = some (Value.str "sure" t)) (c_NEVER_sure : ∃ t, mg "NEVER_sure" = some (Value.str "never" t)) (c_OPEN_sure : ∃ t, mg "OPEN_sure" = some (Value.str "open" t)) (k_even_sure : Mini.Cl P w K mg base "even_sure" ["bounds", "band"] 5 (spP K F_even_71)) : FnOk P w K mg base CX0 6 f fd ["bounds", "band"] (spP K F_even_paper_73) := by
  refine fn_ok (k := 5) (O := []) F z_even_paper_73 rfl rfl rfl (by decide) fun cdv A outer s H E hc0 hr => ?_
  have nd := z_even_paper_73.nd
  have hu := hr.units
  have hu1 := Room.units1 hr
  have hd := hr.hd
  exact (gs_cons (gA 2 nd (gD k_even_sure hr (g_cons (g_v 0 (pv 0)) (g_cons (g_v 1 (pv 1)) g_nil)))) (gs_cons (gs_if (g_tcmp (s_eq hu) (g_v 2 (pv 2)) (gC (v := .str "sure") (c_SURE_sure).choose_spec ⟨_, rfl⟩)) (gs_one (gs_ret (g_tup (g_cons (gC (v := .str "sure") (c_SURE_sure).choose_spec ⟨_, rfl⟩) g_nil)))) gs_nil) (gs_cons (gs_if (g_tcmp (s_eq hu) (g_v 2 (pv 2)) (gC (v := .str "never") (c_NEVER_sure).choose_spec ⟨_, rfl⟩)) (gs_one (gs_ret (g_tup (g_cons (gC (v := .str "never") (c_NEVER_sure).choose_spec ⟨_, rfl⟩) (g_cons (g_ix s_ix (gLc [("at", 7), ("least", 5), ("most", 6)] rfl nd (gEn Z.enumerate (g_v 0 (pv 0))) (by first | decide +kernel | rfl) (fun _ _ _ _ _ => (gTT rfl (gg_cons (gN 7 nd) (gg_cons (gTT rfl (gg_cons (gN 5 nd) (gg_cons (gN 6 nd) gg_nil))) gg_nil)))) (fun _ _ _ _ _ => (pts_one (PW.pt (g_tor (g_tcmp s_lt (g_v 6 (pv 6)) (g_ix s_ix (g_v 1 (pv 1)) (g_c pe_int))) (g_tor1 (g_tcmp s_gt (g_v 5 (pv 5)) (g_ix s_ix (g_v 1 (pv 1)) (g_c pe_int)))))))) (fun _ _ _ _ _ => (g_v 7 (pv 7)))) (g_c pe_int)) g_nil))))) gs_nil) (gs_cons (gA 3 nd (gT b_tuple boot_tuple Z.tuple (g_cons (gLc [("least", 5), ("most", 6)] rfl nd (pi_e (g_v 0 (pv 0))) (by first | decide +kernel | rfl) (fun _ _ _ _ _ => (gTT rfl (gg_cons (gN 5 nd) (gg_cons (gN 6 nd) gg_nil)))) (fun _ _ _ _ _ => g_yes) (fun _ _ _ _ _ => (gB (b_max rfl hu hd) boot_max Z.max (g_cons (g_v 5 (pv 5)) (g_cons (g_ix s_ix (g_v 1 (pv 1)) (g_c pe_int)) g_nil))))) g_nil))) (gs_cons (gA 4 nd (gT b_tuple boot_tuple Z.tuple (g_cons (gLc [("least", 5), ("most", 6)] rfl nd (pi_e (g_v 0 (pv 0))) (by first | decide +kernel | rfl) (fun _ _ _ _ _ => (gTT rfl (gg_cons (gN 5 nd) (gg_cons (gN 6 nd) gg_nil)))) (fun _ _ _ _ _ => g_yes) (fun _ _ _ _ _ => (g_if (g_tcmp s_gt (g_v 6 (pv 6)) (g_ix s_ix (g_v 1 (pv 1)) (g_c pe_int))) (g_v 6 (pv 6)) (g_v 5 (pv 5))))) g_nil))) (gs_one (gs_ret (g_tup (g_cons (gC (v := .str "open") (c_OPEN_sure).choose_spec ⟨_, rfl⟩) (g_cons (g_v 3 (pv 3)) (g_cons (g_v 4 (pv 4)) g_nil)))))))))))
theorem ok_shows_even_25 {f : Addr} {fd : FuncData} (F : Fun K "shows_even" "shows_even" t_shows_even_25 f fd) (Z : Blt mg) (c_SURE_bounds : ∃ t, mg "SURE_bounds" = some (Value.str "sure" t)) (c_NEVER_bounds : ∃ t, mg "NEVER_bounds" = some (Value.str "never" t)) (c_PAIR_bounds : ∃ t, mg "PAIR_bounds" = some (Value.int 2 t)) (k_even_bounds : Mini.Cl P w K mg base "even_bounds" ["bounds", "within"] 6 (spP K F_even_23)) (k_is_integer : Mini.Cl P w K mg base "is_integer" ["value", "low", "high"] 2 (spP K F_is_integer_3)) (k_is_tuple : Mini.Cl P w K mg base "is_tuple" ["value", "least", "most"] 1 (spP K F_is_tuple_1)) : FnOk P w K mg base CX0 7 f fd ["bounds", "within", "value"] (spP K F_shows_even_25) := by
  refine fn_ok (k := 6) (O := []) F z_shows_even_25 rfl rfl rfl (by decide) fun cdv A outer s H E hc0 hr => ?_
  have nd := z_shows_even_25.nd
  have hu := hr.units
  have hu1 := Room.units1 hr
  have hd := hr.hd
  exact (gs_cons (gA 3 nd (gD k_even_bounds hr (g_cons (g_v 0 (pv 0)) (g_cons (g_v 1 (pv 1)) g_nil)))) (gs_cons (gs_if (PW.pt (g_tor (g_tnot (gTv (gB b_isi boot_isinstance Z.isinstance (g_cons (g_v 2 (pv 2)) (g_cons (gY Z.tuple boot_tuple) g_nil))))) (g_tor (g_tcmp (s_eq hu) (g_v 2 (pv 2)) (g_tup g_nil)) (g_tor (g_tnot (gTv (gB b_isi boot_isinstance Z.isinstance (g_cons (g_ix s_ix (g_v 2 (pv 2)) (g_c pe_int)) (g_cons (gY Z.str boot_str) g_nil))))) (g_tor1 (g_tcmp (s_ne hu) (g_ix s_ix (g_v 2 (pv 2)) (g_c pe_int)) (g_v 3 (pv 3)))))))) (gs_one (gs_ret (g_c pe_bl))) gs_nil) (gs_cons (gs_if (g_tcmp (s_eq hu) (g_v 3 (pv 3)) (gC (v := .str "sure") (c_SURE_bounds).choose_spec ⟨_, rfl⟩)) (gs_one (gs_ret (g_cmp (s_eq hu) (gB b_len boot_len Z.len (g_cons (g_v 2 (pv 2)) g_nil)) (g_c pe_int)))) gs_nil) (gs_cons (gs_if (g_tcmp (s_eq hu) (g_v 3 (pv 3)) (gC (v := .str "never") (c_NEVER_bounds).choose_spec ⟨_, rfl⟩)) (gs_cons (gs_if (PW.pt (g_tor (g_tcmp (s_ne hu) (gB b_len boot_len Z.len (g_cons (g_v 2 (pv 2)) g_nil)) (g_c pe_int)) (g_tor1 (g_tnot (gTv (gB (b_all rfl) boot_all Z.all (g_cons (gLc [("at", 8)] rfl nd (pi_e (g_cut (g_v 2 (pv 2)) (gp_e (g_c pe_int)) gp_no)) (by first | decide +kernel | rfl) (fun _ _ _ _ _ => (gN 8 nd)) (fun _ _ _ _ _ => g_yes) (fun _ _ _ _ _ => (gD k_is_integer hr (g_cons (g_v 8 (pv 8)) (g_cons (g_c pe_int) (g_cons (g_bin s_sub (gB b_len boot_len Z.len (g_cons (g_v 0 (pv 0)) g_nil)) (g_c pe_int)) g_nil)))))) g_nil))))))) (gs_one (gs_ret (g_c pe_bl))) gs_nil) (gs_one (gs_ret (g_cmp s_gt (g_bin s_sub (g_ix s_ix (g_ix s_ix (g_v 0 (pv 0)) (g_ix s_ix (g_v 2 (pv 2)) (g_c pe_int))) (g_c pe_int)) (g_ix s_ix (g_ix s_ix (g_v 0 (pv 0)) (g_ix s_ix (g_v 2 (pv 2)) (gC (v := .int 2) (c_PAIR_bounds).choose_spec ⟨_, rfl⟩))) (g_c pe_int))) (g_v 1 (pv 1)))))) gs_nil) (gs_cons (gs_if (PW.pt (g_tor (g_tcmp (s_ne hu) (gB b_len boot_len Z.len (g_cons (g_v 2 (pv 2)) g_nil)) (g_c pe_int)) (g_tor1 (g_tnot (gTv (gB (b_all rfl) boot_all Z.all (g_cons (gLc [("row", 4)] rfl nd (pi_e (g_cut (g_v 2 (pv 2)) (gp_e (g_c pe_int)) gp_no)) (by first | decide +kernel | rfl) (fun _ _ _ _ _ => (gN 4 nd)) (fun _ _ _ _ _ => g_yes) (fun _ _ _ _ _ => (gD k_is_tuple hr (g_cons (g_v 4 (pv 4)) (g_cons (gB b_len boot_len Z.len (g_cons (g_v 0 (pv 0)) g_nil)) (g_cons (gB b_len boot_len Z.len (g_cons (g_v 0 (pv 0)) g_nil)) g_nil)))))) g_nil))))))) (gs_one (gs_ret (g_c pe_bl))) gs_nil) (gs_cons (gs_for (pi_e (g_cut (g_v 2 (pv 2)) (gp_e (g_c pe_int)) gp_no)) (gN 4 nd) (gs_one (gs_if (g_tnot (gTv (gB (b_all rfl) boot_all Z.all (g_cons (gLc [("one", 5), ("least", 6), ("most", 7)] rfl nd (gZp Z.zip (g_v 4 (pv 4)) (g_v 0 (pv 0))) (by first | decide +kernel | rfl) (fun _ _ _ _ _ => (gTT rfl (gg_cons (gN 5 nd) (gg_cons (gTT rfl (gg_cons (gN 6 nd) (gg_cons (gN 7 nd) gg_nil))) gg_nil)))) (fun _ _ _ _ _ => g_yes) (fun _ _ _ _ _ => (gD k_is_integer hr (g_cons (g_v 5 (pv 5)) (g_cons (g_v 6 (pv 6)) (g_cons (g_v 7 (pv 7)) g_nil)))))) g_nil)))) (gs_one (gs_ret (g_c pe_bl))) gs_nil))) (gs_one (gs_ret (gCh s_le s_lt (g_bin s_sub (gB (b_max rfl hu hd) boot_max Z.max (g_cons (g_ix s_ix (g_v 2 (pv 2)) (g_c pe_int)) g_nil)) (gB (b_min rfl hu hd) boot_min Z.min (g_cons (g_ix s_ix (g_v 2 (pv 2)) (g_c pe_int)) g_nil))) (g_v 1 (pv 1)) (g_bin s_sub (gB (b_max rfl hu hd) boot_max Z.max (g_cons (g_ix s_ix (g_v 2 (pv 2)) (gC (v := .int 2) (c_PAIR_bounds).choose_spec ⟨_, rfl⟩)) g_nil)) (gB (b_min rfl hu hd) boot_min Z.min (g_cons (g_ix s_ix (g_v 2 (pv 2)) (gC (v := .int 2) (c_PAIR_bounds).choose_spec ⟨_, rfl⟩)) g_nil))))))))))))
theorem ok_is_row_68 {f : Addr} {fd : FuncData} (F : Fun K "is_row" "is_row" t_is_row_68 f fd) (Z : Blt mg) (k_is_tuple : Mini.Cl P w K mg base "is_tuple" ["value", "least", "most"] 1 (spP K F_is_tuple_1)) (k_is_integer : Mini.Cl P w K mg base "is_integer" ["value", "low", "high"] 2 (spP K F_is_integer_3)) : FnOk P w K mg base CX0 3 f fd ["bounds", "value"] (spP K F_is_row_68) := by
  refine fn_ok (k := 2) (O := []) F z_is_row_68 rfl rfl rfl (by decide) fun cdv A outer s H E hc0 hr => ?_
  have nd := z_is_row_68.nd
  have hu := hr.units
  have hu1 := Room.units1 hr
  have hd := hr.hd
  exact (gs_cons (gs_if (g_tnot (gTv (gD k_is_tuple hr (g_cons (g_v 1 (pv 1)) (g_cons (gB b_len boot_len Z.len (g_cons (g_v 0 (pv 0)) g_nil)) (g_cons (gB b_len boot_len Z.len (g_cons (g_v 0 (pv 0)) g_nil)) g_nil)))))) (gs_one (gs_ret (g_c pe_bl))) gs_nil) (gs_one (gs_ret (gB (b_all rfl) boot_all Z.all (g_cons (gLc [("one", 2), ("least", 3), ("most", 4)] rfl nd (gZp Z.zip (g_v 1 (pv 1)) (g_v 0 (pv 0))) (by first | decide +kernel | rfl) (fun _ _ _ _ _ => (gTT rfl (gg_cons (gN 2 nd) (gg_cons (gTT rfl (gg_cons (gN 3 nd) (gg_cons (gN 4 nd) gg_nil))) gg_nil)))) (fun _ _ _ _ _ => g_yes) (fun _ _ _ _ _ => (gD k_is_integer hr (g_cons (g_v 2 (pv 2)) (g_cons (g_v 3 (pv 3)) (g_cons (g_v 4 (pv 4)) g_nil)))))) g_nil)))))
theorem ok_shows_even_74 {f : Addr} {fd : FuncData} (F : Fun K "shows_even" "shows_even" t_shows_even_74 f fd) (Z : Blt mg) (c_TRIPLE : ∃ t, mg "TRIPLE" = some (Value.int 3 t)) (c_SURE_sure : ∃ t, mg "SURE_sure" = some (Value.str "sure" t)) (c_NEVER_sure : ∃ t, mg "NEVER_sure" = some (Value.str "never" t)) (c_PAIR_sure : ∃ t, mg "PAIR_sure" = some (Value.int 2 t)) (k_even_sure : Mini.Cl P w K mg base "even_sure" ["bounds", "band"] 5 (spP K F_even_71)) (k_is_tuple : Mini.Cl P w K mg base "is_tuple" ["value", "least", "most"] 1 (spP K F_is_tuple_1)) (k_is_integer : Mini.Cl P w K mg base "is_integer" ["value", "low", "high"] 2 (spP K F_is_integer_3)) (k_is_row_sure : Mini.Cl P w K mg base "is_row_sure" ["bounds", "value"] 3 (spP K F_is_row_68)) : FnOk P w K mg base CX0 6 f fd ["bounds", "band", "value"] (spP K F_shows_even_74) := by
  refine fn_ok (k := 5) (O := []) F z_shows_even_74 rfl rfl rfl (by decide) fun cdv A outer s H E hc0 hr => ?_
  have nd := z_shows_even_74.nd
  have hu := hr.units
  have hu1 := Room.units1 hr
  have hd := hr.hd
  exact (gs_cons (gA 3 nd (gD k_even_sure hr (g_cons (g_v 0 (pv 0)) (g_cons (g_v 1 (pv 1)) g_nil)))) (gs_cons (gs_if (PW.pt (g_tor (g_tnot (gTv (gD k_is_tuple hr (g_cons (g_v 2 (pv 2)) (g_cons (g_c pe_int) (g_cons (gC (v := .int 3) (c_TRIPLE).choose_spec ⟨_, rfl⟩) g_nil)))))) (g_tor (g_tnot (gTv (gB b_isi boot_isinstance Z.isinstance (g_cons (g_ix s_ix (g_v 2 (pv 2)) (g_c pe_int)) (g_cons (gY Z.str boot_str) g_nil))))) (g_tor1 (g_tcmp (s_ne hu) (g_ix s_ix (g_v 2 (pv 2)) (g_c pe_int)) (g_v 3 (pv 3))))))) (gs_one (gs_ret (g_c pe_bl))) gs_nil) (gs_cons (gs_if (g_tcmp (s_eq hu) (g_v 3 (pv 3)) (gC (v := .str "sure") (c_SURE_sure).choose_spec ⟨_, rfl⟩)) (gs_one (gs_ret (g_cmp (s_eq hu) (gB b_len boot_len Z.len (g_cons (g_v 2 (pv 2)) g_nil)) (g_c pe_int)))) gs_nil) (gs_cons (gs_if (g_tcmp (s_eq hu) (g_v 3 (pv 3)) (gC (v := .str "never") (c_NEVER_sure).choose_spec ⟨_, rfl⟩)) (gs_cons (gs_if (PW.pt (g_tor (g_tcmp (s_ne hu) (gB b_len boot_len Z.len (g_cons (g_v 2 (pv 2)) g_nil)) (gC (v := .int 2) (c_PAIR_sure).choose_spec ⟨_, rfl⟩)) (g_tor1 (g_tnot (gTv (gD k_is_integer hr (g_cons (g_ix s_ix (g_v 2 (pv 2)) (g_c pe_int)) (g_cons (g_c pe_int) (g_cons (g_bin s_sub (gB b_len boot_len Z.len (g_cons (g_v 0 (pv 0)) g_nil)) (g_c pe_int)) g_nil))))))))) (gs_one (gs_ret (g_c pe_bl))) gs_nil) (gs_cons (gTg (g_ix s_ix (g_v 0 (pv 0)) (g_ix s_ix (g_v 2 (pv 2)) (g_c pe_int))) (gTT rfl (gg_cons (gN 4 nd) (gg_cons (gN 5 nd) gg_nil)))) (gs_one (gs_ret (g_or (g_cmp s_lt (g_v 5 (pv 5)) (g_ix s_ix (g_v 1 (pv 1)) (g_c pe_int))) (g_one (g_cmp s_gt (g_v 4 (pv 4)) (g_ix s_ix (g_v 1 (pv 1)) (g_c pe_int))))))))) gs_nil) (gs_cons (gs_if (PW.pt (g_tor (g_tcmp (s_ne hu) (gB b_len boot_len Z.len (g_cons (g_v 2 (pv 2)) g_nil)) (gC (v := .int 3) (c_TRIPLE).choose_spec ⟨_, rfl⟩)) (g_tor1 (g_tnot (gTv (gB (b_all rfl) boot_all Z.all (g_cons (gLc [("row", 7)] rfl nd (pi_e (g_cut (g_v 2 (pv 2)) (gp_e (g_c pe_int)) gp_no)) (by first | decide +kernel | rfl) (fun _ _ _ _ _ => (gN 7 nd)) (fun _ _ _ _ _ => g_yes) (fun _ _ _ _ _ => (gD k_is_row_sure hr (g_cons (g_v 0 (pv 0)) (g_cons (g_v 7 (pv 7)) g_nil))))) g_nil))))))) (gs_one (gs_ret (g_c pe_bl))) gs_nil) (gs_cons (gAc 6 [("row", 7)] rfl nd (pi_e (g_cut (g_v 2 (pv 2)) (gp_e (g_c pe_int)) gp_no)) (by first | decide +kernel | rfl) (sw_true rfl rfl rfl (by decide +kernel)) (fun _ _ _ _ _ => (gN 7 nd)) (fun _ _ _ _ _ => g_yes) (fun _ _ _ _ _ => (gB (b_all rfl) boot_all Z.all (g_cons (gLc [("one", 8)] rfl nd (pi_e (g_v 7 (pv 7))) (by first | decide +kernel | rfl) (fun _ _ _ _ _ => (gN 8 nd)) (fun _ _ _ _ _ => g_yes) (fun _ _ _ _ _ => (gCh s_le s_le (g_ix s_ix (g_v 1 (pv 1)) (g_c pe_int)) (g_v 8 (pv 8)) (g_ix s_ix (g_v 1 (pv 1)) (g_c pe_int))))) g_nil)))) (gs_one (gs_ret (g_cmp (s_eq hu) (g_v 6 (pv 6)) (g_lst (g_cons (g_c pe_bl) (g_cons (g_c pe_bl) g_nil))))))))))))
theorem ok__law_are_papers_right_85 {f : Addr} {fd : FuncData} (F : Fun K "_law_are_papers_right" "_law_are_papers_right" t__law_are_papers_right_85 f fd) (Z : Blt mg) (k_why_even : Mini.Cl P w K mg base "why_even" ["bounds", "within"] 7 (spP K F_why_even_27)) (k_shows_even_bounds : Mini.Cl P w K mg base "shows_even_bounds" ["bounds", "within", "value"] 7 (spP K F_shows_even_25)) (k__law_unevenness : Mini.Cl P w K mg base "_law_unevenness" ["bounds"] 1 (spP K F__law_unevenness_82)) (k_even_sure : Mini.Cl P w K mg base "even_sure" ["bounds", "band"] 5 (spP K F_even_71)) (k__law_take : Mini.Cl P w K mg base "_law_take" ["pot", "upto"] 1 (spM K F__law_take_78)) (k_even_paper : Mini.Cl P w K mg base "even_paper" ["bounds", "band"] 6 (spP K F_even_paper_73)) (k_shows_even_sure : Mini.Cl P w K mg base "shows_even_sure" ["bounds", "band", "value"] 6 (spP K F_shows_even_74)) : FnOk P w K mg base CX0 8 f fd ["pot", "bounds", "within"] (spM K F__law_are_papers_right_85) := by
  refine fnM_ok (k := 7) (O := [0]) F z__law_are_papers_right_85 rfl (by decide) rfl rfl (by decide) fun cdv A outer s H E hc0 hr => ?_
  have nd := z__law_are_papers_right_85.nd
  have hu := hr.units
  have hu1 := Room.units1 hr
  have hd := hr.hd
  exact (gs_cons (gA 3 nd (gD k_why_even hr (g_cons (g_v 1 (pv 1)) (g_cons (g_v 2 (pv 2)) g_nil)))) (gs_cons (gs_if (g_tcmp s_notB (gD k_shows_even_bounds hr (g_cons (g_v 1 (pv 1)) (g_cons (g_v 2 (pv 2)) (g_cons (g_v 3 (pv 3)) g_nil)))) (g_c pe_bl)) (gs_one (gs_ret (g_c pe_bl))) gs_nil) (gs_cons (gs_if (g_tcmp (s_eq hu) (g_ix s_ix (g_v 3 (pv 3)) (g_c pe_int)) (g_c pe_str)) (gs_cons (gTg (g_cut (g_v 3 (pv 3)) (gp_e (g_c pe_int)) gp_no) (gTT rfl (gg_cons (gN 4 nd) (gg_cons (gN 5 nd) gg_nil)))) (gs_one (gs_ret (g_cmp s_gt (g_bin s_sub (g_ix s_ix (g_ix s_ix (g_v 1 (pv 1)) (g_v 4 (pv 4))) (g_c pe_int)) (g_ix s_ix (g_ix s_ix (g_v 1 (pv 1)) (g_v 5 (pv 5))) (g_c pe_int))) (g_v 2 (pv 2)))))) gs_nil) (gs_cons (gs_if (g_tcmp (s_eq hu) (g_ix s_ix (g_v 3 (pv 3)) (g_c pe_int)) (g_c pe_str)) (gs_one (gs_ret (g_cmp s_le (g_ix s_ix (gD k__law_unevenness hr (g_cons (g_v 1 (pv 1)) g_nil)) (g_c pe_int)) (g_v 2 (pv 2))))) gs_nil) (gs_cons (gTg (g_cut (g_v 3 (pv 3)) (gp_e (g_c pe_int)) gp_no) (gTT rfl (gg_cons (gN 6 nd) (gg_cons (gN 7 nd) gg_nil)))) (gs_cons (gA 8 nd (g_tup (g_cons (gB (b_min rfl hu hd) boot_min Z.min (g_cons (g_v 6 (pv 6)) g_nil)) (g_cons (g_bin s_add (gB (b_min rfl hu hd) boot_min Z.min (g_cons (g_v 6 (pv 6)) g_nil)) (g_v 2 (pv 2))) g_nil)))) (gs_cons (gs_if (PW.pt (g_tand (g_tcmp s_le (g_ix s_ix (g_v 8 (pv 8)) (g_c pe_int)) (g_c pe_int)) (g_tand1 (g_tcmp (s_eq hu) (gD k_even_sure hr (g_cons (g_v 1 (pv 1)) (g_cons (g_v 8 (pv 8)) g_nil))) (g_c pe_str))))) (gs_one (gs_ret (g_c pe_bl))) gs_nil) (gs_cons (gs_if (PW.pt (g_tor (g_tcmp s_gt (g_bin s_sub (gB (b_max rfl hu hd) boot_max Z.max (g_cons (g_v 6 (pv 6)) g_nil)) (gB (b_min rfl hu hd) boot_min Z.min (g_cons (g_v 6 (pv 6)) g_nil))) (g_v 2 (pv 2))) (g_tor1 (g_tcmp s_le (g_bin s_sub (gB (b_max rfl hu hd) boot_max Z.max (g_cons (g_v 7 (pv 7)) g_nil)) (gB (b_min rfl hu hd) boot_min Z.min (g_cons (g_v 7 (pv 7)) g_nil))) (g_v 2 (pv 2)))))) (gs_one (gs_ret (g_c pe_bl))) gs_nil) (gs_cons (gA 9 nd (gT b_tuple boot_tuple Z.tuple (g_cons (gLc [("one", 4)] rfl nd (pi_e (g_v 7 (pv 7))) (by first | decide +kernel | rfl) (fun _ _ _ _ _ => (gN 4 nd)) (fun _ _ _ _ _ => g_yes) (fun _ _ _ _ _ => (g_tup (g_cons (g_v 4 (pv 4)) (g_cons (g_v 4 (pv 4)) g_nil))))) g_nil))) (gs_cons (gA 10 nd (gT b_int boot_int Z.int (g_cons (gM 0 k__law_take hr (pv 0) (g_cons (gB (b_max rfl hu hd) boot_max Z.max (g_cons (g_c pe_int) (g_cons (g_bin s_sub (g_c pe_int) (g_v 2 (pv 2))) g_nil))) g_nil)) g_nil))) (gs_cons (gs_if (g_tcmp (s_eq hu) (gD k_even_sure hr (g_cons (g_v 9 (pv 9)) (g_cons (g_tup (g_cons (g_v 10 (pv 10)) (g_cons (g_bin s_add (g_v 10 (pv 10)) (g_v 2 (pv 2))) g_nil))) g_nil))) (g_c pe_str)) (gs_one (gs_ret (g_c pe_bl))) gs_nil) (gs_cons (gs_if (PW.pt (g_tor (g_tcmp s_gt (g_ix s_ix (g_v 8 (pv 8)) (g_c pe_int)) (g_c pe_int)) (g_tor1 (g_tcmp (s_ne hu) (gD k_even_sure hr (g_cons (g_v 1 (pv 1)) (g_cons (g_v 8 (pv 8)) g_nil))) (g_c pe_str))))) (gs_one (gs_ret (g_c pe_bl))) gs_nil) (gs_cons (gA 11 nd (gD k_even_paper hr (g_cons (g_v 1 (pv 1)) (g_cons (g_v 8 (pv 8)) g_nil)))) (gs_cons (gs_if (g_tcmp s_notB (gD k_shows_even_sure hr (g_cons (g_v 1 (pv 1)) (g_cons (g_v 8 (pv 8)) (g_cons (g_tup (g_cons (g_c pe_str) (g_cons (g_v 6 (pv 6)) (g_cons (g_ix s_ix (g_v 11 (pv 11)) (g_c pe_int)) g_nil)))) g_nil)))) (g_c pe_bl)) (gs_one (gs_ret (g_c pe_bl))) gs_nil) (gs_cons (gA 12 nd (g_bin s_sub (gB (b_max rfl hu hd) boot_max Z.max (g_cons (g_ix s_ix (g_v 11 (pv 11)) (g_c pe_int)) g_nil)) (gB (b_min rfl hu hd) boot_min Z.min (g_cons (g_ix s_ix (g_v 11 (pv 11)) (g_c pe_int)) g_nil)))) (gs_one (gs_ret (g_cmp (s_eq hu) (gD k_shows_even_bounds hr (g_cons (g_v 1 (pv 1)) (g_cons (g_v 2 (pv 2)) (g_cons (g_tup (g_cons (g_c pe_str) (g_cons (g_ix s_ix (g_v 11 (pv 11)) (g_c pe_int)) (g_cons (g_ix s_ix (g_v 11 (pv 11)) (g_c pe_int)) g_nil)))) g_nil)))) (g_cmp s_gt (g_v 12 (pv 12)) (g_v 2 (pv 2)))))))))))))))))))))
theorem ok__law_right_87 {f : Addr} {fd : FuncData} (F : Fun K "_law_right" "_law_right" t__law_right_87 f fd) (Z : Blt mg) (k__law_of : Mini.Cl P w K mg base "_law_of" ["pot", "some"] 2 (spM K F__law_of_79)) (k__law_take : Mini.Cl P w K mg base "_law_take" ["pot", "upto"] 1 (spM K F__law_take_78)) (k__law_bounds : Mini.Cl P w K mg base "_law_bounds" ["pot", "many", "most"] 2 (spM K F__law_bounds_81)) (k_unevenness : Mini.Cl P w K mg base "unevenness" ["bounds"] 5 (spP K F_unevenness_22)) (k__law_unevenness : Mini.Cl P w K mg base "_law_unevenness" ["bounds"] 1 (spP K F__law_unevenness_82)) (k__law_are_bands_right : Mini.Cl P w K mg base "_law_are_bands_right" ["bounds", "within"] 7 (spP K F__law_are_bands_right_84)) (k__law_are_papers_right : Mini.Cl P w K mg base "_law_are_papers_right" ["pot", "bounds", "within"] 8 (spM K F__law_are_papers_right_85)) (k_even_bounds : Mini.Cl P w K mg base "even_bounds" ["bounds", "within"] 6 (spP K F_even_23)) (k__law_are_exact_right : Mini.Cl P w K mg base "_law_are_exact_right" ["row", "within"] 8 (spP K F__law_are_exact_right_86)) : FnOk P w K mg base CX0 9 f fd ["pot"] (spM K F__law_right_87) := by
  refine fnM_ok (k := 8) (O := [0]) F z__law_right_87 rfl (by decide) rfl rfl (by decide) fun cdv A outer s H E hc0 hr => ?_
  have nd := z__law_right_87.nd
  have hu := hr.units
  have hu1 := Room.units1 hr
  have hd := hr.hd
  exact (gs_cons (gA 1 nd (gM 0 k__law_of hr (pv 0) (g_cons (g_lst (g_cons (g_c pe_int) (g_cons (g_c pe_int) (g_cons (g_c pe_int) g_nil)))) g_nil))) (gs_cons (gA 2 nd (gM 0 k__law_bounds hr (pv 0) (g_cons (g_bin s_add (g_c pe_int) (gM 0 k__law_take hr (pv 0) (g_cons (gM 0 k__law_of hr (pv 0) (g_cons (g_lst (g_cons (g_c pe_int) (g_cons (g_c pe_int) g_nil))) g_nil)) g_nil))) (g_cons (g_v 1 (pv 1)) g_nil)))) (gs_cons (gA 3 nd (gD k_unevenness hr (g_cons (g_v 2 (pv 2)) g_nil))) (gs_cons (gs_if (PW.pt (g_tor (g_tcmp (s_ne hu) (g_v 3 (pv 3)) (gD k__law_unevenness hr (g_cons (g_v 2 (pv 2)) g_nil))) (g_tor1 (g_tcmp (s_ne hu) (gD k_unevenness hr (g_cons (g_rev (g_v 2 (pv 2))) g_nil)) (g_v 3 (pv 3)))))) (gs_one (gs_ret (g_c pe_bl))) gs_nil) (gs_cons (gs_for (pi_e (g_tup (g_cons (g_ix s_ix (g_v 3 (pv 3)) (g_c pe_int)) (g_cons (gB (b_max rfl hu hd) boot_max Z.max (g_cons (g_c pe_int) (g_cons (g_bin s_sub (g_ix s_ix (g_v 3 (pv 3)) (g_c pe_int)) (g_c pe_int)) g_nil))) (g_cons (g_ix s_ix (g_v 3 (pv 3)) (g_c pe_int)) (g_cons (gT b_int boot_int Z.int (g_cons (gM 0 k__law_take hr (pv 0) (g_cons (g_bin s_add (g_v 1 (pv 1)) (g_c pe_int)) g_nil)) g_nil)) g_nil)))))) (gN 4 nd) (gs_cons (gs_if (PW.pt (g_tor (g_tnot (gTv (gD k__law_are_bands_right hr (g_cons (g_v 2 (pv 2)) (g_cons (g_v 4 (pv 4)) g_nil))))) (g_tor1 (g_tnot (gTv (gM 0 k__law_are_papers_right hr (pv 0) (g_cons (g_v 2 (pv 2)) (g_cons (g_v 4 (pv 4)) g_nil)))))))) (gs_one (gs_ret (g_c pe_bl))) gs_nil) (gs_one (gs_if (g_tcmp (s_ne hu) (gD k_even_bounds hr (g_cons (g_rev (g_v 2 (pv 2))) (g_cons (g_v 4 (pv 4)) g_nil))) (gD k_even_bounds hr (g_cons (g_v 2 (pv 2)) (g_cons (g_v 4 (pv 4)) g_nil)))) (gs_one (gs_ret (g_c pe_bl))) gs_nil)))) (gs_one (gs_ret (gD k__law_are_exact_right hr (g_cons (gT b_tuple boot_tuple Z.tuple (g_cons (gLc [("low", 5), ("high", 6)] rfl nd (pi_e (g_v 2 (pv 2))) (by first | decide +kernel | rfl) (fun _ _ _ _ _ => (gTT rfl (gg_cons (gN 5 nd) (gg_cons (gN 6 nd) gg_nil)))) (fun _ _ _ _ _ => g_yes) (fun _ _ _ _ _ => (g_v 5 (pv 5)))) g_nil)) (g_cons (gT b_int boot_int Z.int (g_cons (gM 0 k__law_take hr (pv 0) (g_cons (g_bin s_add (g_v 1 (pv 1)) (g_c pe_int)) g_nil)) g_nil)) g_nil))))))))))
theorem ok_law_88 {f : Addr} {fd : FuncData} (F : Fun K "law" "law" t_law_88 f fd) (Z : Blt mg) (k__law_cells : Mini.Cl P w K mg base "_law_cells" ["script", "most"] 1 (spP K F__law_cells_80)) (k__law_pot : Mini.Cl P w K mg base "_law_pot" ["script", "place"] 1 (spP K F__law_pot_77)) (k__law_right : Mini.Cl P w K mg base "_law_right" ["pot"] 9 (spM K F__law_right_87)) : FnOk P w K mg base CX0 10 f fd ["script"] (spP K F_law_88) := by
  refine fn_ok (k := 9) (O := [2]) F z_law_88 rfl rfl rfl (by decide) fun cdv A outer s H E hc0 hr => ?_
  have nd := z_law_88.nd
  have hu := hr.units
  have hu1 := Room.units1 hr
  have hd := hr.hd
  exact (gs_cons (gs_for (pi_e (gD k__law_cells hr (g_cons (g_v 0 (pv 0)) (g_cons (g_c pe_int) g_nil)))) (gN 1 nd) (gs_cons (gAo 2 nd (gD k__law_pot hr (g_cons (g_v 0 (pv 0)) (g_cons (g_v 1 (pv 1)) g_nil)))) (gs_one (gs_if (g_tnot (gTv (gB (b_all rfl) boot_all Z.all (g_cons (gLc [("lap", 3)] rfl nd (gR1 Z.range (g_c pe_int)) (by first | decide +kernel | rfl) (fun _ _ _ _ _ => (gN 3 nd)) (fun _ _ _ _ _ => g_yes) (fun _ _ _ _ _ => (gM 2 k__law_right hr (pv 2) g_nil))) g_nil)))) (gs_one (gs_ret (g_c pe_bl))) gs_nil)))) (gs_one (gs_ret (g_c pe_bl))))
end
set_option maxHeartbeats 0 in
theorem all_mk {l : PySem.W.OpenLaw} {w : World} {K : PySem.W.Frag} {h : Heap} {mg : Str → Option Value} {fa : Addr} {ts : List Addr} (X : K.In h) (G : h.Ns mainGlobals mg) (hfa : mg "law" = some (.ref fa)) (hts : ∀ P ∈ ts, h.get? P = some { cls := .none, data := .fields #[] })
    {f__law_cells_80 : Addr} {oc__law_cells_80 kV__law_cells_80 dc__law_cells_80 pm__law_cells_80 cd__law_cells_80 ct__law_cells_80 : Value} {od__law_cells_80 an__law_cells_80 : Option Addr} {sl__law_cells_80 : Array (Option Value)}
    {f__law_pot_77 : Addr} {oc__law_pot_77 kV__law_pot_77 dc__law_pot_77 pm__law_pot_77 cd__law_pot_77 ct__law_pot_77 : Value} {od__law_pot_77 an__law_pot_77 : Option Addr} {sl__law_pot_77 : Array (Option Value)}
    {f__law_take_78 : Addr} {oc__law_take_78 kV__law_take_78 dc__law_take_78 pm__law_take_78 cd__law_take_78 ct__law_take_78 : Value} {od__law_take_78 an__law_take_78 : Option Addr} {sl__law_take_78 : Array (Option Value)}
    {f__law_of_79 : Addr} {oc__law_of_79 kV__law_of_79 dc__law_of_79 pm__law_of_79 cd__law_of_79 ct__law_of_79 : Value} {od__law_of_79 an__law_of_79 : Option Addr} {sl__law_of_79 : Array (Option Value)}
    {f__law_bounds_81 : Addr} {oc__law_bounds_81 kV__law_bounds_81 dc__law_bounds_81 pm__law_bounds_81 cd__law_bounds_81 ct__law_bounds_81 : Value} {od__law_bounds_81 an__law_bounds_81 : Option Addr} {sl__law_bounds_81 : Array (Option Value)}
    {f_is_tuple_1 : Addr} {oc_is_tuple_1 kV_is_tuple_1 dc_is_tuple_1 pm_is_tuple_1 cd_is_tuple_1 ct_is_tuple_1 : Value} {od_is_tuple_1 an_is_tuple_1 : Option Addr} {sl_is_tuple_1 : Array (Option Value)}
    {f_is_whole_2 : Addr} {oc_is_whole_2 kV_is_whole_2 dc_is_whole_2 pm_is_whole_2 cd_is_whole_2 ct_is_whole_2 : Value} {od_is_whole_2 an_is_whole_2 : Option Addr} {sl_is_whole_2 : Array (Option Value)}
    {f_is_integer_3 : Addr} {oc_is_integer_3 kV_is_integer_3 dc_is_integer_3 pm_is_integer_3 cd_is_integer_3 ct_is_integer_3 : Value} {od_is_integer_3 an_is_integer_3 : Option Addr} {sl_is_integer_3 : Array (Option Value)}
    {f_is_bound_18 : Addr} {oc_is_bound_18 kV_is_bound_18 dc_is_bound_18 pm_is_bound_18 cd_is_bound_18 ct_is_bound_18 : Value} {od_is_bound_18 an_is_bound_18 : Option Addr} {sl_is_bound_18 : Array (Option Value)}
    {f_check_bounds_19 : Addr} {oc_check_bounds_19 kV_check_bounds_19 dc_check_bounds_19 pm_check_bounds_19 cd_check_bounds_19 ct_check_bounds_19 : Value} {od_check_bounds_19 an_check_bounds_19 : Option Addr} {sl_check_bounds_19 : Array (Option Value)}
    {f_others_of_21 : Addr} {oc_others_of_21 kV_others_of_21 dc_others_of_21 pm_others_of_21 cd_others_of_21 ct_others_of_21 : Value} {od_others_of_21 an_others_of_21 : Option Addr} {sl_others_of_21 : Array (Option Value)}
    {f_unevenness_22 : Addr} {oc_unevenness_22 kV_unevenness_22 dc_unevenness_22 pm_unevenness_22 cd_unevenness_22 ct_unevenness_22 : Value} {od_unevenness_22 an_unevenness_22 : Option Addr} {sl_unevenness_22 : Array (Option Value)}
    {f_even_23 : Addr} {oc_even_23 kV_even_23 dc_even_23 pm_even_23 cd_even_23 ct_even_23 : Value} {od_even_23 an_even_23 : Option Addr} {sl_even_23 : Array (Option Value)}
    {f_is_row_50 : Addr} {oc_is_row_50 kV_is_row_50 dc_is_row_50 pm_is_row_50 cd_is_row_50 ct_is_row_50 : Value} {od_is_row_50 an_is_row_50 : Option Addr} {sl_is_row_50 : Array (Option Value)}
    {f_check_row_52 : Addr} {oc_check_row_52 kV_check_row_52 dc_check_row_52 pm_check_row_52 cd_check_row_52 ct_check_row_52 : Value} {od_check_row_52 an_check_row_52 : Option Addr} {sl_check_row_52 : Array (Option Value)}
    {f_check_width_53 : Addr} {oc_check_width_53 kV_check_width_53 dc_check_width_53 pm_check_width_53 cd_check_width_53 ct_check_width_53 : Value} {od_check_width_53 an_check_width_53 : Option Addr} {sl_check_width_53 : Array (Option Value)}
    {f_differ_54 : Addr} {oc_differ_54 kV_differ_54 dc_differ_54 pm_differ_54 cd_differ_54 ct_differ_54 : Value} {od_differ_54 an_differ_54 : Option Addr} {sl_differ_54 : Array (Option Value)}
    {f_fewest_parts_55 : Addr} {oc_fewest_parts_55 kV_fewest_parts_55 dc_fewest_parts_55 pm_fewest_parts_55 cd_fewest_parts_55 ct_fewest_parts_55 : Value} {od_fewest_parts_55 an_fewest_parts_55 : Option Addr} {sl_fewest_parts_55 : Array (Option Value)}
    {f_least_width_56 : Addr} {oc_least_width_56 kV_least_width_56 dc_least_width_56 pm_least_width_56 cd_least_width_56 ct_least_width_56 : Value} {od_least_width_56 an_least_width_56 : Option Addr} {sl_least_width_56 : Array (Option Value)}
    {f_is_sizes_32 : Addr} {oc_is_sizes_32 kV_is_sizes_32 dc_is_sizes_32 pm_is_sizes_32 cd_is_sizes_32 ct_is_sizes_32 : Value} {od_is_sizes_32 an_is_sizes_32 : Option Addr} {sl_is_sizes_32 : Array (Option Value)}
    {f_check_sizes_33 : Addr} {oc_check_sizes_33 kV_check_sizes_33 dc_check_sizes_33 pm_check_sizes_33 cd_check_sizes_33 ct_check_sizes_33 : Value} {od_check_sizes_33 an_check_sizes_33 : Option Addr} {sl_check_sizes_33 : Array (Option Value)}
    {f_check_number_38 : Addr} {oc_check_number_38 kV_check_number_38 dc_check_number_38 pm_check_number_38 cd_check_number_38 ct_check_number_38 : Value} {od_check_number_38 an_check_number_38 : Option Addr} {sl_check_number_38 : Array (Option Value)}
    {f_rising_35 : Addr} {oc_rising_35 kV_rising_35 dc_rising_35 pm_rising_35  ct_rising_35 : Value} {od_rising_35 an_rising_35 : Option Addr} {sl_rising_35 : Array (Option Value)} {cc_rising_35 : Addr}
    {f_classes_of_36 : Addr} {oc_classes_of_36 kV_classes_of_36 dc_classes_of_36 pm_classes_of_36 cd_classes_of_36 ct_classes_of_36 : Value} {od_classes_of_36 an_classes_of_36 : Option Addr} {sl_classes_of_36 : Array (Option Value)}
    {f_least_spread_39 : Addr} {oc_least_spread_39 kV_least_spread_39 dc_least_spread_39 pm_least_spread_39 cd_least_spread_39 ct_least_spread_39 : Value} {od_least_spread_39 an_least_spread_39 : Option Addr} {sl_least_spread_39 : Array (Option Value)}
    {f_check_spread_34 : Addr} {oc_check_spread_34 kV_check_spread_34 dc_check_spread_34 pm_check_spread_34 cd_check_spread_34 ct_check_spread_34 : Value} {od_check_spread_34 an_check_spread_34 : Option Addr} {sl_check_spread_34 : Array (Option Value)}
    {f_fewest_classes_37 : Addr} {oc_fewest_classes_37 kV_fewest_classes_37 dc_fewest_classes_37 pm_fewest_classes_37 cd_fewest_classes_37 ct_fewest_classes_37 : Value} {od_fewest_classes_37 an_fewest_classes_37 : Option Addr} {sl_fewest_classes_37 : Array (Option Value)}
    {f__law_are_exact_right_86 : Addr} {oc__law_are_exact_right_86 kV__law_are_exact_right_86 dc__law_are_exact_right_86 pm__law_are_exact_right_86 cd__law_are_exact_right_86 ct__law_are_exact_right_86 : Value} {od__law_are_exact_right_86 an__law_are_exact_right_86 : Option Addr} {sl__law_are_exact_right_86 : Array (Option Value)}
    {f__law_unevenness_82 : Addr} {oc__law_unevenness_82 kV__law_unevenness_82 dc__law_unevenness_82 pm__law_unevenness_82 cd__law_unevenness_82 ct__law_unevenness_82 : Value} {od__law_unevenness_82 an__law_unevenness_82 : Option Addr} {sl__law_unevenness_82 : Array (Option Value)}
    {f_is_bounds_65 : Addr} {oc_is_bounds_65 kV_is_bounds_65 dc_is_bounds_65 pm_is_bounds_65 cd_is_bounds_65 ct_is_bounds_65 : Value} {od_is_bounds_65 an_is_bounds_65 : Option Addr} {sl_is_bounds_65 : Array (Option Value)}
    {f_check_bounds_66 : Addr} {oc_check_bounds_66 kV_check_bounds_66 dc_check_bounds_66 pm_check_bounds_66 cd_check_bounds_66 ct_check_bounds_66 : Value} {od_check_bounds_66 an_check_bounds_66 : Option Addr} {sl_check_bounds_66 : Array (Option Value)}
    {f_is_band_43 : Addr} {oc_is_band_43 kV_is_band_43 dc_is_band_43 pm_is_band_43 cd_is_band_43 ct_is_band_43 : Value} {od_is_band_43 an_is_band_43 : Option Addr} {sl_is_band_43 : Array (Option Value)}
    {f_check_band_44 : Addr} {oc_check_band_44 kV_check_band_44 dc_check_band_44 pm_check_band_44 cd_check_band_44 ct_check_band_44 : Value} {od_check_band_44 an_check_band_44 : Option Addr} {sl_check_band_44 : Array (Option Value)}
    {f_verdict_of_70 : Addr} {oc_verdict_of_70 kV_verdict_of_70 dc_verdict_of_70 pm_verdict_of_70 cd_verdict_of_70 ct_verdict_of_70 : Value} {od_verdict_of_70 an_verdict_of_70 : Option Addr} {sl_verdict_of_70 : Array (Option Value)}
    {f_even_71 : Addr} {oc_even_71 kV_even_71 dc_even_71 pm_even_71 cd_even_71 ct_even_71 : Value} {od_even_71 an_even_71 : Option Addr} {sl_even_71 : Array (Option Value)}
    {f__law_word_83 : Addr} {oc__law_word_83 kV__law_word_83 dc__law_word_83 pm__law_word_83 cd__law_word_83 ct__law_word_83 : Value} {od__law_word_83 an__law_word_83 : Option Addr} {sl__law_word_83 : Array (Option Value)}
    {f__law_are_bands_right_84 : Addr} {oc__law_are_bands_right_84 kV__law_are_bands_right_84 dc__law_are_bands_right_84 pm__law_are_bands_right_84 cd__law_are_bands_right_84 ct__law_are_bands_right_84 : Value} {od__law_are_bands_right_84 an__law_are_bands_right_84 : Option Addr} {sl__law_are_bands_right_84 : Array (Option Value)}
    {f_why_even_27 : Addr} {oc_why_even_27 kV_why_even_27 dc_why_even_27 pm_why_even_27 cd_why_even_27 ct_why_even_27 : Value} {od_why_even_27 an_why_even_27 : Option Addr} {sl_why_even_27 : Array (Option Value)}
    {f_even_paper_73 : Addr} {oc_even_paper_73 kV_even_paper_73 dc_even_paper_73 pm_even_paper_73 cd_even_paper_73 ct_even_paper_73 : Value} {od_even_paper_73 an_even_paper_73 : Option Addr} {sl_even_paper_73 : Array (Option Value)}
    {f_shows_even_25 : Addr} {oc_shows_even_25 kV_shows_even_25 dc_shows_even_25 pm_shows_even_25 cd_shows_even_25 ct_shows_even_25 : Value} {od_shows_even_25 an_shows_even_25 : Option Addr} {sl_shows_even_25 : Array (Option Value)}
    {f_is_row_68 : Addr} {oc_is_row_68 kV_is_row_68 dc_is_row_68 pm_is_row_68 cd_is_row_68 ct_is_row_68 : Value} {od_is_row_68 an_is_row_68 : Option Addr} {sl_is_row_68 : Array (Option Value)}
    {f_shows_even_74 : Addr} {oc_shows_even_74 kV_shows_even_74 dc_shows_even_74 pm_shows_even_74 cd_shows_even_74 ct_shows_even_74 : Value} {od_shows_even_74 an_shows_even_74 : Option Addr} {sl_shows_even_74 : Array (Option Value)}
    {f__law_are_papers_right_85 : Addr} {oc__law_are_papers_right_85 kV__law_are_papers_right_85 dc__law_are_papers_right_85 pm__law_are_papers_right_85 cd__law_are_papers_right_85 ct__law_are_papers_right_85 : Value} {od__law_are_papers_right_85 an__law_are_papers_right_85 : Option Addr} {sl__law_are_papers_right_85 : Array (Option Value)}
    {f__law_right_87 : Addr} {oc__law_right_87 kV__law_right_87 dc__law_right_87 pm__law_right_87 cd__law_right_87 ct__law_right_87 : Value} {od__law_right_87 an__law_right_87 : Option Addr} {sl__law_right_87 : Array (Option Value)}
    {f_law_88 : Addr} {oc_law_88 kV_law_88 dc_law_88 pm_law_88 cd_law_88 ct_law_88 : Value} {od_law_88 an_law_88 : Option Addr} {sl_law_88 : Array (Option Value)}
    {t_PAIR_bounds : Tok}
    {t_MOST_STRENGTH : Tok}
    {t_MOST_STRANDS : Tok}
    {t_SURE_bounds : Tok}
    {t_NEVER_bounds : Tok}
    {t_OPEN_bounds : Tok}
    {t_MOST_YARDS : Tok}
    {t_MOST_SUM_parts : Tok}
    {t_MOST_PARTS : Tok}
    {t_PAIR_parts : Tok}
    {t_MOST_SIZES : Tok}
    {t_MOST_SIZE : Tok}
    {t_PAIR_classes : Tok}
    {t_MOST_ROWS : Tok}
    {t_PAIR_sure : Tok}
    {t_MOST_SUM_sure : Tok}
    {t_PAIR_strands : Tok}
    {t_MOST_SUM_strands : Tok}
    {t_NEVER_sure : Tok}
    {t_SURE_sure : Tok}
    {t_OPEN_sure : Tok}
    {t_TRIPLE : Tok}
    (a__law_cells : PySem.W.nsIn K mainGlobals "_law_cells" = some (some (.ref f__law_cells_80)))
    (l__law_cells_80 : K.lookup f__law_cells_80 = some ⟨oc__law_cells_80, od__law_cells_80, .func (PySem.W.fnOf "_law_cells" "_law_cells" (defArgs t__law_cells_80) (defBody t__law_cells_80) (defScope t__law_cells_80) .none kV__law_cells_80 dc__law_cells_80 pm__law_cells_80 an__law_cells_80 cd__law_cells_80 ct__law_cells_80), sl__law_cells_80⟩)
    (c__law_cells_80 : PySem.W.codeIn K cd__law_cells_80 "_law_cells" = true)
    (k__law_cells_80 : PySem.W.keepIn K (.ref f__law_cells_80) = true)
    (a__law_pot : PySem.W.nsIn K mainGlobals "_law_pot" = some (some (.ref f__law_pot_77)))
    (l__law_pot_77 : K.lookup f__law_pot_77 = some ⟨oc__law_pot_77, od__law_pot_77, .func (PySem.W.fnOf "_law_pot" "_law_pot" (defArgs t__law_pot_77) (defBody t__law_pot_77) (defScope t__law_pot_77) .none kV__law_pot_77 dc__law_pot_77 pm__law_pot_77 an__law_pot_77 cd__law_pot_77 ct__law_pot_77), sl__law_pot_77⟩)
    (c__law_pot_77 : PySem.W.codeIn K cd__law_pot_77 "_law_pot" = true)
    (k__law_pot_77 : PySem.W.keepIn K (.ref f__law_pot_77) = true)
    (a__law_take : PySem.W.nsIn K mainGlobals "_law_take" = some (some (.ref f__law_take_78)))
    (l__law_take_78 : K.lookup f__law_take_78 = some ⟨oc__law_take_78, od__law_take_78, .func (PySem.W.fnOf "_law_take" "_law_take" (defArgs t__law_take_78) (defBody t__law_take_78) (defScope t__law_take_78) .none kV__law_take_78 dc__law_take_78 pm__law_take_78 an__law_take_78 cd__law_take_78 ct__law_take_78), sl__law_take_78⟩)
    (c__law_take_78 : PySem.W.codeIn K cd__law_take_78 "_law_take" = true)
    (k__law_take_78 : PySem.W.keepIn K (.ref f__law_take_78) = true)
    (a__law_of : PySem.W.nsIn K mainGlobals "_law_of" = some (some (.ref f__law_of_79)))
    (l__law_of_79 : K.lookup f__law_of_79 = some ⟨oc__law_of_79, od__law_of_79, .func (PySem.W.fnOf "_law_of" "_law_of" (defArgs t__law_of_79) (defBody t__law_of_79) (defScope t__law_of_79) .none kV__law_of_79 dc__law_of_79 pm__law_of_79 an__law_of_79 cd__law_of_79 ct__law_of_79), sl__law_of_79⟩)
    (c__law_of_79 : PySem.W.codeIn K cd__law_of_79 "_law_of" = true)
    (k__law_of_79 : PySem.W.keepIn K (.ref f__law_of_79) = true)
    (a__law_bounds : PySem.W.nsIn K mainGlobals "_law_bounds" = some (some (.ref f__law_bounds_81)))
    (l__law_bounds_81 : K.lookup f__law_bounds_81 = some ⟨oc__law_bounds_81, od__law_bounds_81, .func (PySem.W.fnOf "_law_bounds" "_law_bounds" (defArgs t__law_bounds_81) (defBody t__law_bounds_81) (defScope t__law_bounds_81) .none kV__law_bounds_81 dc__law_bounds_81 pm__law_bounds_81 an__law_bounds_81 cd__law_bounds_81 ct__law_bounds_81), sl__law_bounds_81⟩)
    (c__law_bounds_81 : PySem.W.codeIn K cd__law_bounds_81 "_law_bounds" = true)
    (k__law_bounds_81 : PySem.W.keepIn K (.ref f__law_bounds_81) = true)
    (a_is_tuple : PySem.W.nsIn K mainGlobals "is_tuple" = some (some (.ref f_is_tuple_1)))
    (l_is_tuple_1 : K.lookup f_is_tuple_1 = some ⟨oc_is_tuple_1, od_is_tuple_1, .func (PySem.W.fnOf "is_tuple" "is_tuple" (defArgs t_is_tuple_1) (defBody t_is_tuple_1) (defScope t_is_tuple_1) .none kV_is_tuple_1 dc_is_tuple_1 pm_is_tuple_1 an_is_tuple_1 cd_is_tuple_1 ct_is_tuple_1), sl_is_tuple_1⟩)
    (c_is_tuple_1 : PySem.W.codeIn K cd_is_tuple_1 "is_tuple" = true)
    (k_is_tuple_1 : PySem.W.keepIn K (.ref f_is_tuple_1) = true)
    (a_is_whole : PySem.W.nsIn K mainGlobals "is_whole" = some (some (.ref f_is_whole_2)))
    (l_is_whole_2 : K.lookup f_is_whole_2 = some ⟨oc_is_whole_2, od_is_whole_2, .func (PySem.W.fnOf "is_whole" "is_whole" (defArgs t_is_whole_2) (defBody t_is_whole_2) (defScope t_is_whole_2) .none kV_is_whole_2 dc_is_whole_2 pm_is_whole_2 an_is_whole_2 cd_is_whole_2 ct_is_whole_2), sl_is_whole_2⟩)
    (c_is_whole_2 : PySem.W.codeIn K cd_is_whole_2 "is_whole" = true)
    (k_is_whole_2 : PySem.W.keepIn K (.ref f_is_whole_2) = true)
    (a_is_integer : PySem.W.nsIn K mainGlobals "is_integer" = some (some (.ref f_is_integer_3)))
    (l_is_integer_3 : K.lookup f_is_integer_3 = some ⟨oc_is_integer_3, od_is_integer_3, .func (PySem.W.fnOf "is_integer" "is_integer" (defArgs t_is_integer_3) (defBody t_is_integer_3) (defScope t_is_integer_3) .none kV_is_integer_3 dc_is_integer_3 pm_is_integer_3 an_is_integer_3 cd_is_integer_3 ct_is_integer_3), sl_is_integer_3⟩)
    (c_is_integer_3 : PySem.W.codeIn K cd_is_integer_3 "is_integer" = true)
    (k_is_integer_3 : PySem.W.keepIn K (.ref f_is_integer_3) = true)
    (a_is_bound : PySem.W.nsIn K mainGlobals "is_bound" = some (some (.ref f_is_bound_18)))
    (l_is_bound_18 : K.lookup f_is_bound_18 = some ⟨oc_is_bound_18, od_is_bound_18, .func (PySem.W.fnOf "is_bound" "is_bound" (defArgs t_is_bound_18) (defBody t_is_bound_18) (defScope t_is_bound_18) .none kV_is_bound_18 dc_is_bound_18 pm_is_bound_18 an_is_bound_18 cd_is_bound_18 ct_is_bound_18), sl_is_bound_18⟩)
    (c_is_bound_18 : PySem.W.codeIn K cd_is_bound_18 "is_bound" = true)
    (k_is_bound_18 : PySem.W.keepIn K (.ref f_is_bound_18) = true)
    (a_check_bounds_bounds : PySem.W.nsIn K mainGlobals "check_bounds_bounds" = some (some (.ref f_check_bounds_19)))
    (l_check_bounds_19 : K.lookup f_check_bounds_19 = some ⟨oc_check_bounds_19, od_check_bounds_19, .func (PySem.W.fnOf "check_bounds" "check_bounds" (defArgs t_check_bounds_19) (defBody t_check_bounds_19) (defScope t_check_bounds_19) .none kV_check_bounds_19 dc_check_bounds_19 pm_check_bounds_19 an_check_bounds_19 cd_check_bounds_19 ct_check_bounds_19), sl_check_bounds_19⟩)
    (c_check_bounds_19 : PySem.W.codeIn K cd_check_bounds_19 "check_bounds" = true)
    (k_check_bounds_19 : PySem.W.keepIn K (.ref f_check_bounds_19) = true)
    (a_others_of : PySem.W.nsIn K mainGlobals "others_of" = some (some (.ref f_others_of_21)))
    (l_others_of_21 : K.lookup f_others_of_21 = some ⟨oc_others_of_21, od_others_of_21, .func (PySem.W.fnOf "others_of" "others_of" (defArgs t_others_of_21) (defBody t_others_of_21) (defScope t_others_of_21) .none kV_others_of_21 dc_others_of_21 pm_others_of_21 an_others_of_21 cd_others_of_21 ct_others_of_21), sl_others_of_21⟩)
    (c_others_of_21 : PySem.W.codeIn K cd_others_of_21 "others_of" = true)
    (k_others_of_21 : PySem.W.keepIn K (.ref f_others_of_21) = true)
    (a_unevenness : PySem.W.nsIn K mainGlobals "unevenness" = some (some (.ref f_unevenness_22)))
    (l_unevenness_22 : K.lookup f_unevenness_22 = some ⟨oc_unevenness_22, od_unevenness_22, .func (PySem.W.fnOf "unevenness" "unevenness" (defArgs t_unevenness_22) (defBody t_unevenness_22) (defScope t_unevenness_22) .none kV_unevenness_22 dc_unevenness_22 pm_unevenness_22 an_unevenness_22 cd_unevenness_22 ct_unevenness_22), sl_unevenness_22⟩)
    (c_unevenness_22 : PySem.W.codeIn K cd_unevenness_22 "unevenness" = true)
    (k_unevenness_22 : PySem.W.keepIn K (.ref f_unevenness_22) = true)
    (a_even_bounds : PySem.W.nsIn K mainGlobals "even_bounds" = some (some (.ref f_even_23)))
    (l_even_23 : K.lookup f_even_23 = some ⟨oc_even_23, od_even_23, .func (PySem.W.fnOf "even" "even" (defArgs t_even_23) (defBody t_even_23) (defScope t_even_23) .none kV_even_23 dc_even_23 pm_even_23 an_even_23 cd_even_23 ct_even_23), sl_even_23⟩)
    (c_even_23 : PySem.W.codeIn K cd_even_23 "even" = true)
    (k_even_23 : PySem.W.keepIn K (.ref f_even_23) = true)
    (a_is_row_parts : PySem.W.nsIn K mainGlobals "is_row_parts" = some (some (.ref f_is_row_50)))
    (l_is_row_50 : K.lookup f_is_row_50 = some ⟨oc_is_row_50, od_is_row_50, .func (PySem.W.fnOf "is_row" "is_row" (defArgs t_is_row_50) (defBody t_is_row_50) (defScope t_is_row_50) .none kV_is_row_50 dc_is_row_50 pm_is_row_50 an_is_row_50 cd_is_row_50 ct_is_row_50), sl_is_row_50⟩)
    (c_is_row_50 : PySem.W.codeIn K cd_is_row_50 "is_row" = true)
    (k_is_row_50 : PySem.W.keepIn K (.ref f_is_row_50) = true)
    (a_check_row : PySem.W.nsIn K mainGlobals "check_row" = some (some (.ref f_check_row_52)))
    (l_check_row_52 : K.lookup f_check_row_52 = some ⟨oc_check_row_52, od_check_row_52, .func (PySem.W.fnOf "check_row" "check_row" (defArgs t_check_row_52) (defBody t_check_row_52) (defScope t_check_row_52) .none kV_check_row_52 dc_check_row_52 pm_check_row_52 an_check_row_52 cd_check_row_52 ct_check_row_52), sl_check_row_52⟩)
    (c_check_row_52 : PySem.W.codeIn K cd_check_row_52 "check_row" = true)
    (k_check_row_52 : PySem.W.keepIn K (.ref f_check_row_52) = true)
    (a_check_width : PySem.W.nsIn K mainGlobals "check_width" = some (some (.ref f_check_width_53)))
    (l_check_width_53 : K.lookup f_check_width_53 = some ⟨oc_check_width_53, od_check_width_53, .func (PySem.W.fnOf "check_width" "check_width" (defArgs t_check_width_53) (defBody t_check_width_53) (defScope t_check_width_53) .none kV_check_width_53 dc_check_width_53 pm_check_width_53 an_check_width_53 cd_check_width_53 ct_check_width_53), sl_check_width_53⟩)
    (c_check_width_53 : PySem.W.codeIn K cd_check_width_53 "check_width" = true)
    (k_check_width_53 : PySem.W.keepIn K (.ref f_check_width_53) = true)
    (a_differ : PySem.W.nsIn K mainGlobals "differ" = some (some (.ref f_differ_54)))
    (l_differ_54 : K.lookup f_differ_54 = some ⟨oc_differ_54, od_differ_54, .func (PySem.W.fnOf "differ" "differ" (defArgs t_differ_54) (defBody t_differ_54) (defScope t_differ_54) .none kV_differ_54 dc_differ_54 pm_differ_54 an_differ_54 cd_differ_54 ct_differ_54), sl_differ_54⟩)
    (c_differ_54 : PySem.W.codeIn K cd_differ_54 "differ" = true)
    (k_differ_54 : PySem.W.keepIn K (.ref f_differ_54) = true)
    (a_fewest_parts : PySem.W.nsIn K mainGlobals "fewest_parts" = some (some (.ref f_fewest_parts_55)))
    (l_fewest_parts_55 : K.lookup f_fewest_parts_55 = some ⟨oc_fewest_parts_55, od_fewest_parts_55, .func (PySem.W.fnOf "fewest_parts" "fewest_parts" (defArgs t_fewest_parts_55) (defBody t_fewest_parts_55) (defScope t_fewest_parts_55) .none kV_fewest_parts_55 dc_fewest_parts_55 pm_fewest_parts_55 an_fewest_parts_55 cd_fewest_parts_55 ct_fewest_parts_55), sl_fewest_parts_55⟩)
    (c_fewest_parts_55 : PySem.W.codeIn K cd_fewest_parts_55 "fewest_parts" = true)
    (k_fewest_parts_55 : PySem.W.keepIn K (.ref f_fewest_parts_55) = true)
    (a_least_width : PySem.W.nsIn K mainGlobals "least_width" = some (some (.ref f_least_width_56)))
    (l_least_width_56 : K.lookup f_least_width_56 = some ⟨oc_least_width_56, od_least_width_56, .func (PySem.W.fnOf "least_width" "least_width" (defArgs t_least_width_56) (defBody t_least_width_56) (defScope t_least_width_56) .none kV_least_width_56 dc_least_width_56 pm_least_width_56 an_least_width_56 cd_least_width_56 ct_least_width_56), sl_least_width_56⟩)
    (c_least_width_56 : PySem.W.codeIn K cd_least_width_56 "least_width" = true)
    (k_least_width_56 : PySem.W.keepIn K (.ref f_least_width_56) = true)
    (a_is_sizes : PySem.W.nsIn K mainGlobals "is_sizes" = some (some (.ref f_is_sizes_32)))
    (l_is_sizes_32 : K.lookup f_is_sizes_32 = some ⟨oc_is_sizes_32, od_is_sizes_32, .func (PySem.W.fnOf "is_sizes" "is_sizes" (defArgs t_is_sizes_32) (defBody t_is_sizes_32) (defScope t_is_sizes_32) .none kV_is_sizes_32 dc_is_sizes_32 pm_is_sizes_32 an_is_sizes_32 cd_is_sizes_32 ct_is_sizes_32), sl_is_sizes_32⟩)
    (c_is_sizes_32 : PySem.W.codeIn K cd_is_sizes_32 "is_sizes" = true)
    (k_is_sizes_32 : PySem.W.keepIn K (.ref f_is_sizes_32) = true)
    (a_check_sizes : PySem.W.nsIn K mainGlobals "check_sizes" = some (some (.ref f_check_sizes_33)))
    (l_check_sizes_33 : K.lookup f_check_sizes_33 = some ⟨oc_check_sizes_33, od_check_sizes_33, .func (PySem.W.fnOf "check_sizes" "check_sizes" (defArgs t_check_sizes_33) (defBody t_check_sizes_33) (defScope t_check_sizes_33) .none kV_check_sizes_33 dc_check_sizes_33 pm_check_sizes_33 an_check_sizes_33 cd_check_sizes_33 ct_check_sizes_33), sl_check_sizes_33⟩)
    (c_check_sizes_33 : PySem.W.codeIn K cd_check_sizes_33 "check_sizes" = true)
    (k_check_sizes_33 : PySem.W.keepIn K (.ref f_check_sizes_33) = true)
    (a_check_number : PySem.W.nsIn K mainGlobals "check_number" = some (some (.ref f_check_number_38)))
    (l_check_number_38 : K.lookup f_check_number_38 = some ⟨oc_check_number_38, od_check_number_38, .func (PySem.W.fnOf "check_number" "check_number" (defArgs t_check_number_38) (defBody t_check_number_38) (defScope t_check_number_38) .none kV_check_number_38 dc_check_number_38 pm_check_number_38 an_check_number_38 cd_check_number_38 ct_check_number_38), sl_check_number_38⟩)
    (c_check_number_38 : PySem.W.codeIn K cd_check_number_38 "check_number" = true)
    (k_check_number_38 : PySem.W.keepIn K (.ref f_check_number_38) = true)
    (a_rising : PySem.W.nsIn K mainGlobals "rising" = some (some (.ref f_rising_35)))
    (l_rising_35 : K.lookup f_rising_35 = some ⟨oc_rising_35, od_rising_35, .func (PySem.W.fnOf "rising" "rising" (defArgs t_rising_35) (defBody t_rising_35) (defScope t_rising_35) .none kV_rising_35 dc_rising_35 pm_rising_35 an_rising_35 (.ref cc_rising_35) ct_rising_35), sl_rising_35⟩)
    (c_rising_35 : PySem.W.codeIn K (.ref cc_rising_35) "rising" = true)
    (k_rising_35 : PySem.W.keepIn K (.ref f_rising_35) = true)
    (a_classes_of : PySem.W.nsIn K mainGlobals "classes_of" = some (some (.ref f_classes_of_36)))
    (l_classes_of_36 : K.lookup f_classes_of_36 = some ⟨oc_classes_of_36, od_classes_of_36, .func (PySem.W.fnOf "classes_of" "classes_of" (defArgs t_classes_of_36) (defBody t_classes_of_36) (defScope t_classes_of_36) .none kV_classes_of_36 dc_classes_of_36 pm_classes_of_36 an_classes_of_36 cd_classes_of_36 ct_classes_of_36), sl_classes_of_36⟩)
    (c_classes_of_36 : PySem.W.codeIn K cd_classes_of_36 "classes_of" = true)
    (k_classes_of_36 : PySem.W.keepIn K (.ref f_classes_of_36) = true)
    (a_least_spread : PySem.W.nsIn K mainGlobals "least_spread" = some (some (.ref f_least_spread_39)))
    (l_least_spread_39 : K.lookup f_least_spread_39 = some ⟨oc_least_spread_39, od_least_spread_39, .func (PySem.W.fnOf "least_spread" "least_spread" (defArgs t_least_spread_39) (defBody t_least_spread_39) (defScope t_least_spread_39) .none kV_least_spread_39 dc_least_spread_39 pm_least_spread_39 an_least_spread_39 cd_least_spread_39 ct_least_spread_39), sl_least_spread_39⟩)
    (c_least_spread_39 : PySem.W.codeIn K cd_least_spread_39 "least_spread" = true)
    (k_least_spread_39 : PySem.W.keepIn K (.ref f_least_spread_39) = true)
    (a_check_spread : PySem.W.nsIn K mainGlobals "check_spread" = some (some (.ref f_check_spread_34)))
    (l_check_spread_34 : K.lookup f_check_spread_34 = some ⟨oc_check_spread_34, od_check_spread_34, .func (PySem.W.fnOf "check_spread" "check_spread" (defArgs t_check_spread_34) (defBody t_check_spread_34) (defScope t_check_spread_34) .none kV_check_spread_34 dc_check_spread_34 pm_check_spread_34 an_check_spread_34 cd_check_spread_34 ct_check_spread_34), sl_check_spread_34⟩)
    (c_check_spread_34 : PySem.W.codeIn K cd_check_spread_34 "check_spread" = true)
    (k_check_spread_34 : PySem.W.keepIn K (.ref f_check_spread_34) = true)
    (a_fewest_classes : PySem.W.nsIn K mainGlobals "fewest_classes" = some (some (.ref f_fewest_classes_37)))
    (l_fewest_classes_37 : K.lookup f_fewest_classes_37 = some ⟨oc_fewest_classes_37, od_fewest_classes_37, .func (PySem.W.fnOf "fewest_classes" "fewest_classes" (defArgs t_fewest_classes_37) (defBody t_fewest_classes_37) (defScope t_fewest_classes_37) .none kV_fewest_classes_37 dc_fewest_classes_37 pm_fewest_classes_37 an_fewest_classes_37 cd_fewest_classes_37 ct_fewest_classes_37), sl_fewest_classes_37⟩)
    (c_fewest_classes_37 : PySem.W.codeIn K cd_fewest_classes_37 "fewest_classes" = true)
    (k_fewest_classes_37 : PySem.W.keepIn K (.ref f_fewest_classes_37) = true)
    (a__law_are_exact_right : PySem.W.nsIn K mainGlobals "_law_are_exact_right" = some (some (.ref f__law_are_exact_right_86)))
    (l__law_are_exact_right_86 : K.lookup f__law_are_exact_right_86 = some ⟨oc__law_are_exact_right_86, od__law_are_exact_right_86, .func (PySem.W.fnOf "_law_are_exact_right" "_law_are_exact_right" (defArgs t__law_are_exact_right_86) (defBody t__law_are_exact_right_86) (defScope t__law_are_exact_right_86) .none kV__law_are_exact_right_86 dc__law_are_exact_right_86 pm__law_are_exact_right_86 an__law_are_exact_right_86 cd__law_are_exact_right_86 ct__law_are_exact_right_86), sl__law_are_exact_right_86⟩)
    (c__law_are_exact_right_86 : PySem.W.codeIn K cd__law_are_exact_right_86 "_law_are_exact_right" = true)
    (k__law_are_exact_right_86 : PySem.W.keepIn K (.ref f__law_are_exact_right_86) = true)
    (a__law_unevenness : PySem.W.nsIn K mainGlobals "_law_unevenness" = some (some (.ref f__law_unevenness_82)))
    (l__law_unevenness_82 : K.lookup f__law_unevenness_82 = some ⟨oc__law_unevenness_82, od__law_unevenness_82, .func (PySem.W.fnOf "_law_unevenness" "_law_unevenness" (defArgs t__law_unevenness_82) (defBody t__law_unevenness_82) (defScope t__law_unevenness_82) .none kV__law_unevenness_82 dc__law_unevenness_82 pm__law_unevenness_82 an__law_unevenness_82 cd__law_unevenness_82 ct__law_unevenness_82), sl__law_unevenness_82⟩)
    (c__law_unevenness_82 : PySem.W.codeIn K cd__law_unevenness_82 "_law_unevenness" = true)
    (k__law_unevenness_82 : PySem.W.keepIn K (.ref f__law_unevenness_82) = true)
    (a_is_bounds : PySem.W.nsIn K mainGlobals "is_bounds" = some (some (.ref f_is_bounds_65)))
    (l_is_bounds_65 : K.lookup f_is_bounds_65 = some ⟨oc_is_bounds_65, od_is_bounds_65, .func (PySem.W.fnOf "is_bounds" "is_bounds" (defArgs t_is_bounds_65) (defBody t_is_bounds_65) (defScope t_is_bounds_65) .none kV_is_bounds_65 dc_is_bounds_65 pm_is_bounds_65 an_is_bounds_65 cd_is_bounds_65 ct_is_bounds_65), sl_is_bounds_65⟩)
    (c_is_bounds_65 : PySem.W.codeIn K cd_is_bounds_65 "is_bounds" = true)
    (k_is_bounds_65 : PySem.W.keepIn K (.ref f_is_bounds_65) = true)
    (a_check_bounds_sure : PySem.W.nsIn K mainGlobals "check_bounds_sure" = some (some (.ref f_check_bounds_66)))
    (l_check_bounds_66 : K.lookup f_check_bounds_66 = some ⟨oc_check_bounds_66, od_check_bounds_66, .func (PySem.W.fnOf "check_bounds" "check_bounds" (defArgs t_check_bounds_66) (defBody t_check_bounds_66) (defScope t_check_bounds_66) .none kV_check_bounds_66 dc_check_bounds_66 pm_check_bounds_66 an_check_bounds_66 cd_check_bounds_66 ct_check_bounds_66), sl_check_bounds_66⟩)
    (c_check_bounds_66 : PySem.W.codeIn K cd_check_bounds_66 "check_bounds" = true)
    (k_check_bounds_66 : PySem.W.keepIn K (.ref f_check_bounds_66) = true)
    (a_is_band : PySem.W.nsIn K mainGlobals "is_band" = some (some (.ref f_is_band_43)))
    (l_is_band_43 : K.lookup f_is_band_43 = some ⟨oc_is_band_43, od_is_band_43, .func (PySem.W.fnOf "is_band" "is_band" (defArgs t_is_band_43) (defBody t_is_band_43) (defScope t_is_band_43) .none kV_is_band_43 dc_is_band_43 pm_is_band_43 an_is_band_43 cd_is_band_43 ct_is_band_43), sl_is_band_43⟩)
    (c_is_band_43 : PySem.W.codeIn K cd_is_band_43 "is_band" = true)
    (k_is_band_43 : PySem.W.keepIn K (.ref f_is_band_43) = true)
    (a_check_band : PySem.W.nsIn K mainGlobals "check_band" = some (some (.ref f_check_band_44)))
    (l_check_band_44 : K.lookup f_check_band_44 = some ⟨oc_check_band_44, od_check_band_44, .func (PySem.W.fnOf "check_band" "check_band" (defArgs t_check_band_44) (defBody t_check_band_44) (defScope t_check_band_44) .none kV_check_band_44 dc_check_band_44 pm_check_band_44 an_check_band_44 cd_check_band_44 ct_check_band_44), sl_check_band_44⟩)
    (c_check_band_44 : PySem.W.codeIn K cd_check_band_44 "check_band" = true)
    (k_check_band_44 : PySem.W.keepIn K (.ref f_check_band_44) = true)
    (a_verdict_of : PySem.W.nsIn K mainGlobals "verdict_of" = some (some (.ref f_verdict_of_70)))
    (l_verdict_of_70 : K.lookup f_verdict_of_70 = some ⟨oc_verdict_of_70, od_verdict_of_70, .func (PySem.W.fnOf "verdict_of" "verdict_of" (defArgs t_verdict_of_70) (defBody t_verdict_of_70) (defScope t_verdict_of_70) .none kV_verdict_of_70 dc_verdict_of_70 pm_verdict_of_70 an_verdict_of_70 cd_verdict_of_70 ct_verdict_of_70), sl_verdict_of_70⟩)
    (c_verdict_of_70 : PySem.W.codeIn K cd_verdict_of_70 "verdict_of" = true)
    (k_verdict_of_70 : PySem.W.keepIn K (.ref f_verdict_of_70) = true)
    (a_even_sure : PySem.W.nsIn K mainGlobals "even_sure" = some (some (.ref f_even_71)))
    (l_even_71 : K.lookup f_even_71 = some ⟨oc_even_71, od_even_71, .func (PySem.W.fnOf "even" "even" (defArgs t_even_71) (defBody t_even_71) (defScope t_even_71) .none kV_even_71 dc_even_71 pm_even_71 an_even_71 cd_even_71 ct_even_71), sl_even_71⟩)
    (c_even_71 : PySem.W.codeIn K cd_even_71 "even" = true)
    (k_even_71 : PySem.W.keepIn K (.ref f_even_71) = true)
    (a__law_word : PySem.W.nsIn K mainGlobals "_law_word" = some (some (.ref f__law_word_83)))
    (l__law_word_83 : K.lookup f__law_word_83 = some ⟨oc__law_word_83, od__law_word_83, .func (PySem.W.fnOf "_law_word" "_law_word" (defArgs t__law_word_83) (defBody t__law_word_83) (defScope t__law_word_83) .none kV__law_word_83 dc__law_word_83 pm__law_word_83 an__law_word_83 cd__law_word_83 ct__law_word_83), sl__law_word_83⟩)
    (c__law_word_83 : PySem.W.codeIn K cd__law_word_83 "_law_word" = true)
    (k__law_word_83 : PySem.W.keepIn K (.ref f__law_word_83) = true)
    (a__law_are_bands_right : PySem.W.nsIn K mainGlobals "_law_are_bands_right" = some (some (.ref f__law_are_bands_right_84)))
    (l__law_are_bands_right_84 : K.lookup f__law_are_bands_right_84 = some ⟨oc__law_are_bands_right_84, od__law_are_bands_right_84, .func (PySem.W.fnOf "_law_are_bands_right" "_law_are_bands_right" (defArgs t__law_are_bands_right_84) (defBody t__law_are_bands_right_84) (defScope t__law_are_bands_right_84) .none kV__law_are_bands_right_84 dc__law_are_bands_right_84 pm__law_are_bands_right_84 an__law_are_bands_right_84 cd__law_are_bands_right_84 ct__law_are_bands_right_84), sl__law_are_bands_right_84⟩)
    (c__law_are_bands_right_84 : PySem.W.codeIn K cd__law_are_bands_right_84 "_law_are_bands_right" = true)
    (k__law_are_bands_right_84 : PySem.W.keepIn K (.ref f__law_are_bands_right_84) = true)
    (a_why_even : PySem.W.nsIn K mainGlobals "why_even" = some (some (.ref f_why_even_27)))
    (l_why_even_27 : K.lookup f_why_even_27 = some ⟨oc_why_even_27, od_why_even_27, .func (PySem.W.fnOf "why_even" "why_even" (defArgs t_why_even_27) (defBody t_why_even_27) (defScope t_why_even_27) .none kV_why_even_27 dc_why_even_27 pm_why_even_27 an_why_even_27 cd_why_even_27 ct_why_even_27), sl_why_even_27⟩)
    (c_why_even_27 : PySem.W.codeIn K cd_why_even_27 "why_even" = true)
    (k_why_even_27 : PySem.W.keepIn K (.ref f_why_even_27) = true)
    (a_even_paper : PySem.W.nsIn K mainGlobals "even_paper" = some (some (.ref f_even_paper_73)))
    (l_even_paper_73 : K.lookup f_even_paper_73 = some ⟨oc_even_paper_73, od_even_paper_73, .func (PySem.W.fnOf "even_paper" "even_paper" (defArgs t_even_paper_73) (defBody t_even_paper_73) (defScope t_even_paper_73) .none kV_even_paper_73 dc_even_paper_73 pm_even_paper_73 an_even_paper_73 cd_even_paper_73 ct_even_paper_73), sl_even_paper_73⟩)
    (c_even_paper_73 : PySem.W.codeIn K cd_even_paper_73 "even_paper" = true)
    (k_even_paper_73 : PySem.W.keepIn K (.ref f_even_paper_73) = true)
    (a_shows_even_bounds : PySem.W.nsIn K mainGlobals "shows_even_bounds" = some (some (.ref f_shows_even_25)))
    (l_shows_even_25 : K.lookup f_shows_even_25 = some ⟨oc_shows_even_25, od_shows_even_25, .func (PySem.W.fnOf "shows_even" "shows_even" (defArgs t_shows_even_25) (defBody t_shows_even_25) (defScope t_shows_even_25) .none kV_shows_even_25 dc_shows_even_25 pm_shows_even_25 an_shows_even_25 cd_shows_even_25 ct_shows_even_25), sl_shows_even_25⟩)
    (c_shows_even_25 : PySem.W.codeIn K cd_shows_even_25 "shows_even" = true)
    (k_shows_even_25 : PySem.W.keepIn K (.ref f_shows_even_25) = true)
    (a_is_row_sure : PySem.W.nsIn K mainGlobals "is_row_sure" = some (some (.ref f_is_row_68)))
    (l_is_row_68 : K.lookup f_is_row_68 = some ⟨oc_is_row_68, od_is_row_68, .func (PySem.W.fnOf "is_row" "is_row" (defArgs t_is_row_68) (defBody t_is_row_68) (defScope t_is_row_68) .none kV_is_row_68 dc_is_row_68 pm_is_row_68 an_is_row_68 cd_is_row_68 ct_is_row_68), sl_is_row_68⟩)
    (c_is_row_68 : PySem.W.codeIn K cd_is_row_68 "is_row" = true)
    (k_is_row_68 : PySem.W.keepIn K (.ref f_is_row_68) = true)
    (a_shows_even_sure : PySem.W.nsIn K mainGlobals "shows_even_sure" = some (some (.ref f_shows_even_74)))
    (l_shows_even_74 : K.lookup f_shows_even_74 = some ⟨oc_shows_even_74, od_shows_even_74, .func (PySem.W.fnOf "shows_even" "shows_even" (defArgs t_shows_even_74) (defBody t_shows_even_74) (defScope t_shows_even_74) .none kV_shows_even_74 dc_shows_even_74 pm_shows_even_74 an_shows_even_74 cd_shows_even_74 ct_shows_even_74), sl_shows_even_74⟩)
    (c_shows_even_74 : PySem.W.codeIn K cd_shows_even_74 "shows_even" = true)
    (k_shows_even_74 : PySem.W.keepIn K (.ref f_shows_even_74) = true)
    (a__law_are_papers_right : PySem.W.nsIn K mainGlobals "_law_are_papers_right" = some (some (.ref f__law_are_papers_right_85)))
    (l__law_are_papers_right_85 : K.lookup f__law_are_papers_right_85 = some ⟨oc__law_are_papers_right_85, od__law_are_papers_right_85, .func (PySem.W.fnOf "_law_are_papers_right" "_law_are_papers_right" (defArgs t__law_are_papers_right_85) (defBody t__law_are_papers_right_85) (defScope t__law_are_papers_right_85) .none kV__law_are_papers_right_85 dc__law_are_papers_right_85 pm__law_are_papers_right_85 an__law_are_papers_right_85 cd__law_are_papers_right_85 ct__law_are_papers_right_85), sl__law_are_papers_right_85⟩)
    (c__law_are_papers_right_85 : PySem.W.codeIn K cd__law_are_papers_right_85 "_law_are_papers_right" = true)
    (k__law_are_papers_right_85 : PySem.W.keepIn K (.ref f__law_are_papers_right_85) = true)
    (a__law_right : PySem.W.nsIn K mainGlobals "_law_right" = some (some (.ref f__law_right_87)))
    (l__law_right_87 : K.lookup f__law_right_87 = some ⟨oc__law_right_87, od__law_right_87, .func (PySem.W.fnOf "_law_right" "_law_right" (defArgs t__law_right_87) (defBody t__law_right_87) (defScope t__law_right_87) .none kV__law_right_87 dc__law_right_87 pm__law_right_87 an__law_right_87 cd__law_right_87 ct__law_right_87), sl__law_right_87⟩)
    (c__law_right_87 : PySem.W.codeIn K cd__law_right_87 "_law_right" = true)
    (k__law_right_87 : PySem.W.keepIn K (.ref f__law_right_87) = true)
    (a_law : PySem.W.nsIn K mainGlobals "law" = some (some (.ref f_law_88)))
    (l_law_88 : K.lookup f_law_88 = some ⟨oc_law_88, od_law_88, .func (PySem.W.fnOf "law" "law" (defArgs t_law_88) (defBody t_law_88) (defScope t_law_88) .none kV_law_88 dc_law_88 pm_law_88 an_law_88 cd_law_88 ct_law_88), sl_law_88⟩)
    (c_law_88 : PySem.W.codeIn K cd_law_88 "law" = true)
    (k_law_88 : PySem.W.keepIn K (.ref f_law_88) = true)
    (z_len : PySem.W.nsIn K mainGlobals "len" = some none)
    (z_abs : PySem.W.nsIn K mainGlobals "abs" = some none)
    (z_int : PySem.W.nsIn K mainGlobals "int" = some none)
    (z_isinstance : PySem.W.nsIn K mainGlobals "isinstance" = some none)
    (z_tuple : PySem.W.nsIn K mainGlobals "tuple" = some none)
    (z_list : PySem.W.nsIn K mainGlobals "list" = some none)
    (z_bool : PySem.W.nsIn K mainGlobals "bool" = some none)
    (z_str : PySem.W.nsIn K mainGlobals "str" = some none)
    (z_all : PySem.W.nsIn K mainGlobals "all" = some none)
    (z_any : PySem.W.nsIn K mainGlobals "any" = some none)
    (z_max : PySem.W.nsIn K mainGlobals "max" = some none)
    (z_min : PySem.W.nsIn K mainGlobals "min" = some none)
    (z_sum : PySem.W.nsIn K mainGlobals "sum" = some none)
    (z_sorted : PySem.W.nsIn K mainGlobals "sorted" = some none)
    (z_range : PySem.W.nsIn K mainGlobals "range" = some none)
    (z_enumerate : PySem.W.nsIn K mainGlobals "enumerate" = some none)
    (z_zip : PySem.W.nsIn K mainGlobals "zip" = some none)
    (v_PAIR_bounds : PySem.W.nsIn K mainGlobals "PAIR_bounds" = some (some (Value.int 2 t_PAIR_bounds)))
    (v_MOST_STRENGTH : PySem.W.nsIn K mainGlobals "MOST_STRENGTH" = some (some (Value.int 1000 t_MOST_STRENGTH)))
    (v_MOST_STRANDS : PySem.W.nsIn K mainGlobals "MOST_STRANDS" = some (some (Value.int 20 t_MOST_STRANDS)))
    (v_SURE_bounds : PySem.W.nsIn K mainGlobals "SURE_bounds" = some (some (Value.str "sure" t_SURE_bounds)))
    (v_NEVER_bounds : PySem.W.nsIn K mainGlobals "NEVER_bounds" = some (some (Value.str "never" t_NEVER_bounds)))
    (v_OPEN_bounds : PySem.W.nsIn K mainGlobals "OPEN_bounds" = some (some (Value.str "open" t_OPEN_bounds)))
    (v_MOST_YARDS : PySem.W.nsIn K mainGlobals "MOST_YARDS" = some (some (Value.int 260 t_MOST_YARDS)))
    (v_MOST_SUM_parts : PySem.W.nsIn K mainGlobals "MOST_SUM_parts" = some (some (Value.int 1000 t_MOST_SUM_parts)))
    (v_MOST_PARTS : PySem.W.nsIn K mainGlobals "MOST_PARTS" = some (some (Value.int 260 t_MOST_PARTS)))
    (v_PAIR_parts : PySem.W.nsIn K mainGlobals "PAIR_parts" = some (some (Value.int 2 t_PAIR_parts)))
    (v_MOST_SIZES : PySem.W.nsIn K mainGlobals "MOST_SIZES" = some (some (Value.int 40 t_MOST_SIZES)))
    (v_MOST_SIZE : PySem.W.nsIn K mainGlobals "MOST_SIZE" = some (some (Value.int 1000 t_MOST_SIZE)))
    (v_PAIR_classes : PySem.W.nsIn K mainGlobals "PAIR_classes" = some (some (Value.int 2 t_PAIR_classes)))
    (v_MOST_ROWS : PySem.W.nsIn K mainGlobals "MOST_ROWS" = some (some (Value.int 260 t_MOST_ROWS)))
    (v_PAIR_sure : PySem.W.nsIn K mainGlobals "PAIR_sure" = some (some (Value.int 2 t_PAIR_sure)))
    (v_MOST_SUM_sure : PySem.W.nsIn K mainGlobals "MOST_SUM_sure" = some (some (Value.int 1000 t_MOST_SUM_sure)))
    (v_PAIR_strands : PySem.W.nsIn K mainGlobals "PAIR_strands" = some (some (Value.int 2 t_PAIR_strands)))
    (v_MOST_SUM_strands : PySem.W.nsIn K mainGlobals "MOST_SUM_strands" = some (some (Value.int 1000 t_MOST_SUM_strands)))
    (v_NEVER_sure : PySem.W.nsIn K mainGlobals "NEVER_sure" = some (some (Value.str "never" t_NEVER_sure)))
    (v_SURE_sure : PySem.W.nsIn K mainGlobals "SURE_sure" = some (some (Value.str "sure" t_SURE_sure)))
    (v_OPEN_sure : PySem.W.nsIn K mainGlobals "OPEN_sure" = some (some (Value.str "open" t_OPEN_sure)))
    (v_TRIPLE : PySem.W.nsIn K mainGlobals "TRIPLE" = some (some (Value.int 3 t_TRIPLE)))
    (hP_rising_35 : (ts.any fun P => PySem.W.codeHdIn K cc_rising_35 P && (K.lookup P).isNone) = true)
    (hF : ∀ (ns : List Int) (s : D), ns.length ≤ 63 → (∀ z ∈ ns, Builtin.Int.intBits z ≤ 1048576) → (s = .scr (ns.map D.int) ∨ s = .lst (ns.map D.int)) → F_law_88 [s] = some (.val (.bl true))) :
    LamX.LawAtS l w K CX0 10 63 "script" mg fa h := by
  have e := hfa.symm.trans (PySem.W.mg_of X G a_law)
  cases e
  obtain ⟨PP_rising_35, hp1_rising_35, hp2_rising_35⟩ := List.any_eq_true.mp hP_rising_35
  rw [Bool.and_eq_true] at hp2_rising_35
  obtain ⟨hp3_rising_35, hp4_rising_35⟩ := hp2_rising_35
  letI : Tb := ⟨[(PP_rising_35, lamN "rising")]⟩
  refine ⟨PySem.W.fnOf "law" "law" (defArgs t_law_88) (defBody t_law_88) (defScope t_law_88) .none kV_law_88 dc_law_88 pm_law_88 an_law_88 cd_law_88 ct_law_88, [(cc_rising_35, PP_rising_35)], spZ K F_law_88, ?_, ?_, ?_, fun s u => .of_eq rfl, fun H a ns hl hbits hH hS => ?_, fun base KB NB TBs => fn_sz ?_⟩
  · intro p hp
    rcases List.mem_singleton.mp hp with rfl
    exact hts _ hp1_rising_35
  · intro p hp
    rcases List.mem_singleton.mp hp with rfl
    exact Option.isNone_iff_eq_none.mp hp4_rising_35
  · intro p hp
    rcases List.mem_singleton.mp hp with rfl
    exact PySem.W.codeHd_of_K X hp3_rising_35
  · refine start_z (fun p hp => ?_) hS fun s hs => hF ns s hl hbits hs
    rcases List.mem_singleton.mp hp with rfl
    exact hH _ (List.mem_singleton.mpr rfl)
  have Z : Blt mg := ⟨PySem.W.mg_none_of X G z_len, PySem.W.mg_none_of X G z_abs, PySem.W.mg_none_of X G z_int, PySem.W.mg_none_of X G z_isinstance, PySem.W.mg_none_of X G z_tuple, PySem.W.mg_none_of X G z_list, PySem.W.mg_none_of X G z_bool, PySem.W.mg_none_of X G z_str, PySem.W.mg_none_of X G z_all, PySem.W.mg_none_of X G z_any, PySem.W.mg_none_of X G z_max, PySem.W.mg_none_of X G z_min, PySem.W.mg_none_of X G z_sum, PySem.W.mg_none_of X G z_sorted, PySem.W.mg_none_of X G z_range, PySem.W.mg_none_of X G z_enumerate, PySem.W.mg_none_of X G z_zip⟩
  have u__law_cells_80 := fun_mk (st := t__law_cells_80) l__law_cells_80 c__law_cells_80 k__law_cells_80
  have b__law_cells_80 := u__law_cells_80.binds (ps := ["script", "most"]) fun _ _ _ _ _ _ us hl => match us, hl with | [_, _], _ => rfl
  have o__law_cells_80 := ok__law_cells_80 (P := l.prog) (w := w) (base := base) u__law_cells_80 Z 
  have C__law_cells : Mini.Cl l.prog w K mg base "_law_cells" ["script", "most"] 1 (spP K F__law_cells_80) := ⟨_, _, PySem.W.mg_of X G a__law_cells, k__law_cells_80, b__law_cells_80, o__law_cells_80⟩
  have u__law_pot_77 := fun_mk (st := t__law_pot_77) l__law_pot_77 c__law_pot_77 k__law_pot_77
  have b__law_pot_77 := u__law_pot_77.binds (ps := ["script", "place"]) fun _ _ _ _ _ _ us hl => match us, hl with | [_, _], _ => rfl
  have o__law_pot_77 := ok__law_pot_77 (P := l.prog) (w := w) (base := base) u__law_pot_77 Z 
  have C__law_pot : Mini.Cl l.prog w K mg base "_law_pot" ["script", "place"] 1 (spP K F__law_pot_77) := ⟨_, _, PySem.W.mg_of X G a__law_pot, k__law_pot_77, b__law_pot_77, o__law_pot_77⟩
  have u__law_take_78 := fun_mk (st := t__law_take_78) l__law_take_78 c__law_take_78 k__law_take_78
  have b__law_take_78 := u__law_take_78.binds (ps := ["pot", "upto"]) fun _ _ _ _ _ _ us hl => match us, hl with | [_, _], _ => rfl
  have o__law_take_78 := ok__law_take_78 (P := l.prog) (w := w) (base := base) u__law_take_78 Z 
  have C__law_take : Mini.Cl l.prog w K mg base "_law_take" ["pot", "upto"] 1 (spM K F__law_take_78) := ⟨_, _, PySem.W.mg_of X G a__law_take, k__law_take_78, b__law_take_78, o__law_take_78⟩
  have u__law_of_79 := fun_mk (st := t__law_of_79) l__law_of_79 c__law_of_79 k__law_of_79
  have b__law_of_79 := u__law_of_79.binds (ps := ["pot", "some"]) fun _ _ _ _ _ _ us hl => match us, hl with | [_, _], _ => rfl
  have o__law_of_79 := ok__law_of_79 (P := l.prog) (w := w) (base := base) u__law_of_79 Z C__law_take
  have C__law_of : Mini.Cl l.prog w K mg base "_law_of" ["pot", "some"] 2 (spM K F__law_of_79) := ⟨_, _, PySem.W.mg_of X G a__law_of, k__law_of_79, b__law_of_79, o__law_of_79⟩
  have u__law_bounds_81 := fun_mk (st := t__law_bounds_81) l__law_bounds_81 c__law_bounds_81 k__law_bounds_81
  have b__law_bounds_81 := u__law_bounds_81.binds (ps := ["pot", "many", "most"]) fun _ _ _ _ _ _ us hl => match us, hl with | [_, _, _], _ => rfl
  have o__law_bounds_81 := ok__law_bounds_81 (P := l.prog) (w := w) (base := base) u__law_bounds_81 Z C__law_take
  have C__law_bounds : Mini.Cl l.prog w K mg base "_law_bounds" ["pot", "many", "most"] 2 (spM K F__law_bounds_81) := ⟨_, _, PySem.W.mg_of X G a__law_bounds, k__law_bounds_81, b__law_bounds_81, o__law_bounds_81⟩
  have u_is_tuple_1 := fun_mk (st := t_is_tuple_1) l_is_tuple_1 c_is_tuple_1 k_is_tuple_1
  have b_is_tuple_1 := u_is_tuple_1.binds (ps := ["value", "least", "most"]) fun _ _ _ _ _ _ us hl => match us, hl with | [_, _, _], _ => rfl
  have o_is_tuple_1 := ok_is_tuple_1 (P := l.prog) (w := w) (base := base) u_is_tuple_1 Z 
  have C_is_tuple : Mini.Cl l.prog w K mg base "is_tuple" ["value", "least", "most"] 1 (spP K F_is_tuple_1) := ⟨_, _, PySem.W.mg_of X G a_is_tuple, k_is_tuple_1, b_is_tuple_1, o_is_tuple_1⟩
  have u_is_whole_2 := fun_mk (st := t_is_whole_2) l_is_whole_2 c_is_whole_2 k_is_whole_2
  have b_is_whole_2 := u_is_whole_2.binds (ps := ["value"]) fun _ _ _ _ _ _ us hl => match us, hl with | [_], _ => rfl
  have o_is_whole_2 := ok_is_whole_2 (P := l.prog) (w := w) (base := base) u_is_whole_2 Z 
  have C_is_whole : Mini.Cl l.prog w K mg base "is_whole" ["value"] 1 (spP K F_is_whole_2) := ⟨_, _, PySem.W.mg_of X G a_is_whole, k_is_whole_2, b_is_whole_2, o_is_whole_2⟩
  have u_is_integer_3 := fun_mk (st := t_is_integer_3) l_is_integer_3 c_is_integer_3 k_is_integer_3
  have b_is_integer_3 := u_is_integer_3.binds (ps := ["value", "low", "high"]) fun _ _ _ _ _ _ us hl => match us, hl with | [_, _, _], _ => rfl
  have o_is_integer_3 := ok_is_integer_3 (P := l.prog) (w := w) (base := base) u_is_integer_3 Z C_is_whole
  have C_is_integer : Mini.Cl l.prog w K mg base "is_integer" ["value", "low", "high"] 2 (spP K F_is_integer_3) := ⟨_, _, PySem.W.mg_of X G a_is_integer, k_is_integer_3, b_is_integer_3, o_is_integer_3⟩
  have u_is_bound_18 := fun_mk (st := t_is_bound_18) l_is_bound_18 c_is_bound_18 k_is_bound_18
  have b_is_bound_18 := u_is_bound_18.binds (ps := ["value"]) fun _ _ _ _ _ _ us hl => match us, hl with | [_], _ => rfl
  have o_is_bound_18 := ok_is_bound_18 (P := l.prog) (w := w) (base := base) u_is_bound_18 Z ⟨_, PySem.W.mg_of X G v_PAIR_bounds⟩ ⟨_, PySem.W.mg_of X G v_MOST_STRENGTH⟩ C_is_tuple C_is_integer
  have C_is_bound : Mini.Cl l.prog w K mg base "is_bound" ["value"] 3 (spP K F_is_bound_18) := ⟨_, _, PySem.W.mg_of X G a_is_bound, k_is_bound_18, b_is_bound_18, o_is_bound_18⟩
  have u_check_bounds_19 := fun_mk (st := t_check_bounds_19) l_check_bounds_19 c_check_bounds_19 k_check_bounds_19
  have b_check_bounds_19 := u_check_bounds_19.binds (ps := ["value"]) fun _ _ _ _ _ _ us hl => match us, hl with | [_], _ => rfl
  have o_check_bounds_19 := ok_check_bounds_19 (P := l.prog) (w := w) (base := base) u_check_bounds_19 Z ⟨_, PySem.W.mg_of X G v_MOST_STRANDS⟩ C_is_tuple C_is_bound
  have C_check_bounds_bounds : Mini.Cl l.prog w K mg base "check_bounds_bounds" ["value"] 4 (spP K F_check_bounds_19) := ⟨_, _, PySem.W.mg_of X G a_check_bounds_bounds, k_check_bounds_19, b_check_bounds_19, o_check_bounds_19⟩
  have u_others_of_21 := fun_mk (st := t_others_of_21) l_others_of_21 c_others_of_21 k_others_of_21
  have b_others_of_21 := u_others_of_21.binds (ps := ["bounds", "at"]) fun _ _ _ _ _ _ us hl => match us, hl with | [_, _], _ => rfl
  have o_others_of_21 := ok_others_of_21 (P := l.prog) (w := w) (base := base) u_others_of_21 Z 
  have C_others_of : Mini.Cl l.prog w K mg base "others_of" ["bounds", "at"] 1 (spP K F_others_of_21) := ⟨_, _, PySem.W.mg_of X G a_others_of, k_others_of_21, b_others_of_21, o_others_of_21⟩
  have u_unevenness_22 := fun_mk (st := t_unevenness_22) l_unevenness_22 c_unevenness_22 k_unevenness_22
  have b_unevenness_22 := u_unevenness_22.binds (ps := ["bounds"]) fun _ _ _ _ _ _ us hl => match us, hl with | [_], _ => rfl
  have o_unevenness_22 := ok_unevenness_22 (P := l.prog) (w := w) (base := base) u_unevenness_22 Z C_check_bounds_bounds C_others_of
  have C_unevenness : Mini.Cl l.prog w K mg base "unevenness" ["bounds"] 5 (spP K F_unevenness_22) := ⟨_, _, PySem.W.mg_of X G a_unevenness, k_unevenness_22, b_unevenness_22, o_unevenness_22⟩
  have u_even_23 := fun_mk (st := t_even_23) l_even_23 c_even_23 k_even_23
  have b_even_23 := u_even_23.binds (ps := ["bounds", "within"]) fun _ _ _ _ _ _ us hl => match us, hl with | [_, _], _ => rfl
  have o_even_23 := ok_even_23 (P := l.prog) (w := w) (base := base) u_even_23 Z ⟨_, PySem.W.mg_of X G v_MOST_STRENGTH⟩ ⟨_, PySem.W.mg_of X G v_SURE_bounds⟩ ⟨_, PySem.W.mg_of X G v_NEVER_bounds⟩ ⟨_, PySem.W.mg_of X G v_OPEN_bounds⟩ C_check_bounds_bounds C_is_integer C_unevenness
  have C_even_bounds : Mini.Cl l.prog w K mg base "even_bounds" ["bounds", "within"] 6 (spP K F_even_23) := ⟨_, _, PySem.W.mg_of X G a_even_bounds, k_even_23, b_even_23, o_even_23⟩
  have u_is_row_50 := fun_mk (st := t_is_row_50) l_is_row_50 c_is_row_50 k_is_row_50
  have b_is_row_50 := u_is_row_50.binds (ps := ["value"]) fun _ _ _ _ _ _ us hl => match us, hl with | [_], _ => rfl
  have o_is_row_50 := ok_is_row_50 (P := l.prog) (w := w) (base := base) u_is_row_50 Z ⟨_, PySem.W.mg_of X G v_MOST_YARDS⟩ ⟨_, PySem.W.mg_of X G v_MOST_SUM_parts⟩ C_is_tuple C_is_integer
  have C_is_row_parts : Mini.Cl l.prog w K mg base "is_row_parts" ["value"] 3 (spP K F_is_row_50) := ⟨_, _, PySem.W.mg_of X G a_is_row_parts, k_is_row_50, b_is_row_50, o_is_row_50⟩
  have u_check_row_52 := fun_mk (st := t_check_row_52) l_check_row_52 c_check_row_52 k_check_row_52
  have b_check_row_52 := u_check_row_52.binds (ps := ["value"]) fun _ _ _ _ _ _ us hl => match us, hl with | [_], _ => rfl
  have o_check_row_52 := ok_check_row_52 (P := l.prog) (w := w) (base := base) u_check_row_52 Z C_is_row_parts
  have C_check_row : Mini.Cl l.prog w K mg base "check_row" ["value"] 4 (spP K F_check_row_52) := ⟨_, _, PySem.W.mg_of X G a_check_row, k_check_row_52, b_check_row_52, o_check_row_52⟩
  have u_check_width_53 := fun_mk (st := t_check_width_53) l_check_width_53 c_check_width_53 k_check_width_53
  have b_check_width_53 := u_check_width_53.binds (ps := ["row", "width"]) fun _ _ _ _ _ _ us hl => match us, hl with | [_, _], _ => rfl
  have o_check_width_53 := ok_check_width_53 (P := l.prog) (w := w) (base := base) u_check_width_53 Z ⟨_, PySem.W.mg_of X G v_MOST_SUM_parts⟩ C_check_row C_is_integer
  have C_check_width : Mini.Cl l.prog w K mg base "check_width" ["row", "width"] 5 (spP K F_check_width_53) := ⟨_, _, PySem.W.mg_of X G a_check_width, k_check_width_53, b_check_width_53, o_check_width_53⟩
  have u_differ_54 := fun_mk (st := t_differ_54) l_differ_54 c_differ_54 k_differ_54
  have b_differ_54 := u_differ_54.binds (ps := ["row", "begin", "end"]) fun _ _ _ _ _ _ us hl => match us, hl with | [_, _, _], _ => rfl
  have o_differ_54 := ok_differ_54 (P := l.prog) (w := w) (base := base) u_differ_54 Z 
  have C_differ : Mini.Cl l.prog w K mg base "differ" ["row", "begin", "end"] 1 (spP K F_differ_54) := ⟨_, _, PySem.W.mg_of X G a_differ, k_differ_54, b_differ_54, o_differ_54⟩
  have u_fewest_parts_55 := fun_mk (st := t_fewest_parts_55) l_fewest_parts_55 c_fewest_parts_55 k_fewest_parts_55
  have b_fewest_parts_55 := u_fewest_parts_55.binds (ps := ["row", "width"]) fun _ _ _ _ _ _ us hl => match us, hl with | [_, _], _ => rfl
  have o_fewest_parts_55 := ok_fewest_parts_55 (P := l.prog) (w := w) (base := base) u_fewest_parts_55 Z C_check_width C_differ
  have C_fewest_parts : Mini.Cl l.prog w K mg base "fewest_parts" ["row", "width"] 6 (spP K F_fewest_parts_55) := ⟨_, _, PySem.W.mg_of X G a_fewest_parts, k_fewest_parts_55, b_fewest_parts_55, o_fewest_parts_55⟩
  have u_least_width_56 := fun_mk (st := t_least_width_56) l_least_width_56 c_least_width_56 k_least_width_56
  have b_least_width_56 := u_least_width_56.binds (ps := ["row", "parts"]) fun _ _ _ _ _ _ us hl => match us, hl with | [_, _], _ => rfl
  have o_least_width_56 := ok_least_width_56 (P := l.prog) (w := w) (base := base) u_least_width_56 Z ⟨_, PySem.W.mg_of X G v_MOST_PARTS⟩ ⟨_, PySem.W.mg_of X G v_PAIR_parts⟩ C_check_row C_is_integer C_fewest_parts
  have C_least_width : Mini.Cl l.prog w K mg base "least_width" ["row", "parts"] 7 (spP K F_least_width_56) := ⟨_, _, PySem.W.mg_of X G a_least_width, k_least_width_56, b_least_width_56, o_least_width_56⟩
  have u_is_sizes_32 := fun_mk (st := t_is_sizes_32) l_is_sizes_32 c_is_sizes_32 k_is_sizes_32
  have b_is_sizes_32 := u_is_sizes_32.binds (ps := ["value"]) fun _ _ _ _ _ _ us hl => match us, hl with | [_], _ => rfl
  have o_is_sizes_32 := ok_is_sizes_32 (P := l.prog) (w := w) (base := base) u_is_sizes_32 Z ⟨_, PySem.W.mg_of X G v_MOST_SIZES⟩ ⟨_, PySem.W.mg_of X G v_MOST_SIZE⟩ C_is_tuple C_is_integer
  have C_is_sizes : Mini.Cl l.prog w K mg base "is_sizes" ["value"] 3 (spP K F_is_sizes_32) := ⟨_, _, PySem.W.mg_of X G a_is_sizes, k_is_sizes_32, b_is_sizes_32, o_is_sizes_32⟩
  have u_check_sizes_33 := fun_mk (st := t_check_sizes_33) l_check_sizes_33 c_check_sizes_33 k_check_sizes_33
  have b_check_sizes_33 := u_check_sizes_33.binds (ps := ["value"]) fun _ _ _ _ _ _ us hl => match us, hl with | [_], _ => rfl
  have o_check_sizes_33 := ok_check_sizes_33 (P := l.prog) (w := w) (base := base) u_check_sizes_33 Z C_is_sizes
  have C_check_sizes : Mini.Cl l.prog w K mg base "check_sizes" ["value"] 4 (spP K F_check_sizes_33) := ⟨_, _, PySem.W.mg_of X G a_check_sizes, k_check_sizes_33, b_check_sizes_33, o_check_sizes_33⟩
  have u_check_number_38 := fun_mk (st := t_check_number_38) l_check_number_38 c_check_number_38 k_check_number_38
  have b_check_number_38 := u_check_number_38.binds (ps := ["sizes", "value"]) fun _ _ _ _ _ _ us hl => match us, hl with | [_, _], _ => rfl
  have o_check_number_38 := ok_check_number_38 (P := l.prog) (w := w) (base := base) u_check_number_38 Z C_is_integer
  have C_check_number : Mini.Cl l.prog w K mg base "check_number" ["sizes", "value"] 3 (spP K F_check_number_38) := ⟨_, _, PySem.W.mg_of X G a_check_number, k_check_number_38, b_check_number_38, o_check_number_38⟩
  have u_rising_35 := fun_mk (st := t_rising_35) l_rising_35 c_rising_35 k_rising_35
  have b_rising_35 := u_rising_35.binds (ps := ["sizes"]) fun _ _ _ _ _ _ us hl => match us, hl with | [_], _ => rfl
  have o_rising_35 := ok_rising_35 (P := l.prog) (w := w) (base := base) u_rising_35 Z  (TBs _ (List.mem_singleton.mpr rfl)) rfl (List.mem_singleton.mpr rfl) (fun p hp _ => by rcases List.mem_singleton.mp hp with rfl; rfl)
  have C_rising : Mini.Cl l.prog w K mg base "rising" ["sizes"] 1 (spP K F_rising_35) := ⟨_, _, PySem.W.mg_of X G a_rising, k_rising_35, b_rising_35, o_rising_35⟩
  have u_classes_of_36 := fun_mk (st := t_classes_of_36) l_classes_of_36 c_classes_of_36 k_classes_of_36
  have b_classes_of_36 := u_classes_of_36.binds (ps := ["sizes", "spread"]) fun _ _ _ _ _ _ us hl => match us, hl with | [_, _], _ => rfl
  have o_classes_of_36 := ok_classes_of_36 (P := l.prog) (w := w) (base := base) u_classes_of_36 Z C_rising
  have C_classes_of : Mini.Cl l.prog w K mg base "classes_of" ["sizes", "spread"] 2 (spP K F_classes_of_36) := ⟨_, _, PySem.W.mg_of X G a_classes_of, k_classes_of_36, b_classes_of_36, o_classes_of_36⟩
  have u_least_spread_39 := fun_mk (st := t_least_spread_39) l_least_spread_39 c_least_spread_39 k_least_spread_39
  have b_least_spread_39 := u_least_spread_39.binds (ps := ["sizes", "number"]) fun _ _ _ _ _ _ us hl => match us, hl with | [_, _], _ => rfl
  have o_least_spread_39 := ok_least_spread_39 (P := l.prog) (w := w) (base := base) u_least_spread_39 Z ⟨_, PySem.W.mg_of X G v_PAIR_classes⟩ C_check_sizes C_check_number C_classes_of
  have C_least_spread : Mini.Cl l.prog w K mg base "least_spread" ["sizes", "number"] 5 (spP K F_least_spread_39) := ⟨_, _, PySem.W.mg_of X G a_least_spread, k_least_spread_39, b_least_spread_39, o_least_spread_39⟩
  have u_check_spread_34 := fun_mk (st := t_check_spread_34) l_check_spread_34 c_check_spread_34 k_check_spread_34
  have b_check_spread_34 := u_check_spread_34.binds (ps := ["value"]) fun _ _ _ _ _ _ us hl => match us, hl with | [_], _ => rfl
  have o_check_spread_34 := ok_check_spread_34 (P := l.prog) (w := w) (base := base) u_check_spread_34 Z ⟨_, PySem.W.mg_of X G v_MOST_SIZE⟩ C_is_integer
  have C_check_spread : Mini.Cl l.prog w K mg base "check_spread" ["value"] 3 (spP K F_check_spread_34) := ⟨_, _, PySem.W.mg_of X G a_check_spread, k_check_spread_34, b_check_spread_34, o_check_spread_34⟩
  have u_fewest_classes_37 := fun_mk (st := t_fewest_classes_37) l_fewest_classes_37 c_fewest_classes_37 k_fewest_classes_37
  have b_fewest_classes_37 := u_fewest_classes_37.binds (ps := ["sizes", "spread"]) fun _ _ _ _ _ _ us hl => match us, hl with | [_, _], _ => rfl
  have o_fewest_classes_37 := ok_fewest_classes_37 (P := l.prog) (w := w) (base := base) u_fewest_classes_37 Z C_check_sizes C_check_spread C_classes_of
  have C_fewest_classes : Mini.Cl l.prog w K mg base "fewest_classes" ["sizes", "spread"] 5 (spP K F_fewest_classes_37) := ⟨_, _, PySem.W.mg_of X G a_fewest_classes, k_fewest_classes_37, b_fewest_classes_37, o_fewest_classes_37⟩
  have u__law_are_exact_right_86 := fun_mk (st := t__law_are_exact_right_86) l__law_are_exact_right_86 c__law_are_exact_right_86 k__law_are_exact_right_86
  have b__law_are_exact_right_86 := u__law_are_exact_right_86.binds (ps := ["row", "within"]) fun _ _ _ _ _ _ us hl => match us, hl with | [_, _], _ => rfl
  have o__law_are_exact_right_86 := ok__law_are_exact_right_86 (P := l.prog) (w := w) (base := base) u__law_are_exact_right_86 Z C_unevenness C_least_spread C_least_width C_even_bounds C_fewest_classes C_fewest_parts
  have C__law_are_exact_right : Mini.Cl l.prog w K mg base "_law_are_exact_right" ["row", "within"] 8 (spP K F__law_are_exact_right_86) := ⟨_, _, PySem.W.mg_of X G a__law_are_exact_right, k__law_are_exact_right_86, b__law_are_exact_right_86, o__law_are_exact_right_86⟩
  have u__law_unevenness_82 := fun_mk (st := t__law_unevenness_82) l__law_unevenness_82 c__law_unevenness_82 k__law_unevenness_82
  have b__law_unevenness_82 := u__law_unevenness_82.binds (ps := ["bounds"]) fun _ _ _ _ _ _ us hl => match us, hl with | [_], _ => rfl
  have o__law_unevenness_82 := ok__law_unevenness_82 (P := l.prog) (w := w) (base := base) u__law_unevenness_82 Z 
  have C__law_unevenness : Mini.Cl l.prog w K mg base "_law_unevenness" ["bounds"] 1 (spP K F__law_unevenness_82) := ⟨_, _, PySem.W.mg_of X G a__law_unevenness, k__law_unevenness_82, b__law_unevenness_82, o__law_unevenness_82⟩
  have u_is_bounds_65 := fun_mk (st := t_is_bounds_65) l_is_bounds_65 c_is_bounds_65 k_is_bounds_65
  have b_is_bounds_65 := u_is_bounds_65.binds (ps := ["value"]) fun _ _ _ _ _ _ us hl => match us, hl with | [_], _ => rfl
  have o_is_bounds_65 := ok_is_bounds_65 (P := l.prog) (w := w) (base := base) u_is_bounds_65 Z ⟨_, PySem.W.mg_of X G v_MOST_ROWS⟩ ⟨_, PySem.W.mg_of X G v_PAIR_sure⟩ ⟨_, PySem.W.mg_of X G v_MOST_SUM_sure⟩ C_is_tuple C_is_integer
  have C_is_bounds : Mini.Cl l.prog w K mg base "is_bounds" ["value"] 3 (spP K F_is_bounds_65) := ⟨_, _, PySem.W.mg_of X G a_is_bounds, k_is_bounds_65, b_is_bounds_65, o_is_bounds_65⟩
  have u_check_bounds_66 := fun_mk (st := t_check_bounds_66) l_check_bounds_66 c_check_bounds_66 k_check_bounds_66
  have b_check_bounds_66 := u_check_bounds_66.binds (ps := ["value"]) fun _ _ _ _ _ _ us hl => match us, hl with | [_], _ => rfl
  have o_check_bounds_66 := ok_check_bounds_66 (P := l.prog) (w := w) (base := base) u_check_bounds_66 Z C_is_bounds
  have C_check_bounds_sure : Mini.Cl l.prog w K mg base "check_bounds_sure" ["value"] 4 (spP K F_check_bounds_66) := ⟨_, _, PySem.W.mg_of X G a_check_bounds_sure, k_check_bounds_66, b_check_bounds_66, o_check_bounds_66⟩
  have u_is_band_43 := fun_mk (st := t_is_band_43) l_is_band_43 c_is_band_43 k_is_band_43
  have b_is_band_43 := u_is_band_43.binds (ps := ["value"]) fun _ _ _ _ _ _ us hl => match us, hl with | [_], _ => rfl
  have o_is_band_43 := ok_is_band_43 (P := l.prog) (w := w) (base := base) u_is_band_43 Z ⟨_, PySem.W.mg_of X G v_PAIR_strands⟩ ⟨_, PySem.W.mg_of X G v_MOST_SUM_strands⟩ C_is_tuple C_is_integer
  have C_is_band : Mini.Cl l.prog w K mg base "is_band" ["value"] 3 (spP K F_is_band_43) := ⟨_, _, PySem.W.mg_of X G a_is_band, k_is_band_43, b_is_band_43, o_is_band_43⟩
  have u_check_band_44 := fun_mk (st := t_check_band_44) l_check_band_44 c_check_band_44 k_check_band_44
  have b_check_band_44 := u_check_band_44.binds (ps := ["value"]) fun _ _ _ _ _ _ us hl => match us, hl with | [_], _ => rfl
  have o_check_band_44 := ok_check_band_44 (P := l.prog) (w := w) (base := base) u_check_band_44 Z C_is_band
  have C_check_band : Mini.Cl l.prog w K mg base "check_band" ["value"] 4 (spP K F_check_band_44) := ⟨_, _, PySem.W.mg_of X G a_check_band, k_check_band_44, b_check_band_44, o_check_band_44⟩
  have u_verdict_of_70 := fun_mk (st := t_verdict_of_70) l_verdict_of_70 c_verdict_of_70 k_verdict_of_70
  have b_verdict_of_70 := u_verdict_of_70.binds (ps := ["bounds", "band"]) fun _ _ _ _ _ _ us hl => match us, hl with | [_, _], _ => rfl
  have o_verdict_of_70 := ok_verdict_of_70 (P := l.prog) (w := w) (base := base) u_verdict_of_70 Z ⟨_, PySem.W.mg_of X G v_NEVER_sure⟩ ⟨_, PySem.W.mg_of X G v_SURE_sure⟩ ⟨_, PySem.W.mg_of X G v_OPEN_sure⟩
  have C_verdict_of : Mini.Cl l.prog w K mg base "verdict_of" ["bounds", "band"] 1 (spP K F_verdict_of_70) := ⟨_, _, PySem.W.mg_of X G a_verdict_of, k_verdict_of_70, b_verdict_of_70, o_verdict_of_70⟩
  have u_even_71 := fun_mk (st := t_even_71) l_even_71 c_even_71 k_even_71
  have b_even_71 := u_even_71.binds (ps := ["bounds", "band"]) fun _ _ _ _ _ _ us hl => match us, hl with | [_, _], _ => rfl
  have o_even_71 := ok_even_71 (P := l.prog) (w := w) (base := base) u_even_71 Z C_check_bounds_sure C_check_band C_verdict_of
  have C_even_sure : Mini.Cl l.prog w K mg base "even_sure" ["bounds", "band"] 5 (spP K F_even_71) := ⟨_, _, PySem.W.mg_of X G a_even_sure, k_even_71, b_even_71, o_even_71⟩
  have u__law_word_83 := fun_mk (st := t__law_word_83) l__law_word_83 c__law_word_83 k__law_word_83
  have b__law_word_83 := u__law_word_83.binds (ps := ["words"]) fun _ _ _ _ _ _ us hl => match us, hl with | [_], _ => rfl
  have o__law_word_83 := ok__law_word_83 (P := l.prog) (w := w) (base := base) u__law_word_83 Z 
  have C__law_word : Mini.Cl l.prog w K mg base "_law_word" ["words"] 1 (spP K F__law_word_83) := ⟨_, _, PySem.W.mg_of X G a__law_word, k__law_word_83, b__law_word_83, o__law_word_83⟩
  have u__law_are_bands_right_84 := fun_mk (st := t__law_are_bands_right_84) l__law_are_bands_right_84 c__law_are_bands_right_84 k__law_are_bands_right_84
  have b__law_are_bands_right_84 := u__law_are_bands_right_84.binds (ps := ["bounds", "within"]) fun _ _ _ _ _ _ us hl => match us, hl with | [_, _], _ => rfl
  have o__law_are_bands_right_84 := ok__law_are_bands_right_84 (P := l.prog) (w := w) (base := base) u__law_are_bands_right_84 Z C_even_bounds C_even_sure C__law_word
  have C__law_are_bands_right : Mini.Cl l.prog w K mg base "_law_are_bands_right" ["bounds", "within"] 7 (spP K F__law_are_bands_right_84) := ⟨_, _, PySem.W.mg_of X G a__law_are_bands_right, k__law_are_bands_right_84, b__law_are_bands_right_84, o__law_are_bands_right_84⟩
  have u_why_even_27 := fun_mk (st := t_why_even_27) l_why_even_27 c_why_even_27 k_why_even_27
  have b_why_even_27 := u_why_even_27.binds (ps := ["bounds", "within"]) fun _ _ _ _ _ _ us hl => match us, hl with | [_, _], _ => rfl
  have o_why_even_27 := ok_why_even_27 (P := l.prog) (w := w) (base := base) u_why_even_27 Z ⟨_, PySem.W.mg_of X G v_SURE_bounds⟩ ⟨_, PySem.W.mg_of X G v_NEVER_bounds⟩ ⟨_, PySem.W.mg_of X G v_OPEN_bounds⟩ C_even_bounds
  have C_why_even : Mini.Cl l.prog w K mg base "why_even" ["bounds", "within"] 7 (spP K F_why_even_27) := ⟨_, _, PySem.W.mg_of X G a_why_even, k_why_even_27, b_why_even_27, o_why_even_27⟩
  have u_even_paper_73 := fun_mk (st := t_even_paper_73) l_even_paper_73 c_even_paper_73 k_even_paper_73
  have b_even_paper_73 := u_even_paper_73.binds (ps := ["bounds", "band"]) fun _ _ _ _ _ _ us hl => match us, hl with | [_, _], _ => rfl
  have o_even_paper_73 := ok_even_paper_73 (P := l.prog) (w := w) (base := base) u_even_paper_73 Z ⟨_, PySem.W.mg_of X G v_SURE_sure⟩ ⟨_, PySem.W.mg_of X G v_NEVER_sure⟩ ⟨_, PySem.W.mg_of X G v_OPEN_sure⟩ C_even_sure
  have C_even_paper : Mini.Cl l.prog w K mg base "even_paper" ["bounds", "band"] 6 (spP K F_even_paper_73) := ⟨_, _, PySem.W.mg_of X G a_even_paper, k_even_paper_73, b_even_paper_73, o_even_paper_73⟩
  have u_shows_even_25 := fun_mk (st := t_shows_even_25) l_shows_even_25 c_shows_even_25 k_shows_even_25
  have b_shows_even_25 := u_shows_even_25.binds (ps := ["bounds", "within", "value"]) fun _ _ _ _ _ _ us hl => match us, hl with | [_, _, _], _ => rfl
  have o_shows_even_25 := ok_shows_even_25 (P := l.prog) (w := w) (base := base) u_shows_even_25 Z ⟨_, PySem.W.mg_of X G v_SURE_bounds⟩ ⟨_, PySem.W.mg_of X G v_NEVER_bounds⟩ ⟨_, PySem.W.mg_of X G v_PAIR_bounds⟩ C_even_bounds C_is_integer C_is_tuple
  have C_shows_even_bounds : Mini.Cl l.prog w K mg base "shows_even_bounds" ["bounds", "within", "value"] 7 (spP K F_shows_even_25) := ⟨_, _, PySem.W.mg_of X G a_shows_even_bounds, k_shows_even_25, b_shows_even_25, o_shows_even_25⟩
  have u_is_row_68 := fun_mk (st := t_is_row_68) l_is_row_68 c_is_row_68 k_is_row_68
  have b_is_row_68 := u_is_row_68.binds (ps := ["bounds", "value"]) fun _ _ _ _ _ _ us hl => match us, hl with | [_, _], _ => rfl
  have o_is_row_68 := ok_is_row_68 (P := l.prog) (w := w) (base := base) u_is_row_68 Z C_is_tuple C_is_integer
  have C_is_row_sure : Mini.Cl l.prog w K mg base "is_row_sure" ["bounds", "value"] 3 (spP K F_is_row_68) := ⟨_, _, PySem.W.mg_of X G a_is_row_sure, k_is_row_68, b_is_row_68, o_is_row_68⟩
  have u_shows_even_74 := fun_mk (st := t_shows_even_74) l_shows_even_74 c_shows_even_74 k_shows_even_74
  have b_shows_even_74 := u_shows_even_74.binds (ps := ["bounds", "band", "value"]) fun _ _ _ _ _ _ us hl => match us, hl with | [_, _, _], _ => rfl
  have o_shows_even_74 := ok_shows_even_74 (P := l.prog) (w := w) (base := base) u_shows_even_74 Z ⟨_, PySem.W.mg_of X G v_TRIPLE⟩ ⟨_, PySem.W.mg_of X G v_SURE_sure⟩ ⟨_, PySem.W.mg_of X G v_NEVER_sure⟩ ⟨_, PySem.W.mg_of X G v_PAIR_sure⟩ C_even_sure C_is_tuple C_is_integer C_is_row_sure
  have C_shows_even_sure : Mini.Cl l.prog w K mg base "shows_even_sure" ["bounds", "band", "value"] 6 (spP K F_shows_even_74) := ⟨_, _, PySem.W.mg_of X G a_shows_even_sure, k_shows_even_74, b_shows_even_74, o_shows_even_74⟩
  have u__law_are_papers_right_85 := fun_mk (st := t__law_are_papers_right_85) l__law_are_papers_right_85 c__law_are_papers_right_85 k__law_are_papers_right_85
  have b__law_are_papers_right_85 := u__law_are_papers_right_85.binds (ps := ["pot", "bounds", "within"]) fun _ _ _ _ _ _ us hl => match us, hl with | [_, _, _], _ => rfl
  have o__law_are_papers_right_85 := ok__law_are_papers_right_85 (P := l.prog) (w := w) (base := base) u__law_are_papers_right_85 Z C_why_even C_shows_even_bounds C__law_unevenness C_even_sure C__law_take C_even_paper C_shows_even_sure
  have C__law_are_papers_right : Mini.Cl l.prog w K mg base "_law_are_papers_right" ["pot", "bounds", "within"] 8 (spM K F__law_are_papers_right_85) := ⟨_, _, PySem.W.mg_of X G a__law_are_papers_right, k__law_are_papers_right_85, b__law_are_papers_right_85, o__law_are_papers_right_85⟩
  have u__law_right_87 := fun_mk (st := t__law_right_87) l__law_right_87 c__law_right_87 k__law_right_87
  have b__law_right_87 := u__law_right_87.binds (ps := ["pot"]) fun _ _ _ _ _ _ us hl => match us, hl with | [_], _ => rfl
  have o__law_right_87 := ok__law_right_87 (P := l.prog) (w := w) (base := base) u__law_right_87 Z C__law_of C__law_take C__law_bounds C_unevenness C__law_unevenness C__law_are_bands_right C__law_are_papers_right C_even_bounds C__law_are_exact_right
  have C__law_right : Mini.Cl l.prog w K mg base "_law_right" ["pot"] 9 (spM K F__law_right_87) := ⟨_, _, PySem.W.mg_of X G a__law_right, k__law_right_87, b__law_right_87, o__law_right_87⟩
  have u_law_88 := fun_mk (st := t_law_88) l_law_88 c_law_88 k_law_88
  exact ok_law_88 u_law_88 Z C__law_cells C__law_pot C__law_right
end G56

open PySem PySem.W PyProof.Rows
set_option maxHeartbeats 0 in
theorem PySem.Challenge.cw_reeledeven_k56_whole_bounds_within_bands_holds : PySem.Challenge.rw_reeledeven_k56_whole_bounds_within_bands.Holds := by
  w_on; o_law; k_head; (case hw => w_witness2)
  k_fill
  refine LamX.walk_ofTs (l := PySem.Challenge.rw_reeledeven_k56_whole_bounds_within_bands) (n := 63) (k := 10) (x := "script") (CX := fun _ => L2.CX0) rfl (by decide) rfl ⟨rfl, by decide, by decide⟩ (fun w h Y => PySem.W.km_in_of Y) ?F (fun _ _ _ _ _ h => h)
  case F =>
    intro w mg fa h Y KX G hmg
    refine' G56.all_mk KX G hmg (PySem.W.km_tabs_of Y) ?a__law_cells ?l__law_cells_80 ?c__law_cells_80 ?k__law_cells_80 ?a__law_pot ?l__law_pot_77 ?c__law_pot_77 ?k__law_pot_77 ?a__law_take ?l__law_take_78 ?c__law_take_78 ?k__law_take_78 ?a__law_of ?l__law_of_79 ?c__law_of_79 ?k__law_of_79 ?a__law_bounds ?l__law_bounds_81 ?c__law_bounds_81 ?k__law_bounds_81 ?a_is_tuple ?l_is_tuple_1 ?c_is_tuple_1 ?k_is_tuple_1 ?a_is_whole ?l_is_whole_2 ?c_is_whole_2 ?k_is_whole_2 ?a_is_integer ?l_is_integer_3 ?c_is_integer_3 ?k_is_integer_3 ?a_is_bound ?l_is_bound_18 ?c_is_bound_18 ?k_is_bound_18 ?a_check_bounds_bounds ?l_check_bounds_19 ?c_check_bounds_19 ?k_check_bounds_19 ?a_others_of ?l_others_of_21 ?c_others_of_21 ?k_others_of_21 ?a_unevenness ?l_unevenness_22 ?c_unevenness_22 ?k_unevenness_22 ?a_even_bounds ?l_even_23 ?c_even_23 ?k_even_23 ?a_is_row_parts ?l_is_row_50 ?c_is_row_50 ?k_is_row_50 ?a_check_row ?l_check_row_52 ?c_check_row_52 ?k_check_row_52 ?a_check_width ?l_check_width_53 ?c_check_width_53 ?k_check_width_53 ?a_differ ?l_differ_54 ?c_differ_54 ?k_differ_54 ?a_fewest_parts ?l_fewest_parts_55 ?c_fewest_parts_55 ?k_fewest_parts_55 ?a_least_width ?l_least_width_56 ?c_least_width_56 ?k_least_width_56 ?a_is_sizes ?l_is_sizes_32 ?c_is_sizes_32 ?k_is_sizes_32 ?a_check_sizes ?l_check_sizes_33 ?c_check_sizes_33 ?k_check_sizes_33 ?a_check_number ?l_check_number_38 ?c_check_number_38 ?k_check_number_38 ?a_rising ?l_rising_35 ?c_rising_35 ?k_rising_35 ?a_classes_of ?l_classes_of_36 ?c_classes_of_36 ?k_classes_of_36 ?a_least_spread ?l_least_spread_39 ?c_least_spread_39 ?k_least_spread_39 ?a_check_spread ?l_check_spread_34 ?c_check_spread_34 ?k_check_spread_34 ?a_fewest_classes ?l_fewest_classes_37 ?c_fewest_classes_37 ?k_fewest_classes_37 ?a__law_are_exact_right ?l__law_are_exact_right_86 ?c__law_are_exact_right_86 ?k__law_are_exact_right_86 ?a__law_unevenness ?l__law_unevenness_82 ?c__law_unevenness_82 ?k__law_unevenness_82 ?a_is_bounds ?l_is_bounds_65 ?c_is_bounds_65 ?k_is_bounds_65 ?a_check_bounds_sure ?l_check_bounds_66 ?c_check_bounds_66 ?k_check_bounds_66 ?a_is_band ?l_is_band_43 ?c_is_band_43 ?k_is_band_43 ?a_check_band ?l_check_band_44 ?c_check_band_44 ?k_check_band_44 ?a_verdict_of ?l_verdict_of_70 ?c_verdict_of_70 ?k_verdict_of_70 ?a_even_sure ?l_even_71 ?c_even_71 ?k_even_71 ?a__law_word ?l__law_word_83 ?c__law_word_83 ?k__law_word_83 ?a__law_are_bands_right ?l__law_are_bands_right_84 ?c__law_are_bands_right_84 ?k__law_are_bands_right_84 ?a_why_even ?l_why_even_27 ?c_why_even_27 ?k_why_even_27 ?a_even_paper ?l_even_paper_73 ?c_even_paper_73 ?k_even_paper_73 ?a_shows_even_bounds ?l_shows_even_25 ?c_shows_even_25 ?k_shows_even_25 ?a_is_row_sure ?l_is_row_68 ?c_is_row_68 ?k_is_row_68 ?a_shows_even_sure ?l_shows_even_74 ?c_shows_even_74 ?k_shows_even_74 ?a__law_are_papers_right ?l__law_are_papers_right_85 ?c__law_are_papers_right_85 ?k__law_are_papers_right_85 ?a__law_right ?l__law_right_87 ?c__law_right_87 ?k__law_right_87 ?a_law ?l_law_88 ?c_law_88 ?k_law_88 ?z_len ?z_abs ?z_int ?z_isinstance ?z_tuple ?z_list ?z_bool ?z_str ?z_all ?z_any ?z_max ?z_min ?z_sum ?z_sorted ?z_range ?z_enumerate ?z_zip ?v_PAIR_bounds ?v_MOST_STRENGTH ?v_MOST_STRANDS ?v_SURE_bounds ?v_NEVER_bounds ?v_OPEN_bounds ?v_MOST_YARDS ?v_MOST_SUM_parts ?v_MOST_PARTS ?v_PAIR_parts ?v_MOST_SIZES ?v_MOST_SIZE ?v_PAIR_classes ?v_MOST_ROWS ?v_PAIR_sure ?v_MOST_SUM_sure ?v_PAIR_strands ?v_MOST_SUM_strands ?v_NEVER_sure ?v_SURE_sure ?v_OPEN_sure ?v_TRIPLE ?hP_rising_35 (fun ns s h1 _ hs => G56.law_true ns s h1 hs)
    (case a__law_cells => k_is)
    (case l__law_cells_80 => k_is)
    (case c__law_cells_80 => k_is)
    (case k__law_cells_80 => k_is)
    (case a__law_pot => k_is)
    (case l__law_pot_77 => k_is)
    (case c__law_pot_77 => k_is)
    (case k__law_pot_77 => k_is)
    (case a__law_take => k_is)
    (case l__law_take_78 => k_is)
    (case c__law_take_78 => k_is)
    (case k__law_take_78 => k_is)
    (case a__law_of => k_is)
    (case l__law_of_79 => k_is)
    (case c__law_of_79 => k_is)
    (case k__law_of_79 => k_is)
    (case a__law_bounds => k_is)
    (case l__law_bounds_81 => k_is)
    (case c__law_bounds_81 => k_is)
    (case k__law_bounds_81 => k_is)
    (case a_is_tuple => k_is)
    (case l_is_tuple_1 => k_is)
    (case c_is_tuple_1 => k_is)
    (case k_is_tuple_1 => k_is)
    (case a_is_whole => k_is)
    (case l_is_whole_2 => k_is)
    (case c_is_whole_2 => k_is)
    (case k_is_whole_2 => k_is)
    (case a_is_integer => k_is)
    (case l_is_integer_3 => k_is)
    (case c_is_integer_3 => k_is)
    (case k_is_integer_3 => k_is)
    (case a_is_bound => k_is)
    (case l_is_bound_18 => k_is)
    (case c_is_bound_18 => k_is)
    (case k_is_bound_18 => k_is)
    (case a_check_bounds_bounds => k_is)
    (case l_check_bounds_19 => k_is)
    (case c_check_bounds_19 => k_is)
    (case k_check_bounds_19 => k_is)
    (case a_others_of => k_is)
    (case l_others_of_21 => k_is)
    (case c_others_of_21 => k_is)
    (case k_others_of_21 => k_is)
    (case a_unevenness => k_is)
    (case l_unevenness_22 => k_is)
    (case c_unevenness_22 => k_is)
    (case k_unevenness_22 => k_is)
    (case a_even_bounds => k_is)
    (case l_even_23 => k_is)
    (case c_even_23 => k_is)
    (case k_even_23 => k_is)
    (case a_is_row_parts => k_is)
    (case l_is_row_50 => k_is)
    (case c_is_row_50 => k_is)
    (case k_is_row_50 => k_is)
    (case a_check_row => k_is)
    (case l_check_row_52 => k_is)
    (case c_check_row_52 => k_is)
    (case k_check_row_52 => k_is)
    (case a_check_width => k_is)
    (case l_check_width_53 => k_is)
    (case c_check_width_53 => k_is)
    (case k_check_width_53 => k_is)
    (case a_differ => k_is)
    (case l_differ_54 => k_is)
    (case c_differ_54 => k_is)
    (case k_differ_54 => k_is)
    (case a_fewest_parts => k_is)
    (case l_fewest_parts_55 => k_is)
    (case c_fewest_parts_55 => k_is)
    (case k_fewest_parts_55 => k_is)
    (case a_least_width => k_is)
    (case l_least_width_56 => k_is)
    (case c_least_width_56 => k_is)
    (case k_least_width_56 => k_is)
    (case a_is_sizes => k_is)
    (case l_is_sizes_32 => k_is)
    (case c_is_sizes_32 => k_is)
    (case k_is_sizes_32 => k_is)
    (case a_check_sizes => k_is)
    (case l_check_sizes_33 => k_is)
    (case c_check_sizes_33 => k_is)
    (case k_check_sizes_33 => k_is)
    (case a_check_number => k_is)
    (case l_check_number_38 => k_is)
    (case c_check_number_38 => k_is)
    (case k_check_number_38 => k_is)
    (case a_rising => k_is)
    (case l_rising_35 => k_is)
    (case c_rising_35 => k_is)
    (case k_rising_35 => k_is)
    (case a_classes_of => k_is)
    (case l_classes_of_36 => k_is)
    (case c_classes_of_36 => k_is)
    (case k_classes_of_36 => k_is)
    (case a_least_spread => k_is)
    (case l_least_spread_39 => k_is)
    (case c_least_spread_39 => k_is)
    (case k_least_spread_39 => k_is)
    (case a_check_spread => k_is)
    (case l_check_spread_34 => k_is)
    (case c_check_spread_34 => k_is)
    (case k_check_spread_34 => k_is)
    (case a_fewest_classes => k_is)
    (case l_fewest_classes_37 => k_is)
    (case c_fewest_classes_37 => k_is)
    (case k_fewest_classes_37 => k_is)
    (case a__law_are_exact_right => k_is)
    (case l__law_are_exact_right_86 => k_is)
    (case c__law_are_exact_right_86 => k_is)
    (case k__law_are_exact_right_86 => k_is)
    (case a__law_unevenness => k_is)
    (case l__law_unevenness_82 => k_is)
    (case c__law_unevenness_82 => k_is)
    (case k__law_unevenness_82 => k_is)
    (case a_is_bounds => k_is)
    (case l_is_bounds_65 => k_is)
    (case c_is_bounds_65 => k_is)
    (case k_is_bounds_65 => k_is)
    (case a_check_bounds_sure => k_is)
    (case l_check_bounds_66 => k_is)
    (case c_check_bounds_66 => k_is)
    (case k_check_bounds_66 => k_is)
    (case a_is_band => k_is)
    (case l_is_band_43 => k_is)
    (case c_is_band_43 => k_is)
    (case k_is_band_43 => k_is)
    (case a_check_band => k_is)
    (case l_check_band_44 => k_is)
    (case c_check_band_44 => k_is)
    (case k_check_band_44 => k_is)
    (case a_verdict_of => k_is)
    (case l_verdict_of_70 => k_is)
    (case c_verdict_of_70 => k_is)
    (case k_verdict_of_70 => k_is)
    (case a_even_sure => k_is)
    (case l_even_71 => k_is)
    (case c_even_71 => k_is)
    (case k_even_71 => k_is)
    (case a__law_word => k_is)
    (case l__law_word_83 => k_is)
    (case c__law_word_83 => k_is)
    (case k__law_word_83 => k_is)
    (case a__law_are_bands_right => k_is)
    (case l__law_are_bands_right_84 => k_is)
    (case c__law_are_bands_right_84 => k_is)
    (case k__law_are_bands_right_84 => k_is)
    (case a_why_even => k_is)
    (case l_why_even_27 => k_is)
    (case c_why_even_27 => k_is)
    (case k_why_even_27 => k_is)
    (case a_even_paper => k_is)
    (case l_even_paper_73 => k_is)
    (case c_even_paper_73 => k_is)
    (case k_even_paper_73 => k_is)
    (case a_shows_even_bounds => k_is)
    (case l_shows_even_25 => k_is)
    (case c_shows_even_25 => k_is)
    (case k_shows_even_25 => k_is)
    (case a_is_row_sure => k_is)
    (case l_is_row_68 => k_is)
    (case c_is_row_68 => k_is)
    (case k_is_row_68 => k_is)
    (case a_shows_even_sure => k_is)
    (case l_shows_even_74 => k_is)
    (case c_shows_even_74 => k_is)
    (case k_shows_even_74 => k_is)
    (case a__law_are_papers_right => k_is)
    (case l__law_are_papers_right_85 => k_is)
    (case c__law_are_papers_right_85 => k_is)
    (case k__law_are_papers_right_85 => k_is)
    (case a__law_right => k_is)
    (case l__law_right_87 => k_is)
    (case c__law_right_87 => k_is)
    (case k__law_right_87 => k_is)
    (case a_law => k_is)
    (case l_law_88 => k_is)
    (case c_law_88 => k_is)
    (case k_law_88 => k_is)
    (case z_len => k_is)
    (case z_abs => k_is)
    (case z_int => k_is)
    (case z_isinstance => k_is)
    (case z_tuple => k_is)
    (case z_list => k_is)
    (case z_bool => k_is)
    (case z_str => k_is)
    (case z_all => k_is)
    (case z_any => k_is)
    (case z_max => k_is)
    (case z_min => k_is)
    (case z_sum => k_is)
    (case z_sorted => k_is)
    (case z_range => k_is)
    (case z_enumerate => k_is)
    (case z_zip => k_is)
    (case v_PAIR_bounds => k_is)
    (case v_MOST_STRENGTH => k_is)
    (case v_MOST_STRANDS => k_is)
    (case v_SURE_bounds => k_is)
    (case v_NEVER_bounds => k_is)
    (case v_OPEN_bounds => k_is)
    (case v_MOST_YARDS => k_is)
    (case v_MOST_SUM_parts => k_is)
    (case v_MOST_PARTS => k_is)
    (case v_PAIR_parts => k_is)
    (case v_MOST_SIZES => k_is)
    (case v_MOST_SIZE => k_is)
    (case v_PAIR_classes => k_is)
    (case v_MOST_ROWS => k_is)
    (case v_PAIR_sure => k_is)
    (case v_MOST_SUM_sure => k_is)
    (case v_PAIR_strands => k_is)
    (case v_MOST_SUM_strands => k_is)
    (case v_NEVER_sure => k_is)
    (case v_SURE_sure => k_is)
    (case v_OPEN_sure => k_is)
    (case v_TRIPLE => k_is)
    (case hP_rising_35 => exact rfl)
