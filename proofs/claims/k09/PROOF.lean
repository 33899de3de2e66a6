import PyProof.Rows.All
import PyProof.ReprReads
import PyProof.EqLayable
import HandS.ForMost
import HandS.ForExc
import HandS.Walk
import HandS.TupAny
import HandS.FStr
import HandS.Zip
import HandS.Conv
import HandS.Style
import HandS.Wide
import HandS.Lambda
import HandS.ExcCtx
import HandS.SuiteRaise
import HandS.ExcIs
import HandS.TupMul
import HandS.Strs
import HandS.SetFor
import HandS.SortInts
import HandS.Deep
import HandS.Star
import HandS.TupLe
import PyProof.WalkInts
import KE.GoesMore
import KE.KDflt
import PyProof.Rows.RegStrFacts
import PyProof.StrLawsRepr
import PySem.Challenge.RW_setsadded_k09_whole_unlike_rings
set_option Elab.async false
set_option linter.all false
set_option maxRecDepth 100000
/-! Dz: a small language of one's own over plain data, and what is wanted ahead of its texts (weakest preconditions). -/
namespace Dz
open PySem
abbrev D := PyData
/-- what a name holds: nothing, data that stands still, a list or dict of the def's own, the law's state of draws -/
inductive SV | un | fz (d : D) | ow (d : D) | st
abbrev Ev := List SV
inductive Ex | cls (n : Nat) | arg (n : Nat) (d : D)
abbrev Rs := D → Nat → Prop
abbrev XR := Ex → Nat → Prop
abbrev PhiT := Nat → List SV → Nat → XR → Rs → Prop

inductive Bin | add | sub | mul | fdiv | mod | pow deriving DecidableEq
inductive Cmp | eq | ne | lt | le | gt | ge deriving DecidableEq
inductive Fn | len | abs | int | str | repr | max | min | sum | sorted | list | tuple | any | all deriving DecidableEq
/-- a module's constant tuple: its items -/
inductive Lit | int (i : Int) | str (s : Str) deriving DecidableEq
def litD : Lit → D
  | .int i => .int i
  | .str s => .str s
inductive Tg | v (i : Nat) | t (is : List Nat)

mutual
inductive E
  | var (i : Nat) | own (i : Nat)
  | int (i : Int) | bl (b : Bool) | non | str (s : Str)
  | bin (o : Bin) (a b : E) | neg (a : E)
  | cmp (o : Cmp) (a b : E)
  | and (a b : E) | or (a b : E) | not (a : E)
  | ite (c a b : E)
  | tup (es : L) | lst (es : L)
  | ix (a i : E) | slice (a : E) (lo hi : O)
  | call (f : Nat) (as : A)
  | draw (i : Nat) (m : E)
  | fn (b : Fn) (as : L)
  | comp (elt : E) (tg : Tg) (it : It) (ifs : L) (own : List Nat)
  | fmt (es : L)
  | told (e : E) (own : List Nat)
  | chain (o1 o2 : Cmp) (a b c : E)
  | ctup (ls : List Lit)
  | isn (neg : Bool) (a : E)
  | mem (neg : Bool) (a b : E)
  | sset (a : E) | lset (a : E)
  | rngL (tup : Bool) (a b : E)
  | comp2 (elt : E) (tg1 : Tg) (it1 : It) (ifs1 : L) (tg2 : Tg) (it2 : It) (ifs2 : L) (own own2 : List Nat)
  | rev (a : E)
inductive L | nil | cons (e : E) (r : L) | star (e : E) (r : L)
inductive A | nil | cons (e : E) (r : A) | st (i : Nat) (r : A)
inductive O | no | ye (e : E)
inductive It | of (e : E) | range (a b : E) | range1 (b : E) | zip (a b : E) | enum (a : E) | down (a b : E)
end

mutual
inductive S
  | set (i : Nat) (e : E) | setO (i : Nat) (e : E) | mkst (i : Nat) (e : E)
  | par (is : List Nat) (es : L) | unpack (is : List Nat) (e : E)
  | freeze (i : Nat)
  | append (i : Nat) (e : E)
  | expr (e : E)
  | pop (t : Tg) (i : Nat)
  | extend (i : Nat) (e : E)
  | parX (is : List Nat) (es : L) (fl : List Bool)
  | ifs (c : E) (a b : SL)
  | for_ (tg : Tg) (it : It) (b : SL)
  | while_ (c : E) (b : SL)
  | ret (e : E)
  | raise (n : Nat)
  | brk | cont
inductive SL | nil | cons (s : S) (r : SL)
end

/-! ### plain data -/
def mulOk (i j : Int) : Prop := (-(2 ^ 64) < i ∧ i < 2 ^ 64) ∨ (-(2 ^ 64) < j ∧ j < 2 ^ 64) ∨ i.natAbs.log2 + j.natAbs.log2 < 1000000
def binD : Bin → D → D → (D → Prop) → Prop
  | .add, .int i, .int j, Q => Q (.int (i + j))
  | .add, .str a, .str b, Q => a.length + b.length ≤ sizeLine ∧ Q (.str (a ++ b))
  | .add, .list xs, .list ys, Q => xs.length + ys.length ≤ sizeLine ∧ Q (.list (xs ++ ys))
  | .add, .tuple xs, .tuple ys, Q => xs.length + ys.length ≤ sizeLine ∧ Q (.tuple (xs ++ ys))
  | .mul, .list xs, .int k, Q => (-(2 ^ 62) ≤ k ∧ k < 2 ^ 62 ∧ xs.length * k.toNat ≤ sizeLine) ∧ Q (.list (List.replicate k.toNat xs).flatten)
  | .mul, .tuple xs, .int k, Q => (xs ≠ [] ∧ -(2 ^ 62) ≤ k ∧ k ≤ 1000 ∧ xs.length ≤ 1000) ∧ Q (.tuple (List.replicate k.toNat xs).flatten)
  | .sub, .int i, .int j, Q => Q (.int (i - j))
  | .mul, .int i, .int j, Q => mulOk i j ∧ Q (.int (i * j))
  | .fdiv, .int i, .int j, Q => (j ≠ 0 ∧ j.natAbs.log2 < 9000) ∧ Q (.int (i.fdiv j))
  | .mod, .int i, .int j, Q => j ≠ 0 ∧ Q (.int (i.fmod j))
  | .pow, .int i, .int j, Q => (0 ≤ j ∧ j ≤ 1000000 ∧ i.natAbs < 2 ^ 64) ∧ Q (.int (i ^ j.toNat))
  | _, _, _, _ => False
/-- the first is less, as tuples of ints are -/
def lexB : List Int → List Int → Bool
  | [], [] => false
  | [], _ :: _ => true
  | _ :: _, [] => false
  | x :: xs, y :: ys => if x = y then lexB xs ys else decide (x < y)
def cmpD : Cmp → D → D → (D → Prop) → Prop
  | .eq, .int i, .int j, Q => Q (.bool (decide (i = j)))
  | .eq, .str i, .str j, Q => Q (.bool (decide (i = j)))
  | .eq, a, b, Q => (SeqAt.shaped a = true ∧ SeqAt.shaped b = true) ∧ Q (.bool (PyData.eqv a b))
  | .ne, .int i, .int j, Q => Q (.bool (!decide (i = j)))
  | .ne, .str i, .str j, Q => Q (.bool (!decide (i = j)))
  | .ne, a, b, Q => (SeqAt.shaped a = true ∧ SeqAt.shaped b = true) ∧ Q (.bool (!PyData.eqv a b))
  | .lt, .int i, .int j, Q => Q (.bool (decide (i < j)))
  | .le, .int i, .int j, Q => Q (.bool (decide (i ≤ j)))
  | .lt, .tuple xs, .tuple ys, Q => ∃ ns ms : List Int, xs = ns.map PyData.int ∧ ys = ms.map PyData.int ∧ Q (.bool (lexB ns ms))
  | .gt, .int i, .int j, Q => Q (.bool (decide (j < i)))
  | .ge, .int i, .int j, Q => Q (.bool (decide (j ≤ i)))
  | _, _, _, _ => False
/-- the place of an index -/
def ixN (n : Nat) (i : Int) : Option Nat := if 0 ≤ i then (if i < n then some i.toNat else none) else if -(n : Int) ≤ i then some (i + n).toNat else none
def at_ (xs : List D) (i : Int) : Option D := (ixN xs.length i).bind fun j => xs[j]?
def ixD : D → D → (D → Prop) → Prop
  | .list xs, .int i, Q => ∃ d, at_ xs i = some d ∧ Q d
  | .tuple xs, .int i, Q => ∃ d, at_ xs i = some d ∧ Q d
  | _, _, _ => False
def sIx (n d : Nat) : Option Int → Nat
  | none => d
  | some v => if v < 0 then (v + (n : Int)).toNat else min v.toNat n
def cutD (xs : List D) (lo hi : Option Int) : List D := (xs.drop (sIx xs.length 0 lo)).take (sIx xs.length xs.length hi - sIx xs.length 0 lo)
def sliceD : D → Option Int → Option Int → (D → Prop) → Prop
  | .list xs, lo, hi, Q => Q (.list (cutD xs lo hi))
  | .tuple xs, lo, hi, Q => Q (.tuple (cutD xs lo hi))
  | _, _, _, _ => False
def fnD : Fn → List D → (D → Prop) → Prop
  | .len, [.list xs], Q => Q (.int xs.length)
  | .len, [.tuple xs], Q => Q (.int xs.length)
  | .abs, [.int i], Q => Q (.int (if i < 0 then -i else i))
  | .int, [.int i], Q => Q (.int i)
  | .int, [.bool b], Q => Q (.int (if b then 1 else 0))
  | .str, [.int i], Q => i.natAbs.log2 < 1920 ∧ Q (.str (toString i))
  | .max, [.int i, .int j], Q => Q (.int (if j > i then j else i))
  | .min, [.int i, .int j], Q => Q (.int (if j < i then j else i))
  | .max, [.list xs], Q => ∃ ns : List Int, xs = ns.map PyData.int ∧ ns ≠ [] ∧ ∀ m, m ∈ ns → (∀ y, y ∈ ns → y ≤ m) → Q (.int m)
  | .min, [.list xs], Q => (∃ ns : List Int, xs = ns.map PyData.int ∧ ns ≠ [] ∧ ∀ m, m ∈ ns → (∀ y, y ∈ ns → m ≤ y) → Q (.int m)) ∨
      ∃ nss : List (List Int), xs = nss.map (fun ns => PyData.tuple (ns.map PyData.int)) ∧ nss ≠ [] ∧ ∀ m, m ∈ nss → (∀ y, y ∈ nss → lexB y m = false) → Q (.tuple (m.map PyData.int))
  | .sum, [.list xs], Q => ∃ ns : List Int, xs = ns.map PyData.int ∧ Q (.int ns.sum)
  | .sorted, [.list xs], Q => ∃ ns : List Int, xs = ns.map PyData.int ∧ ∀ r : List Int, r.Perm ns → r.Pairwise (· ≤ ·) → Q (.list (r.map PyData.int))
  | .list, [.list xs], Q => Q (.list xs)
  | .list, [.tuple xs], Q => Q (.list xs)
  | .tuple, [.list xs], Q => Q (.tuple xs)
  | .tuple, [.tuple xs], Q => Q (.tuple xs)
  | .any, [.list xs], Q => ∃ bs : List Bool, xs = bs.map PyData.bool ∧ Q (.bool (bs.any id))
  | .all, [.list xs], Q => ∃ bs : List Bool, xs = bs.map PyData.bool ∧ Q (.bool (bs.all id))
  | .repr, [.list xs], Q => ((PyData.list xs).showable = true ∧ (PyData.list xs).depth < 50 ∧ (PyData.list xs).hasDict = false ∧ (PyData.list xs).shown.length ≤ sizeLine) ∧ Q (.str (PyData.list xs).shown)
  | _, _, _ => False
def flatD : D → Bool
  | .none => true
  | .bool _ => true
  | .int _ => true
  | .str _ => true
  | _ => false
/-- a in b -/
def memD : D → D → (Bool → Prop) → Prop
  | x, .list xs, Q => (SeqAt.shaped x = true ∧ SeqAt.shaped (.list xs) = true) ∧ Q (xs.any fun z => PyData.eqv z x)
  | x, .tuple xs, Q => (flatD x = true ∧ xs.all flatD = true) ∧ Q (xs.any fun z => PyData.eqv z x)
  | _, _, _ => False
/-- sorted(set(a)) -/
def ssetD : D → (D → Prop) → Prop
  | .list xs, Q => ∃ ns : List Int, xs = ns.map PyData.int ∧ ns.length ≤ 4000 ∧ ∀ r : List Int, r.Pairwise (· < ·) → (∀ k, k ∈ r ↔ k ∈ ns) → Q (.list (r.map PyData.int))
  | _, _ => False
/-- len(set(a)) -/
def lsetD : D → (D → Prop) → Prop
  | .list xs, Q => ∃ ns : List Int, xs = ns.map PyData.int ∧ ns.length ≤ 4000 ∧ ∀ r : List Int, r.Nodup → (∀ k, k ∈ r ↔ k ∈ ns) → Q (.int (r.length : Nat))
  | _, _ => False
def revD : D → (D → Prop) → Prop
  | .list xs, Q => Q (.list xs.reverse)
  | _, _ => False
/-- {a}: the text of an int or a text -/
def strD : D → (Str → Prop) → Prop
  | .int i, Q => i.natAbs.log2 < 1920 ∧ Q (toString i)
  | .str s, Q => s.length ≤ sizeLine ∧ Q s
  | _, _ => False
def setD (ρ : Ev) (i : Nat) (d : D) : Ev := ρ.set i (.fz d)
def setAll (ρ : Ev) : List Nat → List D → Option Ev
  | [], [] => some ρ
  | i :: is, d :: ds => setAll (setD ρ i d) is ds
  | _, _ => none
def bindT : Tg → D → Ev → Option Ev
  | .v i, d, ρ => some (setD ρ i d)
  | .t is, .tuple ds, ρ => setAll ρ is ds
  | .t _, _, _ => none
def wipeE (ρ : Ev) : List Nat → Ev
  | [] => ρ
  | v :: vs => (wipeE ρ vs).set v .un
def itemsD : D → Option (List D)
  | .list xs => some xs
  | .tuple xs => some xs
  | _ => none
def rangeD (lo hi : Int) : List D := (List.range (hi - lo).toNat).map fun k : Nat => PyData.int (lo + (k : Int))
def zipD (a b : List D) : List D := List.zipWith (fun x y => .tuple [x, y]) a b
def enumD (a : List D) : List D := zipD ((List.range a.length).map fun k : Nat => PyData.int (k : Int)) a

/-- range(i, j, -1) -/
def downD (i j : Int) : List D := (List.range (i - j).toNat).map fun k : Nat => PyData.int (i - (k : Int))
/-- slots stored, some of them with new lists of one's own -/
def setAllX (ρ : Ev) : List Nat → List Bool → List D → Option Ev
  | [], [], [] => some ρ
  | i :: is, b :: bs, d :: ds => setAllX (if b = true then ρ.set i (.ow d) else setD ρ i d) is bs ds
  | _, _, _ => none
/-! ### loops -/
structure Kt where
  nx : Ev → Nat → Prop
  rt : Rs
  bk : Ev → Nat → Prop
  ct : Ev → Nat → Prop
def loopF (tg : Tg) (body : Ev → Nat → Kt → Prop) : List D → Ev → Nat → Kt → Prop
  | [], ρ, g, k => k.nx ρ g
  | d :: ds, ρ, g, k => ∃ ρ', bindT tg d ρ = some ρ' ∧ body ρ' g ⟨fun ρ g => loopF tg body ds ρ g k, k.rt, k.nx, fun ρ g => loopF tg body ds ρ g k⟩
def onFz : Option SV → (D → Prop) → Prop
  | some (.fz d), k => k d
  | _, _ => False
def onOw : Option SV → (D → Prop) → Prop
  | some (.ow d), k => k d
  | _, _ => False
def onSt : Option SV → Prop → Prop
  | some .st, k => k
  | _, _ => False
def onInt : D → (Int → Prop) → Prop
  | .int i, k => k i
  | _, _ => False
def onInt2 : D → D → (Int → Int → Prop) → Prop
  | .int i, .int j, k => k i j
  | _, _, _ => False
def onList : D → (List D → Prop) → Prop
  | .list i, k => k i
  | _, _ => False
def onSeqs : D → D → (List D → List D → Prop) → Prop
  | .list i, .list j, k => k i j
  | .tuple i, .tuple j, k => k i j
  | _, _, _ => False
def onSeq : D → (List D → Prop) → Prop
  | .list i, k => k i
  | .tuple i, k => k i
  | _, _ => False
def onKept : Option D → Prop → (D → Prop) → Prop
  | none, a, _ => a
  | some y, _, b => b y
def loopC (f : D → Nat → (Option D → Nat → Prop) → Prop) : List D → List D → Nat → (List D → Nat → Prop) → Prop
  | [], acc, g, k => k acc g
  | d :: ds, acc, g, k => f d g fun r g' => onKept r (loopC f ds acc g' k) fun y => acc.length < sizeLine ∧ loopC f ds (acc ++ [y]) g' k
/-- the outer turns of a comprehension of two clauses -/
def loopN (f : D → List D → Nat → (List D → Nat → Prop) → Prop) : List D → List D → Nat → (List D → Nat → Prop) → Prop
  | [], acc, g, k => k acc g
  | d :: ds, acc, g, k => f d acc g fun acc' g' => loopN f ds acc' g' k
def loopW (c : Ev → Nat → (Bool → Nat → Prop) → Prop) (body : Ev → Nat → Kt → Prop) : Nat → Ev → Nat → Kt → Prop
  | 0, _, _, _ => False
  | n + 1, ρ, g, k => c ρ g fun t g1 => if t = true then body ρ g1 ⟨fun ρ g => loopW c body n ρ g k, k.rt, k.nx, fun ρ g => loopW c body n ρ g k⟩ else k.nx ρ g1
def onBool (k : Bool → Nat → Prop) : D → Nat → Prop
  | .bool b, g => k b g
  | _, _ => False
def isNone : D → Bool
  | .none => true
  | _ => false
def noX : XR := fun _ _ => False

/-- the word for an error of the m-th class -/
def kname : Nat → Str
  | 0 => "refused"
  | 1 => "large"
  | 2 => "missing"
  | 3 => "form"
  | _ => "broken"
/-! ### what is wanted ahead -/
section
variable (Φ : PhiT)
mutual
def wpE : E → Ev → Nat → XR → Rs → Prop
  | .var i, ρ, g, _, Q => onFz ρ[i]? fun d => Q d g
  | .own i, ρ, g, _, Q => onOw ρ[i]? fun d => Q d g
  | .int i, _, g, _, Q => Q (.int i) g
  | .bl b, _, g, _, Q => Q (.bool b) g
  | .non, _, g, _, Q => Q .none g
  | .str s, _, g, _, Q => Q (.str s) g
  | .bin o a b, ρ, g, X, Q => wpE a ρ g X fun x g1 => wpE b ρ g1 X fun y g2 => binD o x y fun z => Q z g2
  | .neg a, ρ, g, X, Q => wpE a ρ g X fun x g1 => onInt x fun i => Q (.int (-i)) g1
  | .cmp o a b, ρ, g, X, Q => wpE a ρ g X fun x g1 => wpE b ρ g1 X fun y g2 => cmpD o x y fun z => Q z g2
  | .and a b, ρ, g, X, Q => wpE a ρ g X (onBool fun t g1 => if t = true then wpE b ρ g1 X (onBool fun t g2 => Q (.bool t) g2) else Q (.bool false) g1)
  | .or a b, ρ, g, X, Q => wpE a ρ g X (onBool fun t g1 => if t = true then Q (.bool true) g1 else wpE b ρ g1 X (onBool fun t g2 => Q (.bool t) g2))
  | .not a, ρ, g, X, Q => wpE a ρ g X (onBool fun t g1 => Q (.bool (!t)) g1)
  | .ite c a b, ρ, g, X, Q => wpE c ρ g X (onBool fun t g1 => if t = true then wpE a ρ g1 X Q else wpE b ρ g1 X Q)
  | .tup es, ρ, g, X, Q => wpL es ρ g X fun ds g1 => ds.length ≤ sizeLine ∧ Q (.tuple ds) g1
  | .lst es, ρ, g, X, Q => wpL es ρ g X fun ds g1 => ds.length ≤ sizeLine ∧ Q (.list ds) g1
  | .ix a i, ρ, g, X, Q => wpE a ρ g X fun x g1 => wpE i ρ g1 X fun y g2 => ixD x y fun z => Q z g2
  | .slice a lo hi, ρ, g, X, Q => wpE a ρ g X fun x g1 => wpO lo ρ g1 X fun l g2 => wpO hi ρ g2 X fun h g3 => sliceD x l h fun z => Q z g3
  | .call f as, ρ, g, X, Q => wpA as ρ g X fun svs g1 => Φ f svs g1 X Q
  | .draw i m, ρ, g, X, Q => onSt ρ[i]? (wpE m ρ g X fun y g1 => onInt y fun n => 0 < n ∧ 1 < g1 ∧ ∀ x : Int, 0 ≤ x → x < n → Q (.int x) (g1 - 1))
  | .fn b as, ρ, g, X, Q => wpL as ρ g X fun ds g1 => fnD b ds fun z => Q z g1
  | .comp elt tg it ifs own, ρ, g, X, Q => wpI it ρ g X fun ds g0 => loopC (fun d g k => ∃ ρ', bindT tg d (wipeE ρ own) = some ρ' ∧
      wpC ifs ρ' g noX fun t g1 => if t = true then wpE elt ρ' g1 noX fun y g2 => k (some y) g2 else k none g1) ds [] g0 fun r g1 => Q (.list r) g1
  | .fmt es, ρ, g, X, Q => wpJ es Str.empty ρ g X fun t g1 => Q (.str t) g1
  | .chain o1 o2 a b c, ρ, g, X, Q => wpE a ρ g X fun x g1 => wpE b ρ g1 X fun y g2 => cmpD o1 x y fun z => onBool (fun t g3 => if t = true then wpE c ρ g3 X fun u g4 => cmpD o2 y u fun r => Q r g4 else Q (.bool false) g3) z g2
  | .told e own, ρ, g, _, Q => wpE e (wipeE ρ own) g (fun x g1 => ∃ m, m < 3 ∧ x = .cls m ∧ Q (.tuple [.str (kname m)]) g1) fun d g1 => Q (.tuple [.str "told", d]) g1
  | .ctup ls, _, g, _, Q => Q (.tuple (ls.map litD)) g
  | .isn neg a, ρ, g, X, Q => wpE a ρ g X fun x g1 => Q (.bool (xor neg (isNone x))) g1
  | .mem neg a b, ρ, g, X, Q => wpE a ρ g X fun x g1 => wpE b ρ g1 X fun y g2 => memD x y fun t => Q (.bool (xor neg t)) g2
  | .sset a, ρ, g, X, Q => wpE a ρ g X fun x g1 => ssetD x fun z => Q z g1
  | .lset a, ρ, g, X, Q => wpE a ρ g X fun x g1 => lsetD x fun z => Q z g1
  | .rngL tup a b, ρ, g, X, Q => wpE a ρ g X fun x g1 => wpE b ρ g1 X fun y g2 => onInt2 x y fun i j => (-(2 ^ 62) ≤ i ∧ i < 2 ^ 62 ∧ -(2 ^ 62) ≤ j ∧ j < 2 ^ 62 ∧ j - i ≤ 4000) ∧ Q (if tup = true then .tuple (rangeD i j) else .list (rangeD i j)) g2
  | .comp2 elt tg1 it1 ifs1 tg2 it2 ifs2 own own2, ρ, g, X, Q => wpI it1 ρ g X fun ds g0 => loopN (fun d acc g k => ∃ ρ1, bindT tg1 d (wipeE ρ own) = some ρ1 ∧ wpC ifs1 ρ1 g noX fun t g1 => if t = true then
      wpI it2 ρ1 g1 noX fun ds2 g2 => loopC (fun d g k => ∃ ρ2, bindT tg2 d (wipeE ρ1 own2) = some ρ2 ∧ wpC ifs2 ρ2 g noX fun t g1 => if t = true then wpE elt ρ2 g1 noX fun y g2 => k (some y) g2 else k none g1) ds2 acc g2 k else k acc g1) ds [] g0 fun r g1 => Q (.list r) g1
  | .rev a, ρ, g, X, Q => wpE a ρ g X fun x g1 => revD x fun z => Q z g1
def wpL : L → Ev → Nat → XR → (List D → Nat → Prop) → Prop
  | .nil, _, g, _, Q => Q [] g
  | .cons e r, ρ, g, X, Q => wpE e ρ g X fun d g1 => wpL r ρ g1 X fun ds g2 => Q (d :: ds) g2
  | .star e r, ρ, g, X, Q => wpE e ρ g X fun d g1 => onSeq d fun xs => wpL r ρ g1 X fun ds g2 => Q (xs ++ ds) g2
/-- the texts one behind the other -/
def wpJ : L → Str → Ev → Nat → XR → (Str → Nat → Prop) → Prop
  | .nil, acc, _, g, _, Q => Q acc g
  | .star _ _, _, _, _, _, _ => False
  | .cons e r, acc, ρ, g, X, Q => wpE e ρ g X fun d g1 => strD d fun t => (acc ++ t).length ≤ sizeLine ∧ wpJ r (acc ++ t) ρ g1 X Q
/-- the tests of a comprehension's clause, all of them -/
def wpC : L → Ev → Nat → XR → (Bool → Nat → Prop) → Prop
  | .nil, _, g, _, Q => Q true g
  | .cons e r, ρ, g, X, Q => wpE e ρ g X (onBool fun t g1 => if t = true then wpC r ρ g1 X Q else Q false g1)
  | .star _ _, _, _, _, _ => False
def wpA : A → Ev → Nat → XR → (List SV → Nat → Prop) → Prop
  | .nil, _, g, _, Q => Q [] g
  | .cons e r, ρ, g, X, Q => wpE e ρ g X fun d g1 => wpA r ρ g1 X fun ds g2 => Q (.fz d :: ds) g2
  | .st i r, ρ, g, X, Q => onSt ρ[i]? (wpA r ρ g X fun ds g2 => Q (.st :: ds) g2)
def wpO : O → Ev → Nat → XR → (Option Int → Nat → Prop) → Prop
  | .no, _, g, _, Q => Q none g
  | .ye e, ρ, g, X, Q => wpE e ρ g X fun d g1 => onInt d fun i => Q (some i) g1
def wpI : It → Ev → Nat → XR → (List D → Nat → Prop) → Prop
  | .of e, ρ, g, X, Q => wpE e ρ g X fun d g1 => onSeq d fun ds => Q ds g1
  | .range a b, ρ, g, X, Q => wpE a ρ g X fun x g1 => wpE b ρ g1 X fun y g2 => onInt2 x y fun i j => (-(2 ^ 62) ≤ i ∧ i < 2 ^ 62 ∧ -(2 ^ 62) ≤ j ∧ j < 2 ^ 62) ∧ Q (rangeD i j) g2
  | .range1 b, ρ, g, X, Q => wpE b ρ g X fun y g2 => onInt y fun j => (-(2 ^ 62) ≤ j ∧ j < 2 ^ 62) ∧ Q (rangeD 0 j) g2
  | .zip a b, ρ, g, X, Q => wpE a ρ g X fun x g1 => wpE b ρ g1 X fun y g2 => onSeqs x y fun xs ys => Q (zipD xs ys) g2
  | .enum a, ρ, g, X, Q => wpE a ρ g X fun x g1 => onSeq x fun xs => Q (enumD xs) g1
  | .down a b, ρ, g, X, Q => wpE a ρ g X fun x g1 => wpE b ρ g1 X fun y g2 => onInt2 x y fun i j => (-(2 ^ 62) ≤ i ∧ i < 2 ^ 62 ∧ -(2 ^ 62) ≤ j ∧ j < 2 ^ 62) ∧ Q (downD i j) g2
end
mutual
def wpS : S → Ev → Nat → XR → Kt → Prop
  | .set i e, ρ, g, X, k => wpE Φ e ρ g X fun d g1 => k.nx (setD ρ i d) g1
  | .setO i e, ρ, g, X, k => wpE Φ e ρ g X fun d g1 => k.nx (ρ.set i (.ow d)) g1
  | .mkst i e, ρ, g, X, k => wpE Φ e ρ g X fun d g1 => g1 = 0 ∧ ∃ (x : Int) (xs : List Int), d = .list (.int x :: xs.map PyData.int) ∧ xs.length < 16777216 ∧ k.nx (ρ.set i .st) (2 ^ 50)
  | .par is es, ρ, g, X, k => wpL Φ es ρ g X fun ds g1 => ∃ ρ', setAll ρ is ds = some ρ' ∧ k.nx ρ' g1
  | .unpack is e, ρ, g, X, k => wpE Φ e ρ g X fun d g1 => ∃ ρ', bindT (.t is) d ρ = some ρ' ∧ k.nx ρ' g1
  | .freeze i, ρ, g, _, k => onOw ρ[i]? fun d => k.nx (setD ρ i d) g
  | .append i e, ρ, g, X, k => onOw ρ[i]? fun o => onList o fun xs => wpE Φ e ρ g X fun d g1 => xs.length < sizeLine ∧ k.nx (ρ.set i (.ow (.list (xs ++ [d])))) g1
  | .expr e, ρ, g, X, k => wpE Φ e ρ g X fun _ g1 => k.nx ρ g1
  | .pop t i, ρ, g, _, k => onOw ρ[i]? fun o => onList o fun xs => ∃ d ρ', xs.getLast? = some d ∧ bindT t d (ρ.set i (.ow (.list xs.dropLast))) = some ρ' ∧ k.nx ρ' g
  | .extend i e, ρ, g, X, k => onOw ρ[i]? fun o => onList o fun xs => wpE Φ e ρ g X fun d g1 => onList d fun ys => xs.length + ys.length ≤ sizeLine ∧ k.nx (ρ.set i (.ow (.list (xs ++ ys)))) g1
  | .parX is es fl, ρ, g, X, k => wpL Φ es ρ g X fun ds g1 => ∃ ρ', setAllX ρ is fl ds = some ρ' ∧ k.nx ρ' g1
  | .ifs c a b, ρ, g, X, k => wpE Φ c ρ g X (onBool fun t g1 => if t = true then wpSL a ρ g1 X k else wpSL b ρ g1 X k)
  | .for_ tg it b, ρ, g, X, k => wpI Φ it ρ g X fun ds g1 => loopF tg (fun ρ g k => wpSL b ρ g X k) ds ρ g1 k
  | .while_ c b, ρ, g, X, k => ∃ n, loopW (fun ρ g k => wpE Φ c ρ g X (onBool k)) (fun ρ g k => wpSL b ρ g X k) n ρ g k
  | .ret e, ρ, g, X, k => wpE Φ e ρ g X k.rt
  | .raise n, _, g, X, _ => X (.cls n) g
  | .brk, ρ, g, _, k => k.bk ρ g
  | .cont, ρ, g, _, k => k.ct ρ g
def wpSL : SL → Ev → Nat → XR → Kt → Prop
  | .nil, ρ, g, _, k => k.nx ρ g
  | .cons s r, ρ, g, X, k => wpS s ρ g X { k with nx := fun ρ g => wpSL r ρ g X k }
end
end

structure Def where
  name : Str
  ps : List Str
  N : List Str
  body : SL
/-- what is known of a law's text: its defs, its whole-number constants -/
structure Tab where
  defs : List Def
  cs : List (Str × Int)
  ts : List (Str × List Lit) := []
def startE (d : Def) (svs : List SV) : Ev := svs ++ List.replicate (d.N.length - svs.length) .un
def Phi (tbl : Tab) : Nat → PhiT
  | 0 => fun _ _ _ _ _ => False
  | n + 1 => fun f svs g X Q => match tbl.defs[f]? with
    | some d => svs.length = d.ps.length ∧ wpSL (Phi tbl n) d.body (startE d svs) g X ⟨fun _ g => Q .none g, Q, fun _ _ => False, fun _ _ => False⟩
    | none => False
end Dz
set_option Elab.async false
set_option linter.all false
set_option maxRecDepth 100000
/-! Dz: how data lies in the heap; what a step keeps. -/
namespace Dz
open PySem PySem.Spec PyProof.Rows L2
def keyD : Key → D
  | .inl i => .int i
  | .inr s => .str s
mutual
inductive Rp (K : PySem.W.Frag) (F : Hp) : V → D → Prop
  | non : Rp K F .non .none
  | bl (b : Bool) : Rp K F (.bl b) (.bool b)
  | int (i : Int) : Rp K F (.int i) (.int i)
  | str (x : Str) : Rp K F (.str x) (.str x)
  | lst {a : Addr} {xs : List V} {ds : List PyData} : SqL K F a xs → RpA K F xs ds → Rp K F (.ref a) (.list ds)
  | tup {a : Addr} {xs : List V} {ds : List PyData} : SqT K F a xs → RpA K F xs ds → Rp K F (.ref a) (.tuple ds)
  | dic {a : Addr} {kvs : List (Key × V)} {ds : List (PyData × PyData)} : F a = some (.dK kvs) → RpK K F kvs ds → Rp K F (.ref a) (.dict ds)
inductive RpA (K : PySem.W.Frag) (F : Hp) : List V → List PyData → Prop
  | nil : RpA K F [] []
  | cons {v : V} {vs : List V} {d : PyData} {ds : List PyData} : Rp K F v d → RpA K F vs ds → RpA K F (v :: vs) (d :: ds)
inductive RpK (K : PySem.W.Frag) (F : Hp) : List (Key × V) → List (PyData × PyData) → Prop
  | nil : RpK K F [] []
  | cons {k : Key} {v : V} {r : List (Key × V)} {e : PyData} {rs : List (PyData × PyData)} : Rp K F v e → RpK K F r rs → RpK K F ((k, v) :: r) ((keyD k, e) :: rs)
end
theorem Same.sqL {K : PySem.W.Frag} {H H' : Hp} {a : Addr} {xs : List V} (e : Same H H') (h : SqL K H a xs) : SqL K H' a xs := e.seq h
theorem Same.sqT {K : PySem.W.Frag} {H H' : Hp} {a : Addr} {xs : List V} (e : Same H H') (h : SqT K H a xs) : SqT K H' a xs := by
  rcases h with (h | ⟨o, h⟩) | h
  · exact .inl (.inl (e _ _ h))
  · exact .inl (.inr ⟨o, e _ _ h⟩)
  · exact .inr h
section
variable {K : PySem.W.Frag} {F F' : Hp}
mutual
theorem Rp.mono (s : Same F F') : ∀ (d : PyData) (v : V), Rp K F v d → Rp K F' v d
  | .none, _, h => by cases h; exact .non
  | .bool b, _, h => by cases h; exact .bl _
  | .int i, _, h => by cases h; exact .int _
  | .str x, _, h => by cases h; exact .str _
  | .list ds, _, h => by
    cases h with
    | lst h1 h2 => exact .lst (Same.sqL s h1) (RpA.mono s ds _ h2)
  | .tuple ds, _, h => by
    cases h with
    | tup h1 h2 => exact .tup (Same.sqT s h1) (RpA.mono s ds _ h2)
  | .dict ds, _, h => by
    cases h with
    | dic h1 h2 => exact .dic (s _ _ h1) (RpK.mono s ds _ h2)
theorem RpA.mono (s : Same F F') : ∀ (ds : List PyData) (vs : List V), RpA K F vs ds → RpA K F' vs ds
  | [], _, h => by cases h; exact .nil
  | d :: ds, _, h => by
    cases h with
    | cons h1 h2 => exact .cons (Rp.mono s d _ h1) (RpA.mono s ds _ h2)
theorem RpK.mono (s : Same F F') : ∀ (ds : List (PyData × PyData)) (vs : List (Key × V)), RpK K F vs ds → RpK K F' vs ds
  | [], _, h => by cases h; exact .nil
  | (k, d) :: ds, _, h => by
    cases h with
    | cons h1 h2 => exact .cons (Rp.mono s d _ h1) (RpK.mono s ds _ h2)
end
mutual
theorem Rp.dp : ∀ (d : PyData) (v : V), d.hasDict = false → Rp K F v d → Dp K F v d
  | .none, _, _, h => by cases h; exact .non
  | .bool b, _, _, h => by cases h; exact .bl _
  | .int i, _, _, h => by cases h; exact .int _
  | .str x, _, _, h => by cases h; exact .str _
  | .list ds, _, hd, h => by
    cases h with
    | lst h1 h2 => exact .lst h1 (RpA.dp ds _ (by simpa [PyData.hasDict] using hd) h2)
  | .tuple ds, _, hd, h => by
    cases h with
    | tup h1 h2 => exact .tup h1 (RpA.dp ds _ (by simpa [PyData.hasDict] using hd) h2)
  | .dict ds, _, hd, h => by simp [PyData.hasDict] at hd
theorem RpA.dp : ∀ (ds : List PyData) (vs : List V), PyData.hasDictAll ds = false → RpA K F vs ds → DpAll K F vs ds
  | [], _, _, h => by cases h; exact .nil
  | d :: ds, _, hd, h => by
    cases h with
    | cons h1 h2 =>
      have hd' : d.hasDict = false ∧ PyData.hasDictAll ds = false := by simpa [PyData.hasDictAll] using hd
      exact .cons (Rp.dp d _ hd'.1 h1) (RpA.dp ds _ hd'.2 h2)
end
theorem RpA.length : ∀ {vs : List V} {ds : List PyData}, RpA K F vs ds → vs.length = ds.length
  | _, [], h => by cases h; rfl
  | _, d :: ds, h => by
    cases h with
    | cons h1 h2 => rw [List.length_cons, List.length_cons, RpA.length h2]
theorem RpA.get : ∀ {ds : List PyData} {vs : List V} {i : Nat} {d : D}, RpA K F vs ds → ds[i]? = some d → ∃ v, vs[i]? = some v ∧ Rp K F v d
  | [], _, _, _, _, e => by simp at e
  | d :: ds, _, 0, _, h, e => by
    cases h with
    | cons h1 h2 => simp at e; subst e; exact ⟨_, rfl, h1⟩
  | d :: ds, _, i + 1, _, h, e => by
    cases h with
    | cons h1 h2 =>
      obtain ⟨v, e1, e2⟩ := RpA.get (i := i) h2 (by simpa using e)
      exact ⟨v, by simpa using e1, e2⟩
theorem RpA.get' : ∀ {ds : List PyData} {vs : List V} {i : Nat} {v : V}, RpA K F vs ds → vs[i]? = some v → ∃ d, ds[i]? = some d ∧ Rp K F v d
  | [], _, _, _, h, e => by cases h; simp at e
  | d :: ds, _, 0, _, h, e => by
    cases h with
    | cons h1 h2 => simp at e; subst e; exact ⟨_, rfl, h1⟩
  | d :: ds, _, i + 1, _, h, e => by
    cases h with
    | cons h1 h2 =>
      obtain ⟨v, e1, e2⟩ := RpA.get' (i := i) h2 (by simpa using e)
      exact ⟨v, by simpa using e1, e2⟩
theorem RpA.append : ∀ {xs ds : List PyData} {vs us : List V}, RpA K F vs xs → RpA K F us ds → RpA K F (vs ++ us) (xs ++ ds)
  | [], _, _, _, h, g => by cases h; exact g
  | d :: xs, _, _, _, h, g => by
    cases h with
    | cons h1 h2 => exact .cons h1 (RpA.append h2 g)
theorem RpA.take : ∀ {ds : List PyData} {vs : List V} (n : Nat), RpA K F vs ds → RpA K F (vs.take n) (ds.take n)
  | _, _, 0, _ => .nil
  | [], _, n + 1, h => by cases h; exact .nil
  | d :: ds, _, n + 1, h => by
    cases h with
    | cons h1 h2 => exact .cons h1 (RpA.take n h2)
theorem RpA.drop : ∀ {ds : List PyData} {vs : List V} (n : Nat), RpA K F vs ds → RpA K F (vs.drop n) (ds.drop n)
  | _, _, 0, h => h
  | [], _, n + 1, h => by cases h; exact .nil
  | d :: ds, _, n + 1, h => by
    cases h with
    | cons h1 h2 => exact RpA.drop n h2
theorem RpA.set {ds : List PyData} {vs : List V} {i : Nat} {d : D} {v : V} (h : RpA K F vs ds) (g : Rp K F v d) : RpA K F (vs.set i v) (ds.set i d) := by
  induction ds generalizing vs i with
  | nil => cases h; exact .nil
  | cons e ds ih =>
    cases h with
    | cons h1 h2 =>
      cases i with
      | zero => exact .cons g h2
      | succ i => exact .cons h1 (ih h2)
end

/-- a list or dict at a that is one's own: its items stand still -/
def OwnAt (K : PySem.W.Frag) (F H : Hp) (a : Addr) (d : D) : Prop :=
  F a = none ∧ ((∃ vs ds, d = .list ds ∧ H a = some (.lst vs) ∧ RpA K F vs ds) ∨ ∃ kvs ds, d = .dict ds ∧ H a = some (.dK kvs) ∧ RpK K F kvs ds)
theorem OwnAt.there {K : PySem.W.Frag} {F H : Hp} {a : Addr} {d : D} (h : OwnAt K F H a d) : ∃ o, H a = some o := by
  rcases h.2 with ⟨_, _, _, e, _⟩ | ⟨_, _, _, e, _⟩ <;> exact ⟨_, e⟩
/-- the state of draws at ast: a list of the stream's list and the counter; g more draws are allowed -/
def StA (K : PySem.W.Frag) (F H : Hp) (ast : Option Addr) (g : Nat) : Prop :=
  match ast with
  | none => g = 0
  | some a => F a = none ∧ ∃ (b : Addr) (c x : Int) (xs : List Int), H a = some (.lst [.ref b, .int c]) ∧ Rp K F (.ref b) (.list (.int x :: xs.map PyData.int)) ∧ 0 ≤ c ∧ c + g ≤ 2 ^ 60 ∧ 0 < g ∧ xs.length < 16777216
/-- how a raised thing's class is known; the tables of code objects, and the name that all in one bear -/
structure Wish where
  ok : Ex → Value → Prop
  T : List (Addr × Str)
/-- the tables of code objects stand, no other are told of, and none stands still -/
structure TbOk (T : List (Addr × Str)) (F H : Hp) : Prop where
  tab : LamX.Tabs T H
  all : ∀ b ps, H b = some (.tbl ps) → ∃ q, (b, q) ∈ T
  frz : ∀ p ∈ T, F p.1 = none
def StOk (K : PySem.W.Frag) (B : Wish) (F H : Hp) (ast : Option Addr) (g : Nat) : Prop := StA K F H ast g ∧ TbOk B.T F H
/-- what an expression's evaluation keeps -/
structure Step (ast : Option Addr) (F H F' H' : Hp) : Prop where
  same : Same F F'
  pres : ∀ b o, H b = some o → ast ≠ some b → (∀ ps, o ≠ .tbl ps) → H' b = some o
  dom : ∀ b, H b ≠ none → H' b ≠ none
  new : ∀ b, H b ≠ none → F b = none → ast ≠ some b → F' b = none
theorem dom_upd {H H' : Hp} {a : Addr} {o : HO} (d : ∀ b, H b ≠ none → H' b ≠ none) : ∀ b, H b ≠ none → upd H' a o b ≠ none := fun b h => by
  by_cases hb : b = a
  · rw [hb, upd_same]
    exact fun z => nomatch z
  · rw [upd_ne hb]
    exact d b h
/-- nothing changed, new objects that stand still -/
structure Grow (F H F' H' : Hp) : Prop where
  same : Same F F'
  pres : Same H H'
  new : ∀ b, H b ≠ none → F b = none → F' b = none
  notb : ∀ b ps, H' b = some (.tbl ps) → H b = some (.tbl ps)
theorem Step.refl (ast : Option Addr) (F H : Hp) : Step ast F H F H := ⟨Same.refl F, fun _ _ h _ _ => h, fun _ h => h, fun _ _ h _ => h⟩
theorem Step.trans {ast : Option Addr} {F H F1 H1 F2 H2 : Hp} (a : Step ast F H F1 H1) (b : Step ast F1 H1 F2 H2) : Step ast F H F2 H2 where
  same := a.same.trans b.same
  pres := fun c o h n t => b.pres c o (a.pres c o h n t) n t
  dom := fun c h => b.dom c (a.dom c h)
  new := fun c h f n => b.new c (a.dom c h) (a.new c h f n) n
theorem Grow.refl (F H : Hp) : Grow F H F H := ⟨Same.refl F, Same.refl H, fun _ _ h => h, fun _ _ h => h⟩
theorem Grow.step {ast : Option Addr} {F H F' H' : Hp} (a : Grow F H F' H') : Step ast F H F' H' := ⟨a.same, fun b o h _ _ => a.pres b o h, fun b h => (match e : H b with
  | none => absurd e h
  | some o => by rw [a.pres b o e]; exact fun z => nomatch z), fun b h f _ => a.new b h f⟩
theorem Grow.trans {F H F1 H1 F2 H2 : Hp} (a : Grow F H F1 H1) (b : Grow F1 H1 F2 H2) : Grow F H F2 H2 where
  same := a.same.trans b.same
  pres := a.pres.trans b.pres
  new := fun c h f => by
    cases e : H c with
    | none => exact absurd e h
    | some o => exact b.new c (by rw [a.pres c o e]; exact fun z => nomatch z) (a.new c h f)
  notb := fun c ps h => a.notb c ps (b.notb c ps h)
theorem TbOk.grow {T : List (Addr × Str)} {F H F' H' : Hp} (a : Grow F H F' H') (t : TbOk T F H) : TbOk T F' H' :=
  ⟨t.tab.ext a.pres, fun b ps h => t.all b ps (a.notb b ps h), fun p hp => a.new _ (by
    obtain ⟨ps, h, _⟩ := t.tab p hp
    rw [h]; exact fun z => nomatch z) (t.frz p hp)⟩
theorem TbOk.still {T : List (Addr × Str)} {F H : Hp} {a : Addr} {o o' : HO} (t : TbOk T F H) (h : H a = some o) (n : ∀ ps, o ≠ .tbl ps) : TbOk T (upd F a o') H :=
  ⟨t.tab, t.all, fun p hp => by
    obtain ⟨ps, h1, _⟩ := t.tab p hp
    rw [upd_ne fun z => by rw [z, h] at h1; exact n _ (Option.some.inj h1)]
    exact t.frz p hp⟩
/-- what is one's own is written anew -/
theorem TbOk.upd {T : List (Addr × Str)} {F H : Hp} {a : Addr} {o o' : HO} (t : TbOk T F H) (h : H a = some o) (n1 : ∀ ps, o ≠ .tbl ps) (n2 : ∀ c q, o ≠ LamX.CodeO c q) (n3 : ∀ ps, o' ≠ .tbl ps) : TbOk T F (upd H a o') := by
  refine ⟨fun p hp => ?_, fun b ps e => ?_, t.frz⟩
  · obtain ⟨ps, h1, h2, h3⟩ := t.tab p hp
    have na : p.1 ≠ a := fun z => by rw [z, h] at h1; exact n1 _ (Option.some.inj h1)
    refine ⟨ps, by rw [upd_ne na]; exact h1, h2, fun pos cv hc => ?_⟩
    obtain ⟨c, e1, e2⟩ := h3 pos cv hc
    refine ⟨c, e1, ?_⟩
    rw [upd_ne fun z => by rw [z, h] at e2; exact n2 _ _ (Option.some.inj e2)]
    exact e2
  · by_cases hb : b = a
    · rw [hb, upd_same] at e
      exact absurd (Option.some.inj e) (n3 _)
    · rw [upd_ne hb] at e
      exact t.all b ps e
theorem Grow.st {K : PySem.W.Frag} {B : Wish} {ast : Option Addr} {F H F' H' : Hp} {g : Nat} (a : Grow F H F' H') (s : StOk K B F H ast g) : StOk K B F' H' ast g := by
  refine ⟨?_, s.2.grow a⟩
  have s := s.1
  cases ast with
  | none => exact s
  | some x =>
    obtain ⟨f, b, c, y, ys, h1, h2, h3⟩ := s
    exact ⟨a.new x (by rw [h1]; exact fun z => nomatch z) f, b, c, y, ys, a.pres _ _ h1, Rp.mono a.same _ _ h2, h3⟩
theorem same_upd {H : Hp} {p : Addr} {o : HO} (h : H p = none) : Same H (upd H p o) := fun b x e => by
  rw [upd_ne (ne_of_none e h)]
  exact e
/-- a new object that stands still from now on -/
theorem notb_upd {H : Hp} {p : Addr} {o : HO} (no : ∀ ps, o ≠ .tbl ps) : ∀ b ps, upd H p o b = some (.tbl ps) → H b = some (.tbl ps) := fun b ps e => by
  by_cases hb : b = p
  · rw [hb, upd_same] at e
    exact absurd (Option.some.inj e) (no _)
  · rw [upd_ne hb] at e
    exact e
theorem Grow.laid {F H : Hp} {p : Addr} {o : HO} (s : Same F H) (h : H p = none) (no : ∀ ps, o ≠ .tbl ps := by intro _ z; cases z) : Grow F H (upd F p o) (upd H p o) where
  same := same_upd (s.free h)
  pres := same_upd h
  new := fun b hb f => by
    have : b ≠ p := fun e => hb (by rw [e]; exact h)
    rw [upd_ne this]
    exact f
  notb := notb_upd no
theorem Same.upd2 {F H : Hp} {p : Addr} {o : HO} (s : Same F H) : Same (upd F p o) (upd H p o) := fun b x e => by
  by_cases hb : b = p
  · rw [hb, upd_same] at e ⊢
    exact e
  · rw [upd_ne hb] at e ⊢
    exact s _ _ e
/-- a new object that is nobody's yet -/
theorem Grow.fresh {F H : Hp} {p : Addr} {o : HO} (s : Same F H) (h : H p = none) (no : ∀ ps, o ≠ .tbl ps := by intro _ z; cases z) : Grow F H F (upd H p o) :=
  ⟨Same.refl F, same_upd h, fun _ _ f => f, notb_upd no⟩
theorem Same.updR {F H : Hp} {p : Addr} {o : HO} (s : Same F H) (h : F p = none) : Same F (upd H p o) := fun b x e => by
  rw [upd_ne (ne_of_none e h)]
  exact s _ _ e
theorem OwnAt.kind {K : PySem.W.Frag} {F H : Hp} {a : Addr} {d : D} {ob : HO} (o : OwnAt K F H a d) (e : H a = some ob) : (∀ ps, ob ≠ HO.tbl ps) ∧ ∀ c q, ob ≠ LamX.CodeO c q := by
  rcases o.2 with ⟨_, _, _, e2, _⟩ | ⟨_, _, _, e2, _⟩
  · rw [e] at e2; cases e2
    exact ⟨fun _ z => (nomatch z), fun _ _ z => (nomatch z)⟩
  · rw [e] at e2; cases e2
    exact ⟨fun _ z => (nomatch z), fun _ _ z => (nomatch z)⟩
theorem OwnAt.step {K : PySem.W.Frag} {ast : Option Addr} {F H F' H' : Hp} {a : Addr} {d : D} (o : OwnAt K F H a d) (n : ast ≠ some a) (s : Step ast F H F' H') : OwnAt K F' H' a d := by
  obtain ⟨ob, e⟩ := o.there
  refine ⟨s.new a (by rw [e]; exact fun z => nomatch z) o.1 n, ?_⟩
  rcases o.2 with ⟨vs, ds, e1, e2, r⟩ | ⟨kvs, ds, e1, e2, r⟩
  · exact .inl ⟨vs, ds, e1, s.pres _ _ e2 n (fun _ z => nomatch z), RpA.mono s.same _ _ r⟩
  · exact .inr ⟨kvs, ds, e1, s.pres _ _ e2 n (fun _ z => nomatch z), RpK.mono s.same _ _ r⟩

/-! ### values -/
inductive Md | st | tp | fr
/-- st: data that stands still; tp: or a list, dict of one's own; fr: a new list, dict that is nobody's yet (H: the heap ahead) -/
def Val (K : PySem.W.Frag) (md : Md) (ast : Option Addr) (H F' H' : Hp) (v : V) (d : D) : Prop :=
  match md with
  | .st => Rp K F' v d
  | .tp => Rp K F' v d ∨ ∃ a, v = .ref a ∧ ast ≠ some a ∧ OwnAt K F' H' a d
  | .fr => ∃ a, v = .ref a ∧ H a = none ∧ ast ≠ some a ∧ OwnAt K F' H' a d
abbrev Top (K : PySem.W.Frag) (ast : Option Addr) (F H : Hp) (v : V) (d : D) : Prop := Rp K F v d ∨ ∃ a, v = .ref a ∧ ast ≠ some a ∧ OwnAt K F H a d
theorem Top.step {K : PySem.W.Frag} {ast : Option Addr} {F H F' H' : Hp} {v : V} {d : D} (t : Top K ast F H v d) (s : Step ast F H F' H') : Top K ast F' H' v d := by
  rcases t with t | ⟨a, e, n, o⟩
  · exact .inl (Rp.mono s.same _ _ t)
  · exact .inr ⟨a, e, n, o.step n s⟩
/-- what a list is to be read as -/
theorem Top.list {K : PySem.W.Frag} {ast : Option Addr} {F H : Hp} {v : V} {ds : List D} (s : Same F H) (t : Top K ast F H v (.list ds)) : ∃ a vs, v = .ref a ∧ SqL K H a vs ∧ RpA K F vs ds := by
  rcases t with t | ⟨a, e, n, o⟩
  · cases t with
    | lst h1 h2 => exact ⟨_, _, rfl, Same.sqL s h1, h2⟩
  · rcases o.2 with ⟨vs, ds', e1, e2, r⟩ | ⟨_, _, e1, _⟩
    · cases e1; exact ⟨a, vs, e, SqL.of e2, r⟩
    · cases e1
theorem Top.tuple {K : PySem.W.Frag} {ast : Option Addr} {F H : Hp} {v : V} {ds : List D} (s : Same F H) (t : Top K ast F H v (.tuple ds)) : ∃ a vs, v = .ref a ∧ SqT K H a vs ∧ RpA K F vs ds := by
  rcases t with t | ⟨a, e, n, o⟩
  · cases t with
    | tup h1 h2 => exact ⟨_, _, rfl, Same.sqT s h1, h2⟩
  · rcases o.2 with ⟨vs, ds', e1, e2, r⟩ | ⟨_, _, e1, _⟩ <;> cases e1
theorem Top.int {K : PySem.W.Frag} {ast : Option Addr} {F H : Hp} {v : V} {i : Int} (t : Top K ast F H v (.int i)) : v = .int i := by
  rcases t with t | ⟨a, e, n, o⟩
  · cases t; rfl
  · rcases o.2 with ⟨vs, ds', e1, e2, r⟩ | ⟨_, _, e1, _⟩ <;> cases e1
theorem Top.bool {K : PySem.W.Frag} {ast : Option Addr} {F H : Hp} {v : V} {i : Bool} (t : Top K ast F H v (.bool i)) : v = .bl i := by
  rcases t with t | ⟨a, e, n, o⟩
  · cases t; rfl
  · rcases o.2 with ⟨vs, ds', e1, e2, r⟩ | ⟨_, _, e1, _⟩ <;> cases e1
theorem Top.str {K : PySem.W.Frag} {ast : Option Addr} {F H : Hp} {v : V} {i : Str} (t : Top K ast F H v (.str i)) : v = .str i := by
  rcases t with t | ⟨a, e, n, o⟩
  · cases t; rfl
  · rcases o.2 with ⟨vs, ds', e1, e2, r⟩ | ⟨_, _, e1, _⟩ <;> cases e1
/-- all of it, as it lies now -/
theorem Top.rp {K : PySem.W.Frag} {ast : Option Addr} {F H : Hp} {v : V} {d : D} (s : Same F H) (t : Top K ast F H v d) : Rp K H v d := by
  rcases t with t | ⟨a, e, n, o⟩
  · exact Rp.mono s _ _ t
  · subst e
    rcases o.2 with ⟨vs, ds', e1, e2, r⟩ | ⟨kvs, ds, e1, e2, r⟩
    · subst e1; exact .lst (SqL.of e2) (RpA.mono s _ _ r)
    · subst e1; exact .dic e2 (RpK.mono s _ _ r)
theorem Rp.int_inv {K : PySem.W.Frag} {F : Hp} {v : V} {i : Int} (t : Rp K F v (.int i)) : v = .int i := by cases t; rfl

/-! ### the names -/
def SlotOk (K : PySem.W.Frag) (F H : Hp) (ast : Option Addr) (x : Option V) : SV → Prop
  | .un => True
  | .fz d => ∃ v, x = some v ∧ Rp K F v d
  | .ow d => ∃ a, x = some (.ref a) ∧ ast ≠ some a ∧ OwnAt K F H a d
  | .st => ∃ a, x = some (.ref a) ∧ ast = some a
structure SlOk (K : PySem.W.Frag) (F H : Hp) (ast : Option Addr) (σ : L2.St) (ρ : Ev) : Prop where
  len : σ.length = ρ.length
  at_ : ∀ (i : Nat) sv, ρ[i]? = some sv → ∃ x, σ[i]? = some x ∧ SlotOk K F H ast x sv
  apart : ∀ (i j : Nat) d e a, i ≠ j → ρ[i]? = some (.ow d) → ρ[j]? = some (.ow e) → σ[i]? = some (some (V.ref a)) → σ[j]? ≠ some (some (V.ref a))
theorem SlotOk.step {K : PySem.W.Frag} {ast : Option Addr} {F H F' H' : Hp} {x : Option V} {sv : SV} (o : SlotOk K F H ast x sv) (s : Step ast F H F' H') : SlotOk K F' H' ast x sv := by
  cases sv with
  | un => trivial
  | fz d => obtain ⟨v, e, r⟩ := o; exact ⟨v, e, Rp.mono s.same _ _ r⟩
  | ow d => obtain ⟨a, e, n, r⟩ := o; exact ⟨a, e, n, r.step n s⟩
  | st => exact o
theorem SlOk.step {K : PySem.W.Frag} {ast : Option Addr} {F H F' H' : Hp} {σ : L2.St} {ρ : Ev} (o : SlOk K F H ast σ ρ) (s : Step ast F H F' H') : SlOk K F' H' ast σ ρ :=
  ⟨o.len, fun i sv e => let ⟨x, e1, r⟩ := o.at_ i sv e; ⟨x, e1, r.step s⟩, o.apart⟩
/-- a state of a body -/
structure SRc (K : PySem.W.Frag) (B : Wish) (F H : Hp) (ast : Option Addr) (σ : L2.St) (ρ : Ev) (g : Nat) : Prop where
  fh : Same F H
  st : StOk K B F H ast g
  sl : SlOk K F H ast σ ρ
theorem SRc.step {K : PySem.W.Frag} {B : Wish} {ast : Option Addr} {F H F' H' : Hp} {σ : L2.St} {ρ : Ev} {g g' : Nat} (o : SRc K B F H ast σ ρ g) (s : Step ast F H F' H') (fh : Same F' H') (st : StOk K B F' H' ast g') : SRc K B F' H' ast σ ρ g' :=
  ⟨fh, st, o.sl.step s⟩

/-! ### what an expression is to reach -/
structure Goal (K : PySem.W.Frag) (B : Wish) (W : WX) (md : Md) (ast : Option Addr) (F H : Hp) (σ : L2.St) (X : XR) (R : Rs) (Q : VK) : Prop where
  ok : ∀ v F' H' d g, Step ast F H F' H' → Same F' H' → StOk K B F' H' ast g → Val K md ast H F' H' v d → R d g → Q v H'
  ex : ∀ x c F' H' g, Step ast F H F' H' → Same F' H' → StOk K B F' H' ast g → X x g → B.ok x c → W c none σ H'
def TDm (K : PySem.W.Frag) (B : Wish) (W : WX) (md : Md) (w : Ev → Nat → XR → Rs → Prop) : TE := fun σ H Q =>
  ∃ F ast ρ g X R, SRc K B F H ast σ ρ g ∧ w ρ g X R ∧ Goal K B W md ast F H σ X R Q
theorem PE.imp {X : Cx} {e : Expr} {t t' : TE} (h : PE X e t) (i : ∀ σ H Q, t' σ H Q → t σ H Q) : PE X e t' := ⟨fun pins s σ H Q I q => h.run pins s σ H Q I (i σ H Q q)⟩
theorem PT.imp {X : Cx} {e : Expr} {t t' : TT} (h : PT X e t) (i : ∀ σ H Q, t' σ H Q → t σ H Q) : PT X e t' := ⟨fun pins s σ H Q I q => h.run pins s σ H Q I (i σ H Q q)⟩
theorem PA.imp {X : Cx} {e : List Expr} {t t' : TA} (h : PA X e t) (i : ∀ σ H Q, t' σ H Q → t σ H Q) : PA X e t' := ⟨fun pos pins s σ H Q I q => h.run pos pins s σ H Q I (i σ H Q q)⟩
theorem PSs.imp {X : Cx} {e : List Stmt} {t t' : TS} (h : PSs X e t) (i : ∀ D σ H, t' D σ H → t D σ H) : PSs X e t' := ⟨fun pins s σ H D I q => h.run pins s σ H D I (i D σ H q)⟩
theorem PS.imp {X : Cx} {e : Stmt} {t t' : TS} (h : PS X e t) (i : ∀ D σ H, t' D σ H → t D σ H) : PS X e t' := ⟨fun pins s σ H D I q => h.run pins s σ H D I (i D σ H q)⟩
end Dz
set_option Elab.async false
set_option linter.all false
set_option maxRecDepth 100000
set_option maxHeartbeats 2000000
/-! Dz: rules that the kit lacks: lists that stand still joined, sets of lists, least tuples. -/
namespace Dz
open PySem PySem.Spec PyProof.Rows L2
section
variable {X : Cx}
/-- list + list, however they are known -/
def rCatL (K : PySem.W.Frag) : R2 := fun x y H Q => ∃ a b xs ys, x = .ref a ∧ y = .ref b ∧ SqL K H a xs ∧ SqL K H b ys ∧ xs.length + ys.length ≤ sizeLine ∧ ∀ p, H p = none → Q (.ref p) (upd H p (.lst (xs ++ ys)))
theorem op_catL : OpR X (binaryOp .Add) (rCatL X.K) := by
  intro pins s σ H x y v u Q I rx ry h
  obtain ⟨a, b, xs, ys, rfl, rfl, ha, hb, hz, q⟩ := h
  cases rx
  cases ry
  obtain ⟨i1, r1, p1, z1⟩ := I.list ha
  obtain ⟨i2, r2, p2, z2⟩ := I.list hb
  obtain ⟨⟨c1, d1, t1, s1⟩, g1, e1, n1, e1'⟩ := p1.isList
  obtain ⟨⟨c2, d2, t2, s2⟩, g2, e2, n2, e2'⟩ := p2.isList
  dsimp only at e1 e1' e2 e2'
  subst e1 e1' e2 e2'
  have hz' : i1.toArray.size + i2.toArray.size ≤ sizeLine := by
    rw [List.size_toArray, List.size_toArray, ← r1.length, ← r2.length]; exact hz
  refine concat_meets ⟨_, g1, rfl⟩ ⟨_, g2, rfl⟩ noFill_list_add seq_list_add PySem.F.slot_list_add PySem.F.entry_list_add (PySem.F.args_list_add_2 _ _) (list_addW a b _ _ n1 n2 d1 d2 s1 s2 hz') ⟨g1, g2, ?_⟩
  have ea : i1.toArray ++ i2.toArray = (i1 ++ i2).toArray := by simp
  rw [ea]
  exact ⟨.ref _, _, I.lnew (t' := s.toks) (r1.append r2) (by rw [List.length_append]; exact hz), rfl, q _ I.fresh⟩
/-! ### sorted(set(xs)), len(set(xs)) of ints -/
/-- a set that is made just now -/
abbrev setObj0 (w : World) : Obj := { cls := .type "set", dict := none, data := .set #[] 0 (.fresh 0 0 (!w.params.followText "set-order")) }
set_option maxHeartbeats 3200000 in
/-- set(l) of a list of ints -/
theorem set_of_list {P : Program} {w : World} {A : Around} {E : Value → Shared → Prop} {s : Shared} {l : Addr} {xs : Array Value} (ns : List Int) {Q : Value → Shared → Prop} (calm : A.handled = none) (isl : s.heap.IsList l xs) (allI : IntsAre xs.toList ns) (few : ns.length + 1 < scanBound)
    (k : ∀ (h' : Heap) (tk c : Nat), SetR w h' s.heap.objs.size (fun j => decide (j ∈ ns)) c → c ≤ ns.length → (∀ b o, s.heap.get? b = some o → h'.get? b = some o) → Q (.ref s.heap.objs.size) { s with heap := h', toks := tk }) :
    wpAny (model P w) A (call (.type "set") [.ref l]) Q E s := by
  have size : xs.size = ns.length := by rw [← Array.length_toList]; exact IntsAre.length allI
  obtain ⟨c0, tl0, mro⟩ := F.called_set.mro
  have made := F.called_set.made
  have sub := F.called_set.sub
  refine wpAny_call (codeAny_of_tree ?_)
  show wpAny _ _ (callAny (.type "set") _) _ _ s
  refine wpAny_pure ⟨Code.quiet_builtin _ (by decide +kernel), codeAny_builtin F.entry_type_call ?_⟩
  rw [Around.under_plain (weight_type_call_type "set" [.ref l] []) rfl]
  have n1 := F.called_set.notType
  have n2 := F.called_set.canCreate
  have n3 := F.typeCall_set_1 (.ref l)
  repeat (any_goals (first | assumption | wp_step))
  refine codeAny_mono (code_set_led1 (.ref l) (E := E) (Q₁ := fun ob t => ob = .ref s.heap.objs.size ∧ t = { s with heap := s.heap.push (setObj0 w) }) ⟨rfl, rfl⟩) fun res t0 got => ?_
  cases res with
  | error e => exact got
  | ok fl =>
    cases fl with
    | ret ob =>
      obtain ⟨rfl, rfl⟩ := got
      have gS : (s.heap.push (setObj0 w)).get? s.heap.objs.size = some (setObj0 w) := Heap.get?_push_size _ rfl
      have gT : Shared.TypeIs { s with heap := s.heap.push (setObj0 w) } (.ref s.heap.objs.size) "set" := ⟨_, gS, rfl⟩
      have i1 := F.called_set.init.lookup
      have i2 := F.called_set.init.bind (.ref s.heap.objs.size)
      repeat (any_goals (first | assumption | wp_step))
      refine codeAny_mono (codeAny_call_builtin (R := wants (fun r t => r = .none ∧ ∃ h' tk c, t = { s with heap := h', toks := tk } ∧ SetR w h' s.heap.objs.size (fun j => decide (j ∈ ns)) c ∧ c ≤ ns.length ∧ ∀ b o, s.heap.get? b = some o → h'.get? b = some o) E) F.called_set.init.plain F.entry_set_init (check_set_init_1 gT ?_)) fun res2 t2 got2 => ?_
      · obtain ⟨⟨oc, od, ot, os⟩, gl, ec, cap, ed⟩ := isl
        dsimp only at ec ed
        subst ec ed
        have gl' : (s.heap.push (setObj0 w)).get? l = some { cls := .type "list", dict := od, data := .seq xs cap, slots := os } := Heap.get?_push_of_some _ gl
        have x1 := F.sub_list_set
        have x2 := F.sub_list_frozenset
        have x3 : (Value.type "list" == Value.type "dict") = false := by decide
        have isl' : (s.heap.push (setObj0 w)).IsList l xs := ⟨_, gl', rfl, cap, rfl⟩
        unfold Builtin.«set.__init__» noKeywords Builtin.Frozenset.updateFrom
        generalize ePI : pyIter = PI
        wp_walk
        subst ePI
        refine wpAny_pyIter_list isl' ?_
        refine wpAny_bind (wpAny_runValue ?_)
        have low : l < s.heap.objs.size := Heap.lt_size gl
        have calm3 : A.in1.in1.in1.handled = none := by simp [calm]
        have sz1 : (s.heap.push (setObj0 w)).objs.size = s.heap.objs.size + 1 := Heap.size_push ..
        have nI : l ≠ (s.heap.push (setObj0 w)).objs.size := by rw [sz1]; exact Nat.ne_of_lt (Nat.lt_succ_of_lt low)
        have nS : s.heap.objs.size ∉ [(s.heap.push (setObj0 w)).objs.size, l] := by
          rw [sz1]
          intro h
          rcases List.mem_cons.mp h with h | h
          · exact Nat.ne_of_lt (Nat.lt_succ_self _) h
          · rcases List.mem_cons.mp h with h | h
            · exact Nat.ne_of_gt low h
            · cases h
        have val : ∀ (i : Nat) (v : Value), xs[i]? = some v → ∃ k t, ns[i]? = some k ∧ v = .int k t := fun i v hv => by
          have hi : i < ns.length := by rw [← size]; exact (Array.getElem?_eq_some_iff.mp hv).1
          obtain ⟨t, e⟩ := PyProof.Rows.IntsAre.int_at allI i v (by rw [Array.getElem?_toList]; exact hv)
          refine ⟨ns[i], t, List.getElem?_eq_getElem hi, ?_⟩
          rw [e, List.getD_eq_getElem?_getD, List.getElem?_eq_getElem hi] <;> rfl
        refine set_update_ints ((Walks.list calm3 _ l nI xs).toS) s.heap.objs.size nS ns size few val (xs.size - 0) 0 _ (by omega) (Nat.zero_le _) ⟨⟨_, Heap.get?_push_size _ rfl, rfl, rfl⟩, (isl'.push _)⟩ ?zS ?zR
        case zS => exact ⟨0, Nat.le_refl 0, setR_new_at (Heap.get?_push_of_some _ gS)⟩
        case zR =>
          intro t3 c3 mv cl R3
          obtain ⟨h3, g3, d3, k3, o3⟩ := t3
          have e1 : g3 = s.gens := mv.gens
          have e2 : d3 = s.drawn := mv.drawn
          have e3 : o3 = s.os := mv.os
          subst e1 e2 e3
          refine wpAny_pure ?_
          show wpAny _ _ (ret Value.none) _ _ _
          rw [size] at cl
          refine wpAny_pure ⟨rfl, h3, k3, c3, rfl, R3, cl, fun b o e => ?_⟩
          have b0 : b < s.heap.objs.size := Heap.lt_size e
          refine mv.heap b o (fun h => ?_) (Heap.get?_push_of_some _ (Heap.get?_push_of_some _ e))
          rcases List.mem_cons.mp h with h | h
          · exact Nat.ne_of_lt b0 h
          · rcases List.mem_cons.mp h with h | h
            · exact Nat.ne_of_lt (Nat.lt_succ_of_lt b0) (h.trans sz1)
            · cases h
      · cases res2 with
        | error e => exact got2
        | ok fl2 =>
          cases fl2 with
          | ret r =>
            obtain ⟨rfl, h', tk, c, rfl, R3, cl, kp⟩ := got2
            repeat (any_goals (first | assumption | wp_step))
            exact k _ _ _ R3 cl kp
          | _ => exact got2.elim
    | _ => exact got.elim
/-- sorted of a set of ints, of any size -/
theorem sorted_setB {P : Program} {w : World} {A : Around} {E : Value → Shared → Prop} {s : Shared} {a : Addr} {S : Int → Bool} {n : Nat} {Q : Value → Shared → Prop} (R : SetR w s.heap a S n) (hh : A.handled = none) (hs : n ≤ sizeLine)
    (hQ : ∀ s' p (out : List Value) (c : Nat) (ns : List Int), (∀ b o, s.heap.get? b = some o → s'.heap.get? b = some o) → s'.gens = s.gens → s'.os = s.os → s.heap.objs.size ≤ p →
      s'.heap.get? p = some (seqObj "list" out.toArray c) → IntsAre out ns → ns.Pairwise (· < ·) → (∀ k, k ∈ ns ↔ S k = true) → Q (.ref p) s') :
    wpAny (model P w) A (call (.builtin "sorted") [.ref a]) Q E s := by
  obtain ⟨o, es, ep, t, ho, hex, hd, g, nd, hm, hb, hf, hn, hr, hl⟩ := R
  refine Calls.call_function_entry kind_sorted plain_sorted entry_sorted (args_sorted1 _) ?_
  unfold Builtin.«sorted»
  refine wpAny_bind (m := checkCount "sorted" 1 1 _) (wpAny_pure ?_)
  refine wpAny_bind (collect_set (A := A.in1) hh ⟨o, ho, hex.1, hd⟩ hf hb hr hl fun s1 vs k1 hz g1 o1 pm => ?_)
  have hvl : vs.length = n := by rw [pm.length_eq, List.length_map, Array.length_toList]; exact hn
  have hI : IntsAre vs (vs.map SrtO.iv) := SrtO.ints_iv fun v hv => by
    obtain ⟨e, he, q⟩ := List.mem_map.mp (pm.mem_iff.mp hv)
    obtain ⟨k, tk, h1, _⟩ := g e he
    exact ⟨k, tk, by rw [← q]; exact h1⟩
  have hkey : ∀ e ∈ es.toList, SrtO.iv e.2 = keyOf e := fun e he => by
    obtain ⟨k, tk, h1, _⟩ := g e he
    unfold keyOf
    rw [h1]; rfl
  have pk : (vs.map SrtO.iv).Perm (es.toList.map keyOf) := by
    have q := pm.map SrtO.iv
    rw [List.map_map] at q
    rw [show es.toList.map keyOf = es.toList.map (SrtO.iv ∘ fun e => e.2) from List.map_congr_left fun e he => (hkey e he).symm]
    exact q
  refine wpAny_bind (wpAny_newList ?_ (by rw [hvl]; exact hs))
  have hoL : (s1.heap.push (seqObj "list" vs.toArray 0)).get? s1.heap.objs.size = some (seqObj "list" vs.toArray 0) := Heap.get?_push_size _ rfl
  refine wpAny_bind (wpAny_holding (wpAny_call_entry slot_list_sort ⟨_, hoL, rfl⟩ entry_list_sort (SrtO.list_sort_ord SrtO.swo_int hoL (by rw [hvl]; exact hs) (fun h2 => SrtO.ints_sortable hI h2) fun out a1 a2 => ⟨_, rfl, ?_⟩) (args_list_sort _)))
  obtain ⟨k1', k2', k3'⟩ := SrtO.ints_out hI a1 a2
  obtain ⟨c, hc⟩ := sortedHeap_at (vs := vs) (out := out.toArray) hoL
  have pn : (out.map SrtO.iv).Perm (es.toList.map keyOf) := k2'.trans pk
  refine wpAny_pure ⟨_, rfl, hQ _ s1.heap.objs.size out c _ (fun b u e => ?_) g1 o1 hz hc k1' (lt_of_le_nodup _ k3' (pn.nodup_iff.mpr nd)) (fun k => by rw [pn.mem_iff, ← hm k])⟩
  have q := k1 b u e
  have hlt := Heap.lt_size q
  show (sortedHeap (s1.heap.push (seqObj "list" vs.toArray 0)) s1.heap.objs.size vs out.toArray).get? b = some u
  rw [sortedHeap_old (Nat.ne_of_lt hlt) (by rw [size_push']; exact Nat.lt_succ_of_lt hlt)]
  exact Heap.get?_push_of_some _ q
end
end Dz
set_option Elab.async false
set_option linter.all false
set_option maxRecDepth 100000
set_option maxHeartbeats 2000000
/-! Dz: sorted(set(xs)), len(set(xs)); least and greatest tuples. -/
namespace Dz
open PySem PySem.Spec PyProof.Rows L2
section
variable {X : Cx} {a : Expr} {ta : TE} {p p2 q pos : Pos}
def tSSet (K : PySem.W.Frag) (ta : TE) : TE := fun σ H Q => ta σ H fun x H1 => ∃ (l : Addr) (ns : List Int), x = .ref l ∧ SqL K H1 l (ns.map V.int) ∧ ns.length ≤ 4000 ∧
  ∀ (r : List Int) (b : Addr), r.Pairwise (· < ·) → (∀ k, k ∈ r ↔ k ∈ ns) → H1 b = none → Q (.ref b) (upd H1 b (.lst (r.map V.int)))
def tLSet (K : PySem.W.Frag) (ta : TE) : TE := fun σ H Q => ta σ H fun x H1 => ∃ (l : Addr) (ns : List Int), x = .ref l ∧ SqL K H1 l (ns.map V.int) ∧ ns.length ≤ 4000 ∧
  ∀ r : List Int, r.Nodup → (∀ k, k ∈ r ↔ k ∈ ns) → Q (.int (r.length : Nat)) H1
theorem nodup_len : ∀ (l D : List Int), l.Nodup → (∀ x ∈ l, x ∈ D) → l.length ≤ D.length
  | [], _, _, _ => Nat.zero_le _
  | x :: l, D, nd, h => by
    obtain ⟨h1, h2⟩ := List.nodup_cons.mp nd
    have hx : x ∈ D := h x (List.mem_cons_self ..)
    have ih := nodup_len l (D.erase x) h2 fun y hy => by
      have ne : y ≠ x := fun e => h1 (e ▸ hy)
      exact (List.mem_erase_of_ne ne).mpr (h y (List.mem_cons_of_mem _ hy))
    have := List.length_erase_of_mem hx
    have hp : 0 < D.length := List.length_pos_of_mem hx
    rw [List.length_cons]
    omega
theorem small_line {n m : Nat} (h : n ≤ m) (h' : m ≤ 4000) : n ≤ sizeLine := by rw [sizeLine_eq]; omega
theorem sset_end (hc : X.calm = true) {pins : List (Addr × Obj)} {s : Shared} {σ : L2.St} {H : Hp} {Q : VK} {a : Addr} {S : Int → Bool} {n : Nat} (I : Inv X pins σ H s) (R : SetR X.w s.heap a S n) (hs : n ≤ sizeLine)
    (q : ∀ (rs : List Int) (b : Addr), rs.Pairwise (· < ·) → (∀ k, k ∈ rs ↔ S k = true) → H b = none → Q (.ref b) (upd H b (.lst (rs.map V.int)))) : wpAny (model X.prog X.w) X.A (call (.builtin "sorted") [.ref a]) (EP X pins σ Q) X.xe s := by
  refine sorted_setB R (I.ok.hd hc) hs fun s' b out cap rs k g o hp hgt hi hsr hmem => ?_
  have hn : H b = none := I.hok.fresh hp
  have hr : rs.length ≤ sizeLine := by
    obtain ⟨_, es, _, _, _, _, _, _, _, hm2, _, _, hn2, _, _⟩ := R
    have := nodup_len rs (es.toList.map keyOf) (hsr.imp fun h => Int.ne_of_lt h) fun x hx => (hm2 x).mp ((hmem x).mp hx)
    rw [List.length_map] at this
    have h2 : es.toList.length = n := Array.length_toList.trans hn2
    exact Nat.le_trans (h2 ▸ this) hs
  have J : Inv X pins σ (upd H b (.lst (rs.map V.int))) { s with heap := s'.heap, gens := s'.gens, drawn := s'.drawn, toks := s'.toks } :=
    I.call (ch := []) (Un.laid k hp hn) (I.hok.laid k hp ⟨by rw [List.length_map]; exact hr, out, cap, vals_of_ints hi, hgt⟩) (by rw [g]; exact I.bare) (fun _ z => nomatch z)
  have e : s' = { s with heap := s'.heap, gens := s'.gens, drawn := s'.drawn, toks := s'.toks } := by
    cases s'
    cases s
    cases o
    rfl
  rw [e]
  exact ⟨.ref b, _, J, rfl, q rs b hsr hmem hn⟩
theorem pe_sset (hc : X.calm = true) (hg : Gl X "sorted") (hm : X.mg "sorted" = none) (hg2 : Gl X "set") (hm2 : X.mg "set" = none) (ha : PE X a ta)
    (na : starEach [a] X.env = (false, eval a X.env) :: starEach [] X.env) : PE X (.Call (.Name "sorted" p) [.Call (.Name "set" p2) [a] [] q] [] pos) (tSSet X.K ta) := by
  refine ⟨fun pins s σ H Q I h => ?_⟩
  refine Call_ (ld_blt I hg hm boot_sorted ?_)
  refine PyProof.Rows.callWith_builtin1 (PyProof.Rows.args_cons ?_ rfl) rfl rfl
  refine Call_ (ld_blt I hg2 hm2 boot_set ?_)
  refine PyProof.Rows.callWith_type1 (PyProof.Rows.args_cons (thn (ha.run pins s σ H _ I h) fun v s1 ⟨x, H1, I1, r1, q1⟩ => PyProof.Rows.args_nil ?_) na) na rfl
  obtain ⟨l, ns, rfl, hq, hl, q1⟩ := q1
  cases r1
  obtain ⟨its, r, pl, hz⟩ := I1.list hq
  refine set_of_list ns (I1.ok.hd hc) pl.isList (by simpa using RZ.intsAre_vals r) (by unfold scanBound; omega) fun h' tk c R cl kp => ?_
  refine PyProof.Rows.args_nil ?_
  have I2 : Inv X pins σ H1 { s1 with heap := h', toks := tk } := I1.kept kp
  exact sset_end hc I2 R (small_line cl hl) fun rs b hs hmem hn => q1 rs b hs (fun k => by rw [hmem k]; simp) hn
theorem pe_lset (hc : X.calm = true) (hg : Gl X "len") (hm : X.mg "len" = none) (hg2 : Gl X "set") (hm2 : X.mg "set" = none) (ha : PE X a ta)
    (na : starEach [a] X.env = (false, eval a X.env) :: starEach [] X.env) : PE X (.Call (.Name "len" p) [.Call (.Name "set" p2) [a] [] q] [] pos) (tLSet X.K ta) := by
  refine ⟨fun pins s σ H Q I h => ?_⟩
  refine Call_ (ld_blt I hg hm boot_len ?_)
  refine PyProof.Rows.callWith_builtin1 (PyProof.Rows.args_cons ?_ rfl) rfl rfl
  refine Call_ (ld_blt I hg2 hm2 boot_set ?_)
  refine PyProof.Rows.callWith_type1 (PyProof.Rows.args_cons (thn (ha.run pins s σ H _ I h) fun v s1 ⟨x, H1, I1, r1, q1⟩ => PyProof.Rows.args_nil ?_) na) na rfl
  obtain ⟨l, ns, rfl, hq, hl, q1⟩ := q1
  cases r1
  obtain ⟨its, r, pl, hz⟩ := I1.list hq
  refine set_of_list ns (I1.ok.hd hc) pl.isList (by simpa using RZ.intsAre_vals r) (by unfold scanBound; omega) fun h' tk c R cl kp => ?_
  refine PyProof.Rows.args_nil ?_
  obtain ⟨o, es, ep, t, ho, hex, hd, g, nd, hmem, hb, hf, hn, hr, hl2⟩ := R
  have I2 : Inv X pins σ H1 { s1 with heap := h', toks := tk } := I1.kept kp
  have q2 := q1 (es.toList.map keyOf) nd fun k => by
    rw [← hmem k]; simp
  rw [List.length_map, Array.length_toList] at q2
  exact call_len_set ho hex hd hf (by rw [hn]; omega) ⟨.int es.size, H1, I2.tok _, ⟨_, rfl⟩, q2⟩
end
end Dz
set_option Elab.async false
set_option linter.all false
set_option maxRecDepth 100000
set_option maxHeartbeats 2000000
/-! Dz: min(xs) of a list of tuples of ints. -/
namespace Dz
open PySem PySem.Spec PyProof.Rows L2
section
variable {P : Program} {w : World} {A : Around} {R : Result → Shared → Prop} {I : Addr} {fp wr : List Addr} {n : Nat} {Pv : Nat → Value → Prop} {St : Nat → Heap → Prop} {h0 : Heap}
/-- a comparison of two items, told of heaps in which h0 stands -/
def CmpH (P : Program) (w : World) (A : Around) (h0 : Heap) (Pv : Nat → Value → Prop) (bt : Nat → Nat → Bool) : Prop :=
  ∀ i j vi vj (s : Shared) (Q E : Value → Shared → Prop), (∀ b o, h0.get? b = some o → s.heap.get? b = some o) → Pv i vi → Pv j vj → Q (.bool (bt i j)) s → wpAny (model P w) A (richCompare .Lt vi vj) Q E s
theorem dot_loop : (toString "min" ++ toString ".loop" : String) = "min.loop" := by decide
theorem min_turns (W : Walks P w A.in1 I fp wr n Pv St) (bt : Nat → Nat → Bool) (cmp : CmpH P w A.in1 h0 Pv bt) (S : Addr) (nS : S ∉ fp) (n0 : ∀ b o, h0.get? b = some o → b ≠ S ∧ b ∉ wr) :
    ∀ (k j : Nat) (s : Shared) (vb : Value) (c : Nat), n - (j + 1) = k → j + 1 ≤ n → (∀ b o, h0.get? b = some o → s.heap.get? b = some o) → St (j + 1) s.heap → Pv (argBest bt j) vb → s.heap.get? S = some (seqObj "list" #[vb, vb] c) →
    (∀ v h' tk, Pv (argBest bt (n - 1)) v → (∀ b o, b ∉ wr → b ≠ S → s.heap.get? b = some o → h'.get? b = some o) → R (.ok (.ret v)) { s with heap := h', toks := tk }) →
    codeAny (model P w) A (.builtin "min.loop" ⟨[.ref I, .none, .ref S], []⟩) R s
  | 0, j, s, vb, c, e, le, k0, st, pv, gS, fin => by
    have nw : S ∉ wr := fun z => nS (W.sub _ z)
    have last : j + 1 = n := by omega
    refine codeAny_builtin F.entry_min_loop ?_
    rw [Around.under_plainId F.plain_min_loop _]
    refine wpAny_bind (m := seqItems? (.ref S)) (wpAny_seqItems gS rfl ?_)
    refine wpAny_bind (wpAny_tryCatch (W.done s _ _ (last ▸ st) fun h' tk kp => ?_))
    refine wpAny_bind (m := updateSeq S fun _ => #[]) (wpAny_updateSeq (kp S _ nw gS) rfl (wpAny_bind (wpAny_letGo (wpAny_pure ?_))))
    exact fin vb _ tk (by rw [← last]; exact pv) fun b o nb ns e => (Heap.get?_update_other _ _ (Ne.symm ns)).trans (kp b o nb e)
  | k + 1, j, s, vb, c, e, le, k0, st, pv, gS, fin => by
    have nw : S ∉ wr := fun z => nS (W.sub _ z)
    have more : j + 1 < n := by omega
    refine codeAny_builtin F.entry_min_loop ?_
    rw [Around.under_plainId F.plain_min_loop _]
    refine wpAny_bind (m := seqItems? (.ref S)) (wpAny_seqItems gS rfl ?_)
    refine wpAny_bind (wpAny_tryCatch (W.item (j + 1) s _ _ more st fun v h' tk pv' st' kp => ?_))
    have gS' := kp S _ nw gS
    have k1 : ∀ b o, h0.get? b = some o → h'.get? b = some o := fun b o q => kp b o (n0 b o q).2 (k0 b o q)
    show wpAny _ A.in1 (tryCatch (holding [v, v] (richCompare CmpOp.Lt v vb >>= _)) _ >>= _) _ _ _
    refine wpAny_bind (wpAny_tryCatch (wpAny_holding (wpAny_bind (cmp (j + 1) (argBest bt j) v vb _ _ _ k1 pv' pv ?_))))
    refine wpAny_bind (wpAny_holding (wpAny_truthy_bool ?_))
    refine wpAny_bind (wpAny_letGo (wpAny_pure ?_))
    cases less : bt (j + 1) (argBest bt j) with
    | true =>
      simp only [if_true]
      refine wpAny_bind (m := updateSeq S fun _ => #[v, v]) (wpAny_updateSeq gS' rfl (wpAny_bind (wpAny_letGo ?_)))
      rw [dot_loop]
      refine wpAny_pure ⟨plainId_quiet F.plain_min_loop _, min_turns W bt cmp S nS n0 k (j + 1) _ v _ (by omega) more (fun b o q => ?_) (W.frame _ _ _ st' fun b hb o q => ?_) (by simp only [argBest, less, if_true]; exact pv') (Heap.get?_update_self _ gS' rfl) fun v2 h2 t2 p2 kp2 => ?_⟩
      · exact (Heap.get?_update_other _ _ (Ne.symm (n0 b o q).1)).trans (k1 b o q)
      · exact (Heap.get?_update_other _ _ (fun z : S = b => nS (z ▸ hb))).trans q
      · exact fin v2 h2 t2 p2 fun b o nb ns q => kp2 b o nb ns ((Heap.get?_update_other _ _ (Ne.symm ns)).trans (kp b o nb q))
    | false =>
      simp only [Bool.false_eq_true, if_false]
      refine wpAny_bind (wpAny_letGo ?_)
      rw [dot_loop]
      refine wpAny_pure ⟨plainId_quiet F.plain_min_loop _, min_turns W bt cmp S nS n0 k (j + 1) _ vb c (by omega) more k1 st' (by simp only [argBest, less, Bool.false_eq_true, if_false]; exact pv) gS' fun v2 h2 t2 p2 kp2 => ?_⟩
      exact fin v2 h2 t2 p2 fun b o nb ns q => kp2 b o nb ns (kp b o nb q)
theorem min_first (W : Walks P w A.in1 I fp wr n Pv St) (bt : Nat → Nat → Bool) (cmp : CmpH P w A.in1 h0 Pv bt) (S : Addr) (nS : S ∉ fp) (n0 : ∀ b o, h0.get? b = some o → b ≠ S ∧ b ∉ wr) (pos : 0 < n) {s : Shared} {c : Nat} (k0 : ∀ b o, h0.get? b = some o → s.heap.get? b = some o) (st : St 0 s.heap) (gS : s.heap.get? S = some (seqObj "list" #[] c))
    (fin : ∀ v h' tk, Pv (argBest bt (n - 1)) v → (∀ b o, b ∉ wr → b ≠ S → s.heap.get? b = some o → h'.get? b = some o) → R (.ok (.ret v)) { s with heap := h', toks := tk }) :
    codeAny (model P w) A (.builtin "min.loop" ⟨[.ref I, .none, .ref S], []⟩) R s := by
  have nw : S ∉ wr := fun z => nS (W.sub _ z)
  refine codeAny_builtin F.entry_min_loop ?_
  rw [Around.under_plainId F.plain_min_loop _]
  refine wpAny_bind (m := seqItems? (.ref S)) (wpAny_seqItems gS rfl ?_)
  refine wpAny_bind (wpAny_tryCatch (W.item 0 s _ _ pos st fun v h' tk pv st' kp => ?_))
  have gS' := kp S _ nw gS
  refine wpAny_bind (m := updateSeq S fun _ => #[v, v]) (wpAny_updateSeq gS' rfl ?_)
  rw [dot_loop]
  refine wpAny_pure ⟨plainId_quiet F.plain_min_loop _, min_turns W bt cmp S nS n0 _ 0 _ v _ rfl pos (fun b o q => ?_) (W.frame _ _ _ st' fun b hb o q => ?_) pv (Heap.get?_update_self _ gS' rfl) fun v2 h2 t2 p2 kp2 => ?_⟩
  · exact (Heap.get?_update_other _ _ (Ne.symm (n0 b o q).1)).trans (kp b o (n0 b o q).2 (k0 b o q))
  · exact (Heap.get?_update_other _ _ (fun z : S = b => nS (z ▸ hb))).trans q
  · exact fin v2 h2 t2 p2 fun b o nb ns q => kp2 b o nb ns ((Heap.get?_update_other _ _ (Ne.symm ns)).trans (kp b o nb q))
end
section
variable {X : Cx}
/-- the list is one of tuples of ints -/
def TupsL (K : PySem.W.Frag) (H : Hp) (a : Addr) (nss : List (List Int)) : Prop := ∃ ts : List Addr, SqL K H a (ts.map V.ref) ∧ Paired (fun t ns => SqT K H t (ns.map V.int)) ts nss
theorem argBest_le (bt : Nat → Nat → Bool) : ∀ k, argBest bt k ≤ k
  | 0 => Nat.le_refl _
  | k + 1 => by
    unfold argBest
    split
    · exact Nat.le_refl _
    · exact Nat.le_succ_of_le (argBest_le bt k)
theorem lexLt_irrefl : ∀ ns : List Int, HT.lexLt ns ns = false
  | [] => rfl
  | x :: xs => by
    unfold HT.lexLt
    rw [if_pos rfl]
    exact lexLt_irrefl xs
theorem lexLt_trans : ∀ {a b c : List Int}, HT.lexLt a b = true → HT.lexLt b c = true → HT.lexLt a c = true
  | [], [], _, h, _ => by cases h
  | [], _ :: _, [], _, h => by cases h
  | [], _ :: _, _ :: _, _, _ => rfl
  | _ :: _, [], _, h, _ => by cases h
  | _ :: _, _ :: _, [], _, h => by cases h
  | x :: xs, y :: ys, z :: zs, h1, h2 => by
    unfold HT.lexLt at h1 h2 ⊢
    split at h1
    · next e =>
      subst e
      split at h2
      · next e2 => rw [if_pos e2]; exact lexLt_trans h1 h2
      · next e2 => rw [if_neg e2]; exact h2
    · next e =>
      have h1' := of_decide_eq_true h1
      split at h2
      · next e2 =>
        subst e2
        rw [if_neg e]; exact h1
      · next e2 =>
        have h2' := of_decide_eq_true h2
        rw [if_neg (by omega)]
        exact decide_eq_true (by omega)
theorem lexLt_total : ∀ {a b : List Int}, HT.lexLt a b = false → a = b ∨ HT.lexLt b a = true
  | [], [], _ => .inl rfl
  | [], _ :: _, h => by cases h
  | _ :: _, [], _ => .inr rfl
  | x :: xs, y :: ys, h => by
    unfold HT.lexLt at h
    split at h
    · next e =>
      subst e
      rcases lexLt_total h with e | e
      · exact .inl (by rw [e])
      · refine .inr ?_
        unfold HT.lexLt
        rw [if_pos rfl]
        exact e
    · next e =>
      have h' := of_decide_eq_false h
      refine .inr ?_
      unfold HT.lexLt
      rw [if_neg (fun z => e z.symm)]
      exact decide_eq_true (by omega)
theorem best_least {f : Nat → List Int} : ∀ k j, j ≤ k → HT.lexLt (f j) (f (argBest (fun i j => HT.lexLt (f i) (f j)) k)) = false
  | 0, j, h => by
    have : j = 0 := by omega
    subst this
    exact lexLt_irrefl _
  | k + 1, j, h => by
    unfold argBest
    split
    · next c =>
      by_cases e : j = k + 1
      · rw [e]; exact lexLt_irrefl _
      · have ih := best_least (f := f) k j (by omega)
        cases q : HT.lexLt (f j) (f (k + 1)) with
        | false => rfl
        | true => rw [lexLt_trans q c] at ih; cases ih
    · next c =>
      by_cases e : j = k + 1
      · rw [e]; exact eq_false_of_ne_true c
      · exact best_least k j (by omega)
def rMinT (K : PySem.W.Frag) : List V → Hp → VK → Prop := fun vs H Q => ∃ (a : Addr) (nss : List (List Int)), vs = [V.ref a] ∧ TupsL K H a nss ∧ nss ≠ [] ∧
  ∀ (j : Nat) (v : V) (m : List Int), nss[j]? = some m → (∀ y ∈ nss, HT.lexLt y m = false) → (∀ xs, SqL K H a xs → xs[j]? = some v) → Q v H
theorem Paired.get {α β : Type} {R : α → β → Prop} : ∀ {xs : List α} {ys : List β} {i : Nat} {x : α}, Paired R xs ys → xs[i]? = some x → ∃ y, ys[i]? = some y ∧ R x y
  | _, _, _, _, .nil, e => by simp at e
  | _, _, 0, _, .cons h _, e => by simp at e; subst e; exact ⟨_, rfl, h⟩
  | _, _, i + 1, _, .cons _ r, e => by
    obtain ⟨y, e1, e2⟩ := Paired.get (i := i) r (by simpa using e)
    exact ⟨y, by simpa using e1, e2⟩
theorem cr_minT (hc : X.calm = true) (hu : X.A.units + 8 < cLine) : CallR X (.builtin "min") (rMinT X.K) := by
  intro pins s σ H vs us Q I r h
  obtain ⟨a, nss, rfl, ⟨ts, hs, pr⟩, hne, q⟩ := h
  obtain ⟨its, rv, hl, _⟩ := I.list hs
  rw [Vals.ref1 r]
  have ll : its.length = nss.length := by rw [← rv.length, List.length_map]; exact pr.length
  have h0 : 0 < nss.length := List.length_pos_iff.mpr hne
  let f : Nat → List Int := fun i => nss.getD i []
  have item : ∀ (i : Nat) (v : Value), its.toArray[i]? = some v → ∃ t, v = .ref t ∧ SqT X.K H t ((f i).map V.int) := fun i v hv => by
    have hv' : its[i]? = some v := by simpa using hv
    have hi : i < ts.length := by
      have := (List.getElem?_eq_some_iff.mp hv').1
      have e := rv.length
      rw [List.length_map] at e
      omega
    obtain ⟨u, hu1, ru⟩ := rv.get (show (ts.map V.ref)[i]? = some (V.ref ts[i]) by rw [List.getElem?_map, List.getElem?_eq_getElem hi]; rfl)
    rw [hu1] at hv'
    cases hv'
    obtain ⟨m, em, rm⟩ := Paired.get pr (List.getElem?_eq_getElem hi)
    refine ⟨ts[i], ru, ?_⟩
    show SqT X.K H ts[i] ((nss.getD i []).map V.int)
    rw [List.getD_eq_getElem?_getD, em]
    exact rm
  refine call_function_tree F.kind_min F.plain_min F.entry_min (F.args_min1 _) ?_
  refine wpAny_bind (m := Builtin.Builtins.bindParams "min" ["key", "default"] 0 ⟨[], []⟩) (wpAny_of_eq (show Builtin.Builtins.bindParams "min" ["key", "default"] 0 ⟨[], []⟩ = pure [none, none] from rfl) ?_)
  refine wpAny_bind (wpAny_pure ?_)
  obtain ⟨oa, ga, ca, na, da⟩ := hl.isList
  have lt : a < s.heap.objs.size := Heap.lt_size ga
  refine wpAny_bind (wpAny_pyIter_list hl.isList ?_)
  have sz1 : (s.heap.push ({ cls := .type "list_iterator", data := .fields #[.ref a, .int 0 0] } : Obj)).objs.size = s.heap.objs.size + 1 := Heap.size_push ..
  refine wpAny_bind (wpAny_newObj_type ?_)
  rw [dot_loop]
  have old : ∀ b o, s.heap.get? b = some o → b ≠ (s.heap.push ({ cls := .type "list_iterator", data := .fields #[.ref a, .int 0 0] } : Obj)).objs.size ∧ b ∉ [s.heap.objs.size] := fun b o e => by
    have hb : b < s.heap.objs.size := Heap.lt_size e
    rw [sz1]
    exact ⟨Nat.ne_of_lt (Nat.lt_succ_of_lt hb), fun z => Nat.ne_of_lt hb (List.mem_singleton.mp z)⟩
  have keep : ∀ b o, s.heap.get? b = some o → ((s.heap.push ({ cls := .type "list_iterator", data := .fields #[.ref a, .int 0 0] } : Obj)).push ({ cls := .type "list", data := .seq ([] : List Value).toArray } : Obj)).get? b = some o := fun b o e => Heap.get?_push_of_some _ (Heap.get?_push_of_some _ e)
  have W := Walks.list (prog := X.prog) (w := X.w) (A := X.A.in1) (by have := I.ok.hd hc; simp [this]) s.heap.objs.size a (Nat.ne_of_lt lt) its.toArray
  refine wpAny_pure ⟨plainId_quiet F.plain_min_loop _, min_first (h0 := s.heap) W (fun i j => HT.lexLt (f i) (f j)) (fun i j vi vj s' Q' E' kp pi pj hq => ?_) _ ?_ old (by rw [List.size_toArray, ll]; exact h0) keep ?_ (Heap.get?_push_size _ rfl) fun v h' tk pv kp => ?_⟩
  · obtain ⟨t1, e1, q1⟩ := item i vi pi
    obtain ⟨t2, e2, q2⟩ := item j vj pj
    subst e1 e2
    obtain ⟨i1, r1, ⟨o1, g1, c1, n1, d1⟩, _⟩ := I.tuple q1
    obtain ⟨i2, r2, ⟨o2, g2, c2, n2, d2⟩, _⟩ := I.tuple q2
    exact HT.lt_tupInts (items := i1.toArray) (items2 := i2.toArray) (ns := f i) (ms := f j) ⟨o1, kp _ _ g1, c1, n1, d1⟩ ⟨o2, kp _ _ g2, c2, n2, d2⟩ (intsAre_of r1) (intsAre_of r2) (show X.A.units + 1 < cLine by omega) hq
  · rw [sz1]
    intro z
    rcases List.mem_cons.mp z with z | z
    · exact Nat.ne_of_gt (Nat.lt_succ_self _) z
    · exact Nat.ne_of_gt (Nat.lt_succ_of_lt lt) (List.mem_singleton.mp z)
  · exact ⟨⟨_, Heap.get?_push_of_some _ (Heap.get?_push_size _ rfl), rfl, rfl⟩, (hl.isList.push _).push _⟩
  · have ee : its.toArray.size - 1 = nss.length - 1 := by rw [List.size_toArray, ll]
    rw [ee] at pv
    have hj : argBest (fun i j => HT.lexLt (f i) (f j)) (nss.length - 1) < nss.length := by
      have := argBest_le (fun i j => HT.lexLt (f i) (f j)) (nss.length - 1)
      omega
    have hk : ∀ b o, s.heap.get? b = some o → h'.get? b = some o := fun b o e => kp b o (old b o e).2 (old b o e).1 (keep b o e)
    have pv' : its[argBest (fun i j => HT.lexLt (f i) (f j)) (nss.length - 1)]? = some v := by simpa using pv
    obtain ⟨t, et, qt⟩ := item _ v pv
    subst et
    refine ⟨.ref t, H, I.kept hk, rfl, q _ _ _ (List.getElem?_eq_getElem hj) (fun y hy => ?_) fun xs hxs => ?_⟩
    · obtain ⟨i, hi, ei⟩ := List.mem_iff_getElem.mp hy
      have b := best_least (f := f) (nss.length - 1) i (by omega)
      have e1 : f i = y := by
        show nss.getD i [] = y
        rw [List.getD_eq_getElem?_getD, List.getElem?_eq_getElem hi, ← ei]
        rfl
      have e2 : f (argBest (fun i j => HT.lexLt (f i) (f j)) (nss.length - 1)) = nss[argBest (fun i j => HT.lexLt (f i) (f j)) (nss.length - 1)] := by
        show nss.getD _ [] = _
        rw [List.getD_eq_getElem?_getD, List.getElem?_eq_getElem hj]
        rfl
      rw [e1, e2] at b
      exact b
    · have ex := I.list_inj hxs hs
      rw [ex, List.getElem?_map]
      have hjt : argBest (fun i j => HT.lexLt (f i) (f j)) (nss.length - 1) < ts.length := by rw [pr.length]; exact hj
      obtain ⟨u, hu1, ru⟩ := rv.get (show (ts.map V.ref)[argBest (fun i j => HT.lexLt (f i) (f j)) (nss.length - 1)]? = some (V.ref ts[argBest (fun i j => HT.lexLt (f i) (f j)) (nss.length - 1)]) by rw [List.getElem?_map, List.getElem?_eq_getElem hjt]; rfl)
      rw [hu1] at pv'
      cases pv'
      cases ru
      rw [List.getElem?_eq_getElem hjt]
      rfl
end
end Dz
set_option Elab.async false
set_option linter.all false
set_option maxRecDepth 100000
set_option maxHeartbeats 4000000
/-! Dz: tuple * 0, tuple * 1. -/
namespace Dz
open PySem PySem.Spec PyProof.Rows L2
theorem tup_times1 (l : Addr) (items : Array Value) (n : Nat) (dd : Option Addr) (sl : Array (Option Value)) (u : Tok) :
    Meets (Builtin.«tuple.__mul__» ⟨[.ref l, .int 1 u], []⟩) (fun _ R s => s.heap.get? l = some { cls := .type "tuple", dict := dd, data := .seq items n, slots := sl } ∧ R (.ok (.ret (Value.ref l))) s) :=
  .of_wp fun prog w A R s h => by
    obtain ⟨hp, g, d, tk, os⟩ := s
    obtain ⟨hl, h⟩ := h
    have f1 := AutoSeq1.idx_int
    have c1 : (items.isEmpty || (1 : Int) == 1) = true := by simp
    wp_walk using wpAny_loadPart' hl
    repeat (first
      | (refine wpAny_ite_true (decide_eq_true (by rw [c1])) ?_; wp_walk using wpAny_loadPart' hl)
      | (exact ⟨_, rfl, h⟩))
theorem tup_times0 (l : Addr) (items : Array Value) (n : Nat) (dd : Option Addr) (sl : Array (Option Value)) (u : Tok) (x : Int) (hx : x ≤ 0) (hx' : -(2 ^ 63) ≤ x) (hi : items.isEmpty = false) :
    Meets (Builtin.«tuple.__mul__» ⟨[.ref l, .int x u], []⟩) (fun _ R s => s.heap.get? l = some { cls := .type "tuple", dict := dd, data := .seq items n, slots := sl } ∧
      R (.ok (.ret (Value.ref s.heap.objs.size))) { s with heap := s.heap.push { cls := Value.type "tuple", data := Data.seq #[] } }) :=
  .of_wp fun prog w A R s h => by
    obtain ⟨hp, g, d, tk, os⟩ := s
    obtain ⟨hl, h⟩ := h
    have f1 := AutoSeq1.idx_int
    have c0 : (decide (x < -(2 ^ 63)) || decide (x ≥ 2 ^ 63)) = false := by
      rw [decide_eq_false (by omega), decide_eq_false (by omega)]; rfl
    have c1 : (items.isEmpty || x == 1) = false := by
      rw [hi, Bool.false_or]
      exact beq_eq_false_iff_ne.mpr (by omega)
    have c2 : (decide (x ≤ 0) || items.isEmpty) = true := by rw [decide_eq_true hx]; rfl
    wp_walk using wpAny_loadPart' hl
    repeat (first
      | (refine wpAny_ite_false (decide_eq_false (by rw [c0]; exact Bool.false_ne_true)) ?_; wp_walk using wpAny_loadPart' hl)
      | (refine wpAny_ite_false (decide_eq_false (by rw [c1]; exact Bool.false_ne_true)) ?_; wp_walk using wpAny_loadPart' hl)
      | (refine wpAny_ite_true (decide_eq_true (by rw [c2])) ?_; wp_walk using wpAny_loadPart' hl))
    exact ⟨_, rfl, h⟩
def rRepA (K : PySem.W.Frag) : R2 := fun x y H Q => ∃ l k xs, x = .ref l ∧ y = .int k ∧ SqT K H l xs ∧ xs ≠ [] ∧ -(2 ^ 62) ≤ k ∧ k ≤ 1000 ∧ xs.length ≤ 1000 ∧ (k = 1 → Q (.ref l) H) ∧ (k ≠ 1 → ∀ p, H p = none → Q (.ref p) (upd H p (.tup (List.replicate k.toNat xs).flatten)))
theorem op_repA {X : Cx} : OpR X (binaryOp .Mult) (rRepA X.K) := by
  intro pins s σ H x y v u Q I rx ry h
  obtain ⟨l, k, xs, rfl, rfl, hT, hne, h0, h1, hz, q1, q2⟩ := h
  by_cases big : 2 ≤ k
  · exact op_repT pins s σ H _ _ v u Q I rx ry ⟨l, k, xs, rfl, rfl, hT, hne, big, h1, hz, q2 (by omega)⟩
  cases rx
  obtain ⟨t, rfl⟩ := ry
  obtain ⟨its, r, ⟨⟨cls, dd, data, sl⟩, ho, hc, n, hd⟩, hs⟩ := I.tuple hT
  simp only at hc hd
  subst hc hd
  have road : ∀ {R : Value → Shared → Prop}, (Meets (Builtin.«tuple.__mul__» ⟨[.ref l, .int k t], []⟩) (fun _ R s => s.heap.get? l = some { cls := .type "tuple", dict := dd, data := .seq its.toArray n, slots := sl } ∧ R (.ok (.ret (Value.ref l))) s) ∧ R (.ref l) s) ∨
      (Meets (Builtin.«tuple.__mul__» ⟨[.ref l, .int k t], []⟩) (fun _ R s => s.heap.get? l = some { cls := .type "tuple", dict := dd, data := .seq its.toArray n, slots := sl } ∧ R (.ok (.ret (Value.ref s.heap.objs.size))) { s with heap := s.heap.push { cls := Value.type "tuple", data := Data.seq #[] } }) ∧ R (.ref s.heap.objs.size) { s with heap := s.heap.push { cls := Value.type "tuple", data := Data.seq #[] } }) →
      wpAny (model X.prog X.w) X.A (binaryOp .Mult (.ref l) (.int k t)) R X.xe s := fun {R} w => by
    refine wpAny_binaryOp_repeat_ref (T := "tuple") (U := "int") (by decide) ⟨_, ho, rfl⟩ (fun s' => typeIs_int s' k t) noFill_tuple_mul F.fills_int_mul F.slot_int_rmul repeat_tuple F.slot_int_index.lookup
      (call_meets F.slot_int_rmul (typeIs_int s k t) F.entry_int_rmul (F.args_int_rmul_2 _ _) (int_rmul_tuple k t l its.toArray n dd sl) ⟨ho, rfl, ⟨_, ho, rfl⟩, ?_⟩)
    rcases w with ⟨m, w⟩ | ⟨m, w⟩
    · exact call_meets F.slot_tuple_mul ⟨_, ho, rfl⟩ F.entry_tuple_mul (F.args_tuple_mul_2 _ _) m ⟨ho, w⟩
    · exact call_meets F.slot_tuple_mul ⟨_, ho, rfl⟩ F.entry_tuple_mul (F.args_tuple_mul_2 _ _) m ⟨ho, w⟩
  by_cases one : k = 1
  · subst one
    exact road (.inl ⟨tup_times1 l its.toArray n dd sl t, .ref l, H, I, rfl, q1 rfl⟩)
  · have hi : its.toArray.isEmpty = false := by
      have hle : its.length = xs.length := r.length.symm
      cases its with
      | nil => exact absurd (List.eq_nil_of_length_eq_zero hle.symm) hne
      | cons a b => rfl
    have q3 := q2 one
    have kz : k.toNat = 0 := by omega
    rw [kz] at q3
    refine road (.inr ⟨tup_times0 l its.toArray n dd sl t k (by omega) (by omega) hi, .ref s.heap.objs.size, _, I.laid (t' := s.toks) (o := .tup []) (fun b ob q => Heap.get?_push_of_some _ q) (Nat.le_refl _) ⟨by decide, [], .nil, IsTup.new _ _⟩, rfl, q3 _ (I.hok.fresh (Nat.le_refl _))⟩)
end Dz
set_option Elab.async false
set_option linter.all false
set_option maxRecDepth 100000
set_option maxHeartbeats 4000000
/-! Dz: list * int, however the list is known. -/
namespace Dz
open PySem PySem.Spec PyProof.Rows L2
theorem int_times_list (a : Int) (t : Tok) (l : Addr) (items : Array Value) (n : Nat) (od : Option Addr) (os : Array (Option Value)) :
    Meets (Builtin.«int.__rmul__» ⟨[.int a t, .ref l], []⟩) (fun _ R s => s.heap.get? l = some { cls := .type "list", dict := od, data := .seq items n, slots := os } ∧ R (.ok (.ret Value.notImplemented)) s) :=
  .of_wp fun prog w A R s h => by
    obtain ⟨hp, g, d, tk, qs⟩ := s
    obtain ⟨at_l, fin⟩ := h
    wp_walk using PySem.AutoSeq1.wpAny_loadPart' at_l
    exact ⟨_, rfl, fin⟩
theorem list_times (l : Addr) (items : Array Value) (n : Nat) (od : Option Addr) (os : Array (Option Value)) (x : Int) (u : Tok) (c0 : ¬(!Builtin.List.listFitsIndex x) = true) (c1 : ¬items.size * x.toNat > (2 ^ 63 - 1) / 8) (c2 : ¬Builtin.List.listTooLong (items.size * x.toNat) = true) :
    Meets (Builtin.«list.__mul__» ⟨[.ref l, .int x u], []⟩) (fun _ R s => s.heap.get? l = some { cls := .type "list", dict := od, data := .seq items n, slots := os } ∧
      R (.ok (.ret (Value.ref s.heap.objs.size))) { s with heap := s.heap.push { cls := Value.type "list", data := Data.seq (List.foldl (fun a b => a ++ b) #[] (List.replicate (if items.isEmpty = true then 0 else x.toNat) items)) }, toks := s.toks }) :=
  .of_wp fun prog w A R s h => by
    obtain ⟨hp, g, d, tk, qs⟩ := s
    obtain ⟨at_l, fin⟩ := h
    have fits := PySem.AutoListH.joined_fits c2
    wp_walk using PySem.AutoSeq1.wpAny_loadPart' at_l
    refine wpAny_ite_false (decide_eq_false (Nat.not_lt.mpr fits)) ?_
    wp_walk using PySem.AutoSeq1.wpAny_loadPart' at_l
    exact ⟨_, rfl, fin⟩
def rRepL (K : PySem.W.Frag) : R2 := fun x y H Q => ∃ l k xs, x = .ref l ∧ y = .int k ∧ SqL K H l xs ∧ -(2 ^ 63) ≤ k ∧ k < 2 ^ 63 ∧ xs.length * k.toNat ≤ sizeLine ∧ ∀ p, H p = none → Q (.ref p) (upd H p (.lst (List.replicate k.toNat xs).flatten))
theorem op_repL {X : Cx} : OpR X (binaryOp .Mult) (rRepL X.K) := by
  intro pins s σ H x y v u Q I rx ry h
  obtain ⟨l, k, xs, rfl, rfl, hl, h1, h2, hz, q⟩ := h
  cases rx
  obtain ⟨t, rfl⟩ := ry
  obtain ⟨its, r, pl, _⟩ := I.list hl
  obtain ⟨⟨oc, od, ot, os⟩, at_l, ec, n, ed⟩ := pl.isList
  dsimp only at ec ed
  subst ec ed
  have len : its.toArray.size * k.toNat ≤ sizeLine := by rw [List.size_toArray, ← r.length]; exact hz
  have cap : ¬ its.toArray.size * k.toNat > (2 ^ 63 - 1) / 8 := by
    have : (sizeLine : Nat) ≤ (2 ^ 63 - 1) / 8 := by decide
    omega
  have fit : ¬ (!Builtin.List.listFitsIndex k) = true := by
    rw [fitsIndex_both h1 h2]
    exact Bool.false_ne_true
  have short : ¬ Builtin.List.listTooLong (its.toArray.size * k.toNat) = true := by
    rw [notLongL len]
    exact Bool.false_ne_true
  have made : List.foldl (fun a b => a ++ b) #[] (List.replicate (if its.toArray.isEmpty = true then 0 else k.toNat) its.toArray) = (List.replicate k.toNat its).flatten.toArray := by
    have f0 : ∀ m : Nat, List.foldl (fun a b => a ++ b) #[] (List.replicate m its.toArray) = (List.replicate m its).flatten.toArray := fun m => by
      have q := foldl_rep its m []
      rw [List.nil_append] at q
      exact q
    rw [f0]
    cases its with
    | nil => simp
    | cons a b => rw [if_neg (by simp)]
  refine wpAny_binaryOp_repeat_ref (T := "list") (U := "int") (by decide) ⟨_, at_l, rfl⟩ (fun s' => typeIs_int s' k t) noFill_list_mul F.fills_int_mul F.slot_int_rmul repeat_list F.slot_int_index.lookup
    (call_meets F.slot_int_rmul (typeIs_int s k t) F.entry_int_rmul (F.args_int_rmul_2 _ _) (int_times_list k t l its.toArray n od os)
      ⟨at_l, rfl, ⟨_, at_l, rfl⟩, call_meets F.slot_list_mul ⟨_, at_l, rfl⟩ F.entry_list_mul (F.args_list_mul_2 _ _) (list_times l its.toArray n od os k t fit cap short) ⟨at_l, ?_⟩⟩)
  rw [made]
  exact ⟨.ref _, _, I.lnew (t' := s.toks) (r.rep k.toNat) (by rw [PyProof.Rows.lm_len_rep_flat, Nat.mul_comm]; exact hz), rfl, q _ I.fresh⟩
end Dz
set_option Elab.async false
set_option linter.all false
set_option maxRecDepth 100000
/-! Dz: each construct's rule over data. -/
namespace Dz
open PySem PySem.Spec PyProof.Rows L2
section
variable {K : PySem.W.Frag} {B : Wish} {W : WX} {md md1 : Md} {ast : Option Addr} {F H F1 H1 : Hp} {σ : L2.St} {X : XR} {R R1 : Rs} {Q Q1 : VK} {ρ : Ev} {g g1 : Nat}
theorem Step.none_back (s : Step ast F H F1 H1) {a : Addr} (n : ast ≠ some a) (h : H1 a = none) : H a = none := by
  cases e : H a with
  | none => rfl
  | some o => exact absurd h (s.dom a (by rw [e]; exact fun z => nomatch z))
theorem Goal.later (G : Goal K B W md ast F H σ X R Q) (s : Step ast F H F1 H1) : Goal K B W md ast F1 H1 σ X R Q where
  ok := fun v F' H' d g s' fh st vv r => G.ok v F' H' d g (s.trans s') fh st (by
    cases md with
    | st => exact vv
    | tp => exact vv
    | fr =>
      obtain ⟨a, e, n, m, o⟩ := vv
      exact ⟨a, e, s.none_back m n, m, o⟩) r
  ex := fun x c F' H' g s' fh st q b => G.ex x c F' H' g (s.trans s') fh st q b
theorem Goal.sub (G : Goal K B W md ast F H σ X R Q) (ok : ∀ v F' H' d g, Step ast F H F' H' → Same F' H' → StOk K B F' H' ast g → Val K md1 ast H F' H' v d → R1 d g → Q1 v H') : Goal K B W md1 ast F H σ X R1 Q1 := ⟨ok, G.ex⟩
/-- the state behind a step, and what is left of the goal -/
theorem Goal.go (G : Goal K B W md ast F H σ X R Q) (s : SRc K B F H ast σ ρ g) {t : Md} {R1 : Rs} {Q1 : VK}
    (ok : ∀ v F' H' d g', Step ast F H F' H' → SRc K B F' H' ast σ ρ g' → Goal K B W md ast F' H' σ X R Q → Val K t ast H F' H' v d → R1 d g' → Q1 v H') : Goal K B W t ast F H σ X R1 Q1 :=
  G.sub fun v F' H' d g' st fh so vv r => ok v F' H' d g' st (s.step st fh so) (G.later st) vv r
/-- an end that stands still, without a change -/
theorem Goal.here (G : Goal K B W .st ast F H σ X R Q) (s : SRc K B F H ast σ ρ g) {v : V} {d : D} (r : Rp K F v d) (q : R d g) : Q v H := G.ok v F H d g (Step.refl _ _ _) s.fh s.st r q
theorem Goal.hereT (G : Goal K B W .tp ast F H σ X R Q) (s : SRc K B F H ast σ ρ g) {v : V} {d : D} (r : Top K ast F H v d) (q : R d g) : Q v H := G.ok v F H d g (Step.refl _ _ _) s.fh s.st r q
/-- an end behind new objects -/
theorem Goal.grown (G : Goal K B W .st ast F H σ X R Q) (s : SRc K B F H ast σ ρ g) {v : V} {d : D} {F' H' : Hp} (gr : Grow F H F' H') (fh : Same F' H') (r : Rp K F' v d) (q : R d g) : Q v H' := G.ok v F' H' d g gr.step fh (gr.st s.st) r q
end

/-- what is new and nobody's is said to stand still -/
theorem Goal.freeze {K : PySem.W.Frag} {B : Wish} {W : WX} {ast : Option Addr} {F H : Hp} {σ : L2.St} {X : XR} {R : Rs} {Q : VK} (G : Goal K B W .st ast F H σ X R Q) (fh : Same F H) : Goal K B W .fr ast F H σ X R Q where
  ok := fun v F' H' d g s fh' st vv r => by
    obtain ⟨a, e, n, m, o⟩ := vv
    subst e
    obtain ⟨ob, eo⟩ := o.there
    have fa : F' a = none := o.1
    have nF : F a = none := fh.free n
    have sF : Same F' (upd F' a ob) := same_upd fa
    refine G.ok _ (upd F' a ob) H' d g ⟨s.same.trans sF, s.pres, s.dom, fun b hb f nb => ?_⟩ (fun b o' e' => ?_) ?_ ?_ r
    · have hba : b ≠ a := fun z => hb (by rw [z]; exact n)
      rw [upd_ne hba]
      exact s.new b hb f nb
    · by_cases hb : b = a
      · subst hb
        rw [upd_same] at e'
        cases e'
        exact eo
      · rw [upd_ne hb] at e'
        exact fh' _ _ e'
    · refine ⟨?_, st.2.still eo (by rcases o.2 with ⟨_, _, _, e2, _⟩ | ⟨_, _, _, e2, _⟩ <;> · rw [eo] at e2; cases e2; intro _ z; cases z)⟩
      have st := st.1
      cases ast with
      | none => exact st
      | some x =>
        obtain ⟨f, b, c, y, ys, h1, h2, h3⟩ := st
        have hx : x ≠ a := fun z => m (by rw [z])
        exact ⟨by rw [upd_ne hx]; exact f, b, c, y, ys, h1, Rp.mono sF _ _ h2, h3⟩
    · rcases o.2 with ⟨vs, ds, e1, e2, rr⟩ | ⟨kvs, ds, e1, e2, rr⟩
      · subst e1
        rw [eo] at e2
        cases e2
        exact Rp.lst (SqL.of upd_same) (RpA.mono sF _ _ rr)
      · subst e1
        rw [eo] at e2
        cases e2
        exact Rp.dic upd_same (RpK.mono sF _ _ rr)
  ex := G.ex
theorem Val.top {K : PySem.W.Frag} {ast : Option Addr} {H F' H' : Hp} {v : V} {d : D} (h : Rp K F' v d) : Val K .tp ast H F' H' v d := .inl h
theorem Goal.weak {K : PySem.W.Frag} {B : Wish} {W : WX} {ast : Option Addr} {F H : Hp} {σ : L2.St} {X : XR} {R : Rs} {Q : VK} (G : Goal K B W .tp ast F H σ X R Q) : Goal K B W .st ast F H σ X R Q :=
  ⟨fun v F' H' d g s fh st vv r => G.ok v F' H' d g s fh st (.inl vv) r, G.ex⟩
section
variable {X : Cx} {B : Wish} {W : WX} {e a b c : Expr} {w wa wb wc : Ev → Nat → XR → Rs → Prop} {pos : Pos}
theorem PE.tp (h : PE X e (TDm X.K B W .st w)) : PE X e (TDm X.K B W .tp w) :=
  PE.imp h fun σ H Q ⟨F, ast, ρ, g, XX, R, s, q, G⟩ => ⟨F, ast, ρ, g, XX, R, s, q, G.weak⟩
theorem PE.thaw (h : PE X e (TDm X.K B W .fr w)) : PE X e (TDm X.K B W .st w) :=
  PE.imp h fun σ H Q ⟨F, ast, ρ, g, XX, R, s, q, G⟩ => ⟨F, ast, ρ, g, XX, R, s, q, G.freeze s.fh⟩

/-! ### names, constants -/
theorem snd_var {i : Nat} {x : Str} (hN : X.N[i]? = some x) (hv : Vis X.env.scope x) (hd : (x == ("__debug__" : Str)) = false) (hcd : (x == ("__classdict__" : Str)) = false) :
    PE X (.Name x pos) (TDm X.K B W .st (fun ρ g _ Q => onFz ρ[i]? fun d => Q d g)) :=
  PE.imp (pe_var hN hv hd hcd) fun σ H Q ⟨F, ast, ρ, g, XX, R, s, q, G⟩ => by
    dsimp only at q
    cases hi : ρ[i]? with
    | none => rw [hi] at q; exact False.elim q
    | some sv =>
      rw [hi] at q
      cases sv with
      | fz d =>
        obtain ⟨y, e, v, ev, r⟩ := s.sl.at_ i _ hi
        subst ev
        exact ⟨v, e, G.here s r q⟩
      | _ => exact False.elim q
theorem snd_own {i : Nat} {x : Str} (hN : X.N[i]? = some x) (hv : Vis X.env.scope x) (hd : (x == ("__debug__" : Str)) = false) (hcd : (x == ("__classdict__" : Str)) = false) :
    PE X (.Name x pos) (TDm X.K B W .tp (fun ρ g _ Q => onOw ρ[i]? fun d => Q d g)) :=
  PE.imp (pe_var hN hv hd hcd) fun σ H Q ⟨F, ast, ρ, g, XX, R, s, q, G⟩ => by
    dsimp only at q
    cases hi : ρ[i]? with
    | none => rw [hi] at q; exact False.elim q
    | some sv =>
      rw [hi] at q
      cases sv with
      | ow d =>
        obtain ⟨y, e, a, ev, n, o⟩ := s.sl.at_ i _ hi
        subst ev
        exact ⟨.ref a, e, G.hereT s (.inr ⟨a, rfl, n, o⟩) q⟩
      | _ => exact False.elim q
theorem snd_int {i : Int} {j} : PE X (.Constant (.int i) j pos) (TDm X.K B W .st (fun _ g _ Q => Q (.int i) g)) := PE.imp pe_int fun σ H Q ⟨F, ast, ρ, g, XX, R, s, q, G⟩ => G.here s (.int i) q
theorem snd_cst {i : Int} {x : Str} {t : Tok} (hg : Gl X x) (hm : X.mg x = some (.int i t)) (hd : (x == ("__debug__" : Str)) = false) : PE X (.Name x pos) (TDm X.K B W .st (fun _ g _ Q => Q (.int i) g)) := PE.imp (pe_glob (v := .int i) hg hm ⟨t, rfl⟩ hd) fun σ H Q ⟨F, ast, ρ, g, XX, R, s, q, G⟩ => G.here s (.int i) q
theorem snd_bl {i : Bool} {j} : PE X (.Constant (.bool i) j pos) (TDm X.K B W .st (fun _ g _ Q => Q (.bool i) g)) := PE.imp pe_bl fun σ H Q ⟨F, ast, ρ, g, XX, R, s, q, G⟩ => G.here s (.bl i) q
theorem snd_non {j} : PE X (.Constant .none j pos) (TDm X.K B W .st (fun _ g _ Q => Q .none g)) := PE.imp pe_non fun σ H Q ⟨F, ast, ρ, g, XX, R, s, q, G⟩ => G.here s .non q
theorem snd_str {i : Str} {j} : PE X (.Constant (.str i) j pos) (TDm X.K B W .st (fun _ g _ Q => Q (.str i) g)) := PE.imp pe_str fun σ H Q ⟨F, ast, ρ, g, XX, R, s, q, G⟩ => G.here s (.str i) q

/-! ### operators -/
/-- an operation on data, by values -/
def rD (K : PySem.W.Frag) (f : D → D → (D → Prop) → Prop) : R2 := fun x y H Q => ∃ F ast d e P, Same F H ∧ Top K ast F H x d ∧ Top K ast F H y e ∧ f d e P ∧ ∀ v F' H' z, Grow F H F' H' → Same F' H' → Rp K F' v z → P z → Q v H'
theorem tOp_ok {f : D → D → (D → Prop) → Prop} (σ : L2.St) (H : Hp) (Q : VK) (h : TDm X.K B W .st (fun ρ g XX R => wa ρ g XX fun x g1 => wb ρ g1 XX fun y g2 => f x y fun z => R z g2) σ H Q) :
    tOp (rD X.K f) (TDm X.K B W .tp wa) (TDm X.K B W .tp wb) σ H Q := by
  obtain ⟨F, ast, ρ, g, XX, R, s, q, G⟩ := h
  refine ⟨F, ast, ρ, g, XX, _, s, q, G.go s (t := .tp) fun v F1 H1 x g1 s1 c1 G1 vv q1 => ?_⟩
  refine ⟨F1, ast, ρ, g1, XX, _, c1, q1, G1.go c1 (t := .tp) fun u F2 H2 y g2 s2 c2 G2 uu q2 => ?_⟩
  exact ⟨F2, ast, x, y, _, c2.fh, Top.step vv s2, uu, q2, fun v' F' H' z gr fh' r p => G2.grown c2 gr fh' r p⟩
theorem snd_op {op : Operator} {f : D → D → (D → Prop) → Prop} (ho : OpR X (binaryOp op) (rD X.K f)) (ha : PE X a (TDm X.K B W .tp wa)) (hb : PE X b (TDm X.K B W .tp wb)) :
    PE X (.BinOp a op b pos) (TDm X.K B W .st (fun ρ g XX R => wa ρ g XX fun x g1 => wb ρ g1 XX fun y g2 => f x y fun z => R z g2)) := PE.imp (pe_op ho ha hb) tOp_ok
theorem snd_cmp {op : CmpOp} {f : D → D → (D → Prop) → Prop} (ho : OpR X (compareOp op) (rD X.K f)) (ha : PE X a (TDm X.K B W .tp wa)) (hb : PE X b (TDm X.K B W .tp wb)) (hm : behindInMarks op b = false) :
    PE X (.Compare a [op] [b] pos) (TDm X.K B W .st (fun ρ g XX R => wa ρ g XX fun x g1 => wb ρ g1 XX fun y g2 => f x y fun z => R z g2)) := PE.imp (pe_cmpR ho ha hb hm) tOp_ok
/-- the end of an operation that makes nothing -/
theorem endI {K : PySem.W.Frag} {F H : Hp} {P : D → Prop} {Q : VK} {v : V} {z : D} (fh : Same F H) (k : ∀ v F' H' z, Grow F H F' H' → Same F' H' → Rp K F' v z → P z → Q v H') (r : Rp K F v z) (p : P z) : Q v H := k v F H z (Grow.refl F H) fh r p
theorem Top.stands {K : PySem.W.Frag} {ast : Option Addr} {F H : Hp} {v : V} {ds : List D} (t : Top K ast F H v (.tuple ds)) : Rp K F v (.tuple ds) := by
  rcases t with t | ⟨a, e, n, o⟩
  · exact t
  · rcases o.2 with ⟨vs, ds', e1, e2, r⟩ | ⟨_, _, e1, _⟩ <;> cases e1
/-- the end of an operation that lays a new object -/
theorem endN {K : PySem.W.Frag} {F H : Hp} {P : D → Prop} {Q : VK} {z : D} {p : Addr} {o : HO} (fh : Same F H) (np : H p = none) (k : ∀ v F' H' z, Grow F H F' H' → Same F' H' → Rp K F' v z → P z → Q v H') (r : Rp K (upd F p o) (.ref p) z) (q : P z) (no : ∀ ps, o ≠ .tbl ps := by intro _ z; cases z) : Q (.ref p) (upd H p o) :=
  k _ _ _ z (Grow.laid fh np no) (Same.upd2 fh) r q
theorem laidL {K : PySem.W.Frag} {F H : Hp} {p : Addr} {vs : List V} {ds : List D} (fh : Same F H) (np : H p = none) (r : RpA K F vs ds) : Rp K (upd F p (.lst vs)) (.ref p) (.list ds) := Rp.lst (SqL.of upd_same) (RpA.mono (same_upd (fh.free np)) _ _ r)
theorem laidT {K : PySem.W.Frag} {F H : Hp} {p : Addr} {vs : List V} {ds : List D} (fh : Same F H) (np : H p = none) (r : RpA K F vs ds) : Rp K (upd F p (.tup vs)) (.ref p) (.tuple ds) := Rp.tup (SqT.of upd_same) (RpA.mono (same_upd (fh.free np)) _ _ r)
theorem rpA_int_inv {K : PySem.W.Frag} {F : Hp} : ∀ {vs : List V} {ns : List Int}, RpA K F vs (ns.map PyData.int) → vs = ns.map V.int
  | vs, [], h => by cases h; rfl
  | vs, n :: ns, h => by
    cases h with
    | cons h1 h2 =>
      cases h1
      rw [rpA_int_inv h2]
      rfl
theorem rpA_bool_inv {K : PySem.W.Frag} {F : Hp} : ∀ {vs : List V} {ns : List Bool}, RpA K F vs (ns.map PyData.bool) → vs = ns.map V.bl
  | vs, [], h => by cases h; rfl
  | vs, n :: ns, h => by
    cases h with
    | cons h1 h2 =>
      cases h1
      rw [rpA_bool_inv h2]
      rfl
theorem rpA_int_mk {K : PySem.W.Frag} {F : Hp} : ∀ ns : List Int, RpA K F (ns.map V.int) (ns.map PyData.int)
  | [] => .nil
  | n :: ns => .cons (.int n) (rpA_int_mk ns)
theorem rpA_rep {K : PySem.W.Frag} {F : Hp} {vs : List V} {ds : List D} (r : RpA K F vs ds) : ∀ n, RpA K F (List.replicate n vs).flatten (List.replicate n ds).flatten
  | 0 => .nil
  | n + 1 => by
    rw [List.replicate_succ, List.replicate_succ, List.flatten_cons, List.flatten_cons]
    exact r.append (rpA_rep r n)
theorem lexB_eq : ∀ ns ms : List Int, HT.lexLt ns ms = lexB ns ms
  | [], [] => rfl
  | [], _ :: _ => rfl
  | _ :: _, [] => rfl
  | x :: xs, y :: ys => by
    unfold HT.lexLt lexB
    rw [lexB_eq xs ys]
theorem or_add : OpR X (binaryOp .Add) (rD X.K (binD .add)) := by
  intro pins s σ H x y v u Q I rx ry h
  obtain ⟨F, ast, d, e, P, fh, tx, ty, f, k⟩ := h
  cases d <;> cases e <;> first | exact False.elim f | skip
  · cases tx.int; cases ty.int
    exact op_add pins s σ H _ _ v u Q I rx ry ⟨_, _, rfl, rfl, endI fh k (.int _) f⟩
  · cases tx.str; cases ty.str
    exact op_add_str pins s σ H _ _ v u Q I rx ry ⟨_, _, rfl, rfl, f.1, endI fh k (.str _) f.2⟩
  · obtain ⟨a, vs, rfl, h1, r1⟩ := Top.list fh tx
    obtain ⟨b, us, rfl, h2, r2⟩ := Top.list fh ty
    exact op_catL pins s σ H _ _ v u Q I rx ry ⟨a, b, vs, us, rfl, rfl, h1, h2, by rw [r1.length, r2.length]; exact f.1, fun p np => endN fh np k (laidL fh np (r1.append r2)) f.2⟩
  · obtain ⟨a, vs, rfl, h1, r1⟩ := Top.tuple fh tx
    obtain ⟨b, us, rfl, h2, r2⟩ := Top.tuple fh ty
    refine op_catA pins s σ H _ _ v u Q I rx ry ⟨a, b, vs, us, rfl, rfl, h1, h2, by rw [r1.length, r2.length]; exact f.1, fun e => ?_, fun _ e => ?_, fun _ _ p np => endN fh np k (laidT fh np (r1.append r2)) f.2⟩
    · subst e
      cases r1
      exact endI fh k ty.stands f.2
    · subst e
      cases r2
      have f2 := f.2
      rw [List.append_nil] at f2
      exact endI fh k tx.stands f2
theorem or_sub : OpR X (binaryOp .Sub) (rD X.K (binD .sub)) := by
  intro pins s σ H x y v u Q I rx ry h
  obtain ⟨F, ast, d, e, P, fh, tx, ty, f, k⟩ := h
  cases d <;> cases e <;> first | exact False.elim f | skip
  cases tx.int; cases ty.int
  exact op_sub pins s σ H _ _ v u Q I rx ry ⟨_, _, rfl, rfl, endI fh k (.int _) f⟩
theorem mulOk.ok {i j : Int} (h : mulOk i j) : IntMulOk i j := by
  rcases h with h | h | h
  · exact CMul.ok (.inl h)
  · exact CMul.ok (.inr h)
  · exact CMulW.ok h
theorem op_mulD : OpR X (binaryOp .Mult) (rI mulOk fun i j => .int (i * j)) := opI fun _ _ _ _ _ _ _ hc q => mul_int q (mulOk.ok hc)
theorem op_fdivD : OpR X (binaryOp .FloorDiv) (rI (fun _ j => j ≠ 0 ∧ j.natAbs.log2 < 9000) fun i j => .int (i.fdiv j)) := opI fun i j _ _ _ _ _ hc q => floordiv_int hc.1 q (.inl (PyProof.noPylong_of_log2 hc.2))
theorem or_mul : OpR X (binaryOp .Mult) (rD X.K (binD .mul)) := by
  intro pins s σ H x y v u Q I rx ry h
  obtain ⟨F, ast, d, e, P, fh, tx, ty, f, k⟩ := h
  cases d <;> cases e <;> first | exact False.elim f | skip
  · cases tx.int; cases ty.int
    exact op_mulD pins s σ H _ _ v u Q I rx ry ⟨_, _, rfl, rfl, f.1, endI fh k (.int _) f.2⟩
  · cases ty.int
    rename_i ds n
    obtain ⟨a, vs, rfl, h1, r1⟩ := Top.list fh tx
    obtain ⟨⟨f1, f2, f3⟩, f5⟩ := f
    exact op_repL pins s σ H _ _ v u Q I rx ry ⟨a, n, vs, rfl, rfl, h1, by omega, by omega, by rw [r1.length]; exact f3, fun p np => endN fh np k (laidL fh np (rpA_rep r1 _)) f5⟩
  · cases ty.int
    rename_i ds n
    obtain ⟨a, vs, rfl, h1, r1⟩ := Top.tuple fh tx
    obtain ⟨⟨f1, f2, f3, f4⟩, f5⟩ := f
    refine op_repA pins s σ H _ _ v u Q I rx ry ⟨a, n, vs, rfl, rfl, h1, fun z => ?_, f2, f3, by rw [r1.length]; exact f4, fun e => ?_, fun _ p np => endN fh np k (laidT fh np (rpA_rep r1 _)) f5⟩
    · subst z
      cases r1
      exact f1 rfl
    · subst e
      have f6 : P (.tuple ds) := by
        have q : (List.replicate (1 : Int).toNat ds).flatten = ds := by
          show (List.replicate 1 ds).flatten = ds
          rw [List.replicate_one, List.flatten_cons, List.flatten_nil, List.append_nil]
        rw [q] at f5
        exact f5
      exact endI fh k tx.stands f6
theorem or_fdiv : OpR X (binaryOp .FloorDiv) (rD X.K (binD .fdiv)) := by
  intro pins s σ H x y v u Q I rx ry h
  obtain ⟨F, ast, d, e, P, fh, tx, ty, f, k⟩ := h
  cases d <;> cases e <;> first | exact False.elim f | skip
  cases tx.int; cases ty.int
  exact op_fdivD pins s σ H _ _ v u Q I rx ry ⟨_, _, rfl, rfl, f.1, endI fh k (.int _) f.2⟩
theorem or_mod : OpR X (binaryOp .Mod) (rD X.K (binD .mod)) := by
  intro pins s σ H x y v u Q I rx ry h
  obtain ⟨F, ast, d, e, P, fh, tx, ty, f, k⟩ := h
  cases d <;> cases e <;> first | exact False.elim f | skip
  cases tx.int; cases ty.int
  exact op_modN pins s σ H _ _ v u Q I rx ry ⟨_, _, rfl, rfl, f.1, endI fh k (.int _) f.2⟩
theorem or_pow : OpR X (binaryOp .Pow) (rD X.K (binD .pow)) := by
  intro pins s σ H x y v u Q I rx ry h
  obtain ⟨F, ast, d, e, P, fh, tx, ty, f, k⟩ := h
  cases d <;> cases e <;> first | exact False.elim f | skip
  cases tx.int; cases ty.int
  exact op_pow pins s σ H _ _ v u Q I rx ry ⟨_, _, rfl, rfl, f.1, endI fh k (.int _) f.2⟩
theorem snd_neg (ha : PE X a (TDm X.K B W .tp wa)) : PE X (.UnaryOp .USub a pos) (TDm X.K B W .st (fun ρ g XX R => wa ρ g XX fun x g1 => onInt x fun i => R (.int (-i)) g1)) :=
  PE.imp (pe_un un_neg ha) fun σ H Q ⟨F, ast, ρ, g, XX, R, s, q, G⟩ => ⟨F, ast, ρ, g, XX, _, s, q, G.go s (t := .tp) fun v F1 H1 x g1 s1 c1 G1 vv q1 => by
    cases x <;> first | exact False.elim q1 | skip
    cases Top.int vv
    exact ⟨_, rfl, G1.here c1 (.int _) q1⟩⟩
/-! ### comparisons -/
theorem eq_dat (hu : X.A.units + 64 < cLine) {pins : List (Addr × Obj)} {s : Shared} {σ : L2.St} {H F : Hp} {ast : Option Addr} {x y : V} {v u : Value} {Q : VK} {d e : D} (I : Inv X pins σ H s) (rx : RelV x v) (ry : RelV y u) (fh : Same F H) (tx : Top X.K ast F H x d) (ty : Top X.K ast F H y e)
    (sd : SeqAt.shaped d = true) (se : SeqAt.shaped e = true) (q : Q (.bl (PyData.eqv d e)) H) : wpAny (model X.prog X.w) X.A (compareOp .Eq v u) (EP X pins σ Q) X.xe s :=
  op_eqD hu pins s σ H x y v u Q I rx ry ⟨d, e, Rp.dp d _ (PyData.hasDict_of_canLay _ (SeqAt.canLay_of_shaped sd)) (tx.rp fh), Rp.dp e _ (PyData.hasDict_of_canLay _ (SeqAt.canLay_of_shaped se)) (ty.rp fh), sd, se, q⟩
theorem ne_dat (hu : X.A.units + 64 < cLine) {pins : List (Addr × Obj)} {s : Shared} {σ : L2.St} {H F : Hp} {ast : Option Addr} {x y : V} {v u : Value} {Q : VK} {d e : D} (I : Inv X pins σ H s) (rx : RelV x v) (ry : RelV y u) (fh : Same F H) (tx : Top X.K ast F H x d) (ty : Top X.K ast F H y e)
    (sd : SeqAt.shaped d = true) (se : SeqAt.shaped e = true) (q : Q (.bl (!PyData.eqv d e)) H) : wpAny (model X.prog X.w) X.A (compareOp .NotEq v u) (EP X pins σ Q) X.xe s :=
  op_neD hu pins s σ H x y v u Q I rx ry ⟨d, e, Rp.dp d _ (PyData.hasDict_of_canLay _ (SeqAt.canLay_of_shaped sd)) (tx.rp fh), Rp.dp e _ (PyData.hasDict_of_canLay _ (SeqAt.canLay_of_shaped se)) (ty.rp fh), sd, se, q⟩
theorem or_eq (hu : X.A.units + 64 < cLine) : OpR X (compareOp .Eq) (rD X.K (cmpD .eq)) := by
  intro pins s σ H x y v u Q I rx ry h
  obtain ⟨F, ast, d, e, P, fh, tx, ty, f, k⟩ := h
  have gen : ((SeqAt.shaped d = true ∧ SeqAt.shaped e = true) ∧ P (.bool (PyData.eqv d e))) → wpAny (model X.prog X.w) X.A (compareOp .Eq v u) (EP X pins σ Q) X.xe s :=
    fun f => eq_dat hu I rx ry fh tx ty f.1.1 f.1.2 (endI fh k (.bl _) f.2)
  cases d <;> cases e <;> first | exact gen f | skip
  · cases tx.int; cases ty.int
    refine op_eq pins s σ H _ _ v u Q I rx ry ⟨rfl, ?_⟩
    rw [dec_int, Bool.beq_eq_decide_eq]
    exact endI fh k (.bl _) f
  · cases tx.str; cases ty.str
    refine op_eq pins s σ H _ _ v u Q I rx ry ⟨rfl, ?_⟩
    rw [dec_str, Bool.beq_eq_decide_eq]
    exact endI fh k (.bl _) f
theorem or_ne (hu : X.A.units + 64 < cLine) : OpR X (compareOp .NotEq) (rD X.K (cmpD .ne)) := by
  intro pins s σ H x y v u Q I rx ry h
  obtain ⟨F, ast, d, e, P, fh, tx, ty, f, k⟩ := h
  have gen : ((SeqAt.shaped d = true ∧ SeqAt.shaped e = true) ∧ P (.bool (!PyData.eqv d e))) → wpAny (model X.prog X.w) X.A (compareOp .NotEq v u) (EP X pins σ Q) X.xe s :=
    fun f => ne_dat hu I rx ry fh tx ty f.1.1 f.1.2 (endI fh k (.bl _) f.2)
  cases d <;> cases e <;> first | exact gen f | skip
  · cases tx.int; cases ty.int
    refine op_ne pins s σ H _ _ v u Q I rx ry ⟨rfl, ?_⟩
    rw [dec_int, Bool.beq_eq_decide_eq]
    exact endI fh k (.bl _) f
  · cases tx.str; cases ty.str
    refine op_ne pins s σ H _ _ v u Q I rx ry ⟨rfl, ?_⟩
    rw [dec_str, Bool.beq_eq_decide_eq]
    exact endI fh k (.bl _) f
theorem or_lt (hu : X.A.units < cLine) : OpR X (compareOp .Lt) (rD X.K (cmpD .lt)) := by
  intro pins s σ H x y v u Q I rx ry h
  obtain ⟨F, ast, d, e, P, fh, tx, ty, f, k⟩ := h
  cases d <;> cases e <;> first | exact False.elim f | skip
  · cases tx.int; cases ty.int
    exact op_lt pins s σ H _ _ v u Q I rx ry ⟨_, _, rfl, rfl, endI fh k (.bl _) f⟩
  · obtain ⟨ns, ms, rfl, rfl, f⟩ := f
    obtain ⟨a, vs, rfl, h1, r1⟩ := Top.tuple fh tx
    obtain ⟨b, us, rfl, h2, r2⟩ := Top.tuple fh ty
    cases rpA_int_inv r1
    cases rpA_int_inv r2
    exact op_ltT hu pins s σ H _ _ v u Q I rx ry ⟨a, b, ns, ms, rfl, rfl, h1, h2, by rw [lexB_eq]; exact endI fh k (.bl _) f⟩
theorem or_le : OpR X (compareOp .LtE) (rD X.K (cmpD .le)) := by
  intro pins s σ H x y v u Q I rx ry h
  obtain ⟨F, ast, d, e, P, fh, tx, ty, f, k⟩ := h
  cases d <;> cases e <;> first | exact False.elim f | skip
  cases tx.int; cases ty.int
  exact op_le pins s σ H _ _ v u Q I rx ry ⟨_, _, rfl, rfl, endI fh k (.bl _) f⟩
theorem or_gt : OpR X (compareOp .Gt) (rD X.K (cmpD .gt)) := by
  intro pins s σ H x y v u Q I rx ry h
  obtain ⟨F, ast, d, e, P, fh, tx, ty, f, k⟩ := h
  cases d <;> cases e <;> first | exact False.elim f | skip
  cases tx.int; cases ty.int
  exact op_gt pins s σ H _ _ v u Q I rx ry ⟨_, _, rfl, rfl, endI fh k (.bl _) f⟩
theorem or_ge : OpR X (compareOp .GtE) (rD X.K (cmpD .ge)) := by
  intro pins s σ H x y v u Q I rx ry h
  obtain ⟨F, ast, d, e, P, fh, tx, ty, f, k⟩ := h
  cases d <;> cases e <;> first | exact False.elim f | skip
  cases tx.int; cases ty.int
  exact op_ge pins s σ H _ _ v u Q I rx ry ⟨_, _, rfl, rfl, endI fh k (.bl _) f⟩
end
end Dz
set_option Elab.async false
set_option linter.all false
set_option maxRecDepth 100000
/-! Dz: tests, and, or, displays, subscripts, slices, calls of built-ins. -/
namespace Dz
open PySem PySem.Spec PyProof.Rows L2
/-! ### tests -/
structure GoalB (K : PySem.W.Frag) (B : Wish) (W : WX) (ast : Option Addr) (F H : Hp) (σ : L2.St) (X : XR) (R : Bool → Nat → Prop) (Q : Bool → Hp → Prop) : Prop where
  ok : ∀ b F' H' g, Step ast F H F' H' → Same F' H' → StOk K B F' H' ast g → R b g → Q b H'
  ex : ∀ x c F' H' g, Step ast F H F' H' → Same F' H' → StOk K B F' H' ast g → X x g → B.ok x c → W c none σ H'
def TTm (K : PySem.W.Frag) (B : Wish) (W : WX) (w : Ev → Nat → XR → (Bool → Nat → Prop) → Prop) : TT := fun σ H Q =>
  ∃ F ast ρ g X R, SRc K B F H ast σ ρ g ∧ w ρ g X R ∧ GoalB K B W ast F H σ X R Q
theorem GoalB.later {K : PySem.W.Frag} {B : Wish} {W : WX} {ast : Option Addr} {F H F1 H1 : Hp} {σ : L2.St} {X : XR} {R : Bool → Nat → Prop} {Q : Bool → Hp → Prop} (G : GoalB K B W ast F H σ X R Q) (s : Step ast F H F1 H1) : GoalB K B W ast F1 H1 σ X R Q :=
  ⟨fun v F' H' g s' fh st r => G.ok v F' H' g (s.trans s') fh st r, fun x c F' H' g s' fh st q b => G.ex x c F' H' g (s.trans s') fh st q b⟩
theorem GoalB.go {K : PySem.W.Frag} {B : Wish} {W : WX} {ast : Option Addr} {F H : Hp} {σ : L2.St} {X : XR} {R : Bool → Nat → Prop} {Q : Bool → Hp → Prop} {ρ : Ev} {g : Nat} (G : GoalB K B W ast F H σ X R Q) (s : SRc K B F H ast σ ρ g) {t : Md} {R1 : Rs} {Q1 : VK}
    (ok : ∀ v F' H' d g', Step ast F H F' H' → SRc K B F' H' ast σ ρ g' → GoalB K B W ast F' H' σ X R Q → Val K t ast H F' H' v d → R1 d g' → Q1 v H') : Goal K B W t ast F H σ X R1 Q1 :=
  ⟨fun v F' H' d g' st fh so vv r => ok v F' H' d g' st (s.step st fh so) (G.later st) vv r, G.ex⟩
theorem GoalB.goB {K : PySem.W.Frag} {B : Wish} {W : WX} {ast : Option Addr} {F H : Hp} {σ : L2.St} {X : XR} {R : Bool → Nat → Prop} {Q : Bool → Hp → Prop} {ρ : Ev} {g : Nat} (G : GoalB K B W ast F H σ X R Q) (s : SRc K B F H ast σ ρ g) {R1 : Bool → Nat → Prop} {Q1 : Bool → Hp → Prop}
    (ok : ∀ v F' H' g', Step ast F H F' H' → SRc K B F' H' ast σ ρ g' → GoalB K B W ast F' H' σ X R Q → R1 v g' → Q1 v H') : GoalB K B W ast F H σ X R1 Q1 :=
  ⟨fun v F' H' g' st fh so r => ok v F' H' g' st (s.step st fh so) (G.later st) r, G.ex⟩
theorem Goal.goB {K : PySem.W.Frag} {B : Wish} {W : WX} {ast : Option Addr} {F H : Hp} {σ : L2.St} {X : XR} {md : Md} {R : Rs} {Q : VK} {ρ : Ev} {g : Nat} (G : Goal K B W md ast F H σ X R Q) (s : SRc K B F H ast σ ρ g) {R1 : Bool → Nat → Prop} {Q1 : Bool → Hp → Prop}
    (ok : ∀ v F' H' g', Step ast F H F' H' → SRc K B F' H' ast σ ρ g' → Goal K B W md ast F' H' σ X R Q → R1 v g' → Q1 v H') : GoalB K B W ast F H σ X R1 Q1 :=
  ⟨fun v F' H' g' st fh so r => ok v F' H' g' st (s.step st fh so) (G.later st) r, G.ex⟩
theorem GoalB.here {K : PySem.W.Frag} {B : Wish} {W : WX} {ast : Option Addr} {F H : Hp} {σ : L2.St} {X : XR} {R : Bool → Nat → Prop} {Q : Bool → Hp → Prop} {ρ : Ev} {g : Nat} (G : GoalB K B W ast F H σ X R Q) (s : SRc K B F H ast σ ρ g) {b : Bool} (q : R b g) : Q b H := G.ok b F H g (Step.refl _ _ _) s.fh s.st q
/-- a bool's own value -/
theorem onBool_some {k : Bool → Nat → Prop} {d : D} {g : Nat} (h : onBool k d g) : ∃ b, d = .bool b ∧ k b g := by
  cases d <;> first | exact False.elim h | exact ⟨_, rfl, h⟩
abbrev tst (w : Ev → Nat → XR → Rs → Prop) : Ev → Nat → XR → (Bool → Nat → Prop) → Prop := fun ρ g XX R => w ρ g XX (onBool R)
section
variable {X : Cx} {B : Wish} {W : WX} {e a b c : Expr} {w wa wb wc : Ev → Nat → XR → Rs → Prop} {pos : Pos}
theorem sndT_val (h : PE X e (TDm X.K B W .tp w)) (he : ∀ whole, isTrue e X.env whole = (do let v ← whole; standAt e.pos; holding [v] (truthy v))) : PT X e (TTm X.K B W (tst w)) :=
  PT.imp (pt_val h he) fun σ H Q ⟨F, ast, ρ, g, XX, R, s, q, G⟩ => ⟨F, ast, ρ, g, XX, _, s, q, G.go s (t := .tp) fun v F1 H1 d g1 s1 c1 G1 vv q1 => by
    obtain ⟨b, rfl, q1⟩ := onBool_some q1
    cases Top.bool vv
    exact ⟨b, rfl, G1.here c1 q1⟩⟩
theorem sndT_cmp {op : CmpOp} {f : D → D → (D → Prop) → Prop} (ho : OpR X (compareOp op) (rD X.K f)) (ha : PE X a (TDm X.K B W .tp wa)) (hb : PE X b (TDm X.K B W .tp wb)) (hm : behindInMarks op b = false) :
    PT X (.Compare a [op] [b] pos) (TTm X.K B W (fun ρ g XX R => wa ρ g XX fun x g1 => wb ρ g1 XX fun y g2 => f x y fun z => onBool R z g2)) :=
  PT.imp (pt_cmpR ho ha hb hm) fun σ H Q ⟨F, ast, ρ, g, XX, R, s, q, G⟩ => by
    refine ⟨F, ast, ρ, g, XX, _, s, q, G.go s (t := .tp) fun v F1 H1 x g1 s1 c1 G1 vv q1 => ?_⟩
    refine ⟨F1, ast, ρ, g1, XX, _, c1, q1, G1.go c1 (t := .tp) fun u F2 H2 y g2 s2 c2 G2 uu q2 => ?_⟩
    refine ⟨F2, ast, x, y, _, c2.fh, Top.step vv s2, uu, q2, fun v' F' H' z gr fh' r p => ?_⟩
    obtain ⟨b, rfl, p⟩ := onBool_some p
    cases r
    exact ⟨b, rfl, G2.ok b F' H' g2 gr.step fh' (gr.st c2.st) p⟩
/-- a op b op' c -/
abbrev chW (wa wb wc : Ev → Nat → XR → Rs → Prop) (f f' : D → D → (D → Prop) → Prop) : Ev → Nat → XR → Rs → Prop := fun ρ g XX R => wa ρ g XX fun x g1 => wb ρ g1 XX fun y g2 => f x y fun z => onBool (fun t g3 => if t = true then wc ρ g3 XX fun u g4 => f' y u fun r => R r g4 else R (.bool false) g3) z g2
theorem chain_ok {f f' : D → D → (D → Prop) → Prop} (σ : L2.St) (H : Hp) (Q : VK) (h : TDm X.K B W .st (chW wa wb wc f f') σ H Q) :
    tChain (rD X.K f) (rD X.K f') (TDm X.K B W .tp wa) (TDm X.K B W .tp wb) (TDm X.K B W .tp wc) σ H Q := by
  obtain ⟨F, ast, ρ, g, XX, R, s, q, G⟩ := h
  refine ⟨F, ast, ρ, g, XX, _, s, q, G.go s (t := .tp) fun v F1 H1 x g1 s1 c1 G1 vv q1 => ?_⟩
  refine ⟨F1, ast, ρ, g1, XX, _, c1, q1, G1.go c1 (t := .tp) fun u F2 H2 y g2 s2 c2 G2 uu q2 => ?_⟩
  refine ⟨F2, ast, x, y, _, c2.fh, Top.step vv s2, uu, q2, fun v' F' H' z gr fh' r p => ?_⟩
  obtain ⟨b, rfl, p⟩ := onBool_some p
  cases r
  have c3 := c2.step gr.step fh' (gr.st c2.st)
  have G3 := G2.later (gr.step (ast := ast))
  refine ⟨b, rfl, ?_⟩
  cases b with
  | false => exact G3.here c3 (.bl false) p
  | true =>
    have p' : wc ρ g2 XX fun u g4 => f' y u fun r => R r g4 := p
    exact ⟨F', ast, ρ, g2, XX, _, c3, p', G3.go c3 (t := .tp) fun w' F4 H4 dw g4 s4 c4 G4 ww q4 => ⟨F4, ast, y, dw, _, c4.fh, Top.step (Top.step uu gr.step) s4, ww, q4, fun v F H z gr fh r p => G4.grown c4 gr fh r p⟩⟩
theorem snd_chain {op op' : CmpOp} {f f' : D → D → (D → Prop) → Prop} (ho : OpR X (compareOp op) (rD X.K f)) (ho' : OpR X (compareOp op') (rD X.K f')) (ha : PE X a (TDm X.K B W .tp wa)) (hb : PE X b (TDm X.K B W .tp wb)) (hc : PE X c (TDm X.K B W .tp wc)) (hm : lastMarks [op, op'] [b, c] = false) :
    PE X (.Compare a [op, op'] [b, c] pos) (TDm X.K B W .st (chW wa wb wc f f')) := PE.imp (pe_chain ho ho' ha hb hc hm) chain_ok
theorem sndT_chain {op op' : CmpOp} {f f' : D → D → (D → Prop) → Prop} (ho : OpR X (compareOp op) (rD X.K f)) (ho' : OpR X (compareOp op') (rD X.K f')) (ha : PE X a (TDm X.K B W .tp wa)) (hb : PE X b (TDm X.K B W .tp wb)) (hc : PE X c (TDm X.K B W .tp wc)) (hm : lastMarks [op, op'] [b, c] = false) :
    PT X (.Compare a [op, op'] [b, c] pos) (TTm X.K B W (tst (chW wa wb wc f f'))) := PT.imp (pt_chain ho ho' ha hb hc hm) fun σ H Q ⟨F, ast, ρ, g, XX, R, s, q, G⟩ =>
  chain_ok σ H _ ⟨F, ast, ρ, g, XX, onBool R, s, q, ⟨fun v F' H' d g' st fh so vv r => by
    obtain ⟨b, rfl, r⟩ := onBool_some r
    cases vv
    exact ⟨b, rfl, G.ok b F' H' g' st fh so r⟩, G.ex⟩⟩
theorem marks_of {op op' : CmpOp} {b c : Expr} (h : op' ≠ .In) (h2 : op' ≠ .NotIn) : lastMarks [op, op'] [b, c] = false := by
  show behindInMarks op' c = false
  exact nomark c h h2
theorem sndT_not (h : PT X a (TTm X.K B W (tst wa))) : PT X (.UnaryOp .Not a pos) (TTm X.K B W (fun ρ g XX R => wa ρ g XX (onBool fun t g1 => R (!t) g1))) :=
  PT.imp (pt_not h) fun σ H Q ⟨F, ast, ρ, g, XX, R, s, q, G⟩ => ⟨F, ast, ρ, g, XX, _, s, q, G.goB s fun v F' H' g' s1 c1 G1 q1 => G1.here c1 q1⟩
theorem sndW_and {b : Expr} {rest : List Expr} (ha : PT X a (TTm X.K B W (tst wa))) (hb : PW X (.BoolOp .And (b :: rest) pos) (TTm X.K B W (tst wb))) :
    PW X (.BoolOp .And (a :: b :: rest) pos) (TTm X.K B W (fun ρ g XX R => wa ρ g XX (onBool fun t g1 => if t = true then wb ρ g1 XX (onBool R) else R false g1))) := by
  refine ⟨fun whole pins s σ H Q I h => (pw_and ha hb).run whole pins s σ H Q I ?_⟩
  obtain ⟨F, ast, ρ, g, XX, R, s, q, G⟩ := h
  refine ⟨F, ast, ρ, g, XX, _, s, q, G.goB s fun v F' H' g' s1 c1 G1 q1 => ?_⟩
  cases v with
  | true => exact ⟨F', ast, ρ, g', XX, _, c1, q1, G1⟩
  | false => exact G1.here c1 q1
theorem sndW_or {b : Expr} {rest : List Expr} (ha : PT X a (TTm X.K B W (tst wa))) (hb : PW X (.BoolOp .Or (b :: rest) pos) (TTm X.K B W (tst wb))) :
    PW X (.BoolOp .Or (a :: b :: rest) pos) (TTm X.K B W (fun ρ g XX R => wa ρ g XX (onBool fun t g1 => if t = true then R true g1 else wb ρ g1 XX (onBool R)))) := by
  refine ⟨fun whole pins s σ H Q I h => (pw_or ha hb).run whole pins s σ H Q I ?_⟩
  obtain ⟨F, ast, ρ, g, XX, R, s, q, G⟩ := h
  refine ⟨F, ast, ρ, g, XX, _, s, q, G.goB s fun v F' H' g' s1 c1 G1 q1 => ?_⟩
  cases v with
  | false => exact ⟨F', ast, ρ, g', XX, _, c1, q1, G1⟩
  | true => exact G1.here c1 q1
/-! ### and, or, not, if as values -/
theorem snd_not (ha : PE X a (TDm X.K B W .tp wa)) : PE X (.UnaryOp .Not a pos) (TDm X.K B W .st (fun ρ g XX R => wa ρ g XX (onBool fun t g1 => R (.bool (!t)) g1))) :=
  PE.imp (pe_not ha) fun σ H Q ⟨F, ast, ρ, g, XX, R, s, q, G⟩ => ⟨F, ast, ρ, g, XX, _, s, q, G.go s (t := .tp) fun v F1 H1 x g1 s1 c1 G1 vv q1 => by
    obtain ⟨b, rfl, q1⟩ := onBool_some q1
    cases Top.bool vv
    exact ⟨b, rfl, G1.here c1 (.bl _) q1⟩⟩
theorem snd_and {b : Expr} {rest : List Expr} (ha : PE X a (TDm X.K B W .tp wa)) (hb : PE X (.BoolOp .And (b :: rest) pos) (TDm X.K B W .tp wb)) :
    PE X (.BoolOp .And (a :: b :: rest) pos) (TDm X.K B W .st (fun ρ g XX R => wa ρ g XX (onBool fun t g1 => if t = true then wb ρ g1 XX (onBool fun t g2 => R (.bool t) g2) else R (.bool false) g1))) :=
  PE.imp (pe_and ha hb) fun σ H Q ⟨F, ast, ρ, g, XX, R, s, q, G⟩ => ⟨F, ast, ρ, g, XX, _, s, q, G.go s (t := .tp) fun v F1 H1 x g1 s1 c1 G1 vv q1 => by
    obtain ⟨t, rfl, q1⟩ := onBool_some q1
    cases Top.bool vv
    refine ⟨t, rfl, ?_⟩
    cases t with
    | false => exact G1.here c1 (.bl _) q1
    | true => exact ⟨F1, ast, ρ, g1, XX, _, c1, q1, G1.go c1 (t := .tp) fun v F2 H2 y g2 s2 c2 G2 vv q2 => by
        obtain ⟨t, rfl, q2⟩ := onBool_some q2
        cases Top.bool vv
        exact G2.here c2 (.bl _) q2⟩⟩
theorem snd_or {b : Expr} {rest : List Expr} (ha : PE X a (TDm X.K B W .tp wa)) (hb : PE X (.BoolOp .Or (b :: rest) pos) (TDm X.K B W .tp wb)) :
    PE X (.BoolOp .Or (a :: b :: rest) pos) (TDm X.K B W .st (fun ρ g XX R => wa ρ g XX (onBool fun t g1 => if t = true then R (.bool true) g1 else wb ρ g1 XX (onBool fun t g2 => R (.bool t) g2)))) :=
  PE.imp (pe_or ha hb) fun σ H Q ⟨F, ast, ρ, g, XX, R, s, q, G⟩ => ⟨F, ast, ρ, g, XX, _, s, q, G.go s (t := .tp) fun v F1 H1 x g1 s1 c1 G1 vv q1 => by
    obtain ⟨t, rfl, q1⟩ := onBool_some q1
    cases Top.bool vv
    refine ⟨t, rfl, ?_⟩
    cases t with
    | true => exact G1.here c1 (.bl _) q1
    | false => exact ⟨F1, ast, ρ, g1, XX, _, c1, q1, G1.go c1 (t := .tp) fun v F2 H2 y g2 s2 c2 G2 vv q2 => by
        obtain ⟨t, rfl, q2⟩ := onBool_some q2
        cases Top.bool vv
        exact G2.here c2 (.bl _) q2⟩⟩
theorem snd_ite (hc : PT X c (TTm X.K B W (tst wc))) (ha : PE X a (TDm X.K B W .st wa)) (hb : PE X b (TDm X.K B W .st wb)) :
    PE X (.IfExp c a b pos) (TDm X.K B W .st (fun ρ g XX R => wc ρ g XX (onBool fun t g1 => if t = true then wa ρ g1 XX R else wb ρ g1 XX R))) :=
  PE.imp (pe_ifExp hc ha hb) fun σ H Q ⟨F, ast, ρ, g, XX, R, s, q, G⟩ => ⟨F, ast, ρ, g, XX, _, s, q, G.goB s fun t F1 H1 g1 s1 c1 G1 q1 => by
    cases t with
    | true => exact ⟨F1, ast, ρ, g1, XX, _, c1, q1, G1⟩
    | false => exact ⟨F1, ast, ρ, g1, XX, _, c1, q1, G1⟩⟩
end

/-! ### lists of expressions -/
abbrev ValL (K : PySem.W.Frag) (md : Md) (ast : Option Addr) (H F' H' : Hp) (vs : List V) (ds : List D) : Prop := Paired (fun v d => Val K md ast H F' H' v d) vs ds
structure GoalL (K : PySem.W.Frag) (B : Wish) (W : WX) (md : Md) (ast : Option Addr) (F H : Hp) (σ : L2.St) (X : XR) (R : List D → Nat → Prop) (Q : List V → Hp → Prop) : Prop where
  ok : ∀ vs F' H' ds g, Step ast F H F' H' → Same F' H' → StOk K B F' H' ast g → ValL K md ast H F' H' vs ds → R ds g → Q vs H'
  ex : ∀ x c F' H' g, Step ast F H F' H' → Same F' H' → StOk K B F' H' ast g → X x g → B.ok x c → W c none σ H'
def TAm (K : PySem.W.Frag) (B : Wish) (W : WX) (md : Md) (w : Ev → Nat → XR → (List D → Nat → Prop) → Prop) : TA := fun σ H Q =>
  ∃ F ast ρ g X R, SRc K B F H ast σ ρ g ∧ w ρ g X R ∧ GoalL K B W md ast F H σ X R Q
/-- modes that a later step keeps -/
def Keeps : Md → Prop
  | .fr => False
  | _ => True
theorem Val.step {K : PySem.W.Frag} {md : Md} (k : Keeps md) {ast : Option Addr} {H H2 F H1 F' H' : Hp} {v : V} {d : D} (h : Val K md ast H F H1 v d) (s : Step ast F H1 F' H') : Val K md ast H2 F' H' v d := by
  cases md with
  | st => exact Rp.mono s.same _ _ h
  | tp => exact Top.step h s
  | fr => exact k.elim
theorem Val.pre {K : PySem.W.Frag} {md : Md} (k : Keeps md) {ast : Option Addr} {H H2 F' H' : Hp} {v : V} {d : D} (h : Val K md ast H F' H' v d) : Val K md ast H2 F' H' v d := by
  cases md with
  | st => exact h
  | tp => exact h
  | fr => exact k.elim
theorem ValL.pre {K : PySem.W.Frag} {md : Md} (k : Keeps md) {ast : Option Addr} {H H2 F' H' : Hp} : ∀ {vs : List V} {ds : List D}, ValL K md ast H F' H' vs ds → ValL K md ast H2 F' H' vs ds
  | _, _, .nil => .nil
  | _, _, .cons h r => .cons (Val.pre k h) (ValL.pre k r)
theorem ValL.rp {K : PySem.W.Frag} {ast : Option Addr} {H F' H' : Hp} : ∀ {vs : List V} {ds : List D}, ValL K .st ast H F' H' vs ds → RpA K F' vs ds
  | _, _, .nil => .nil
  | _, _, .cons h r => .cons h (ValL.rp r)
theorem GoalL.later {K : PySem.W.Frag} {B : Wish} {W : WX} {md : Md} (km : Keeps md) {ast : Option Addr} {F H F1 H1 : Hp} {σ : L2.St} {X : XR} {R : List D → Nat → Prop} {Q : List V → Hp → Prop} (G : GoalL K B W md ast F H σ X R Q) (s : Step ast F H F1 H1) : GoalL K B W md ast F1 H1 σ X R Q :=
  ⟨fun v F' H' d g s' fh st vv r => G.ok v F' H' d g (s.trans s') fh st (ValL.pre km vv) r, fun x c F' H' g s' fh st q b => G.ex x c F' H' g (s.trans s') fh st q b⟩
section
variable {X : Cx} {B : Wish} {W : WX} {md : Md} {e : Expr} {es : List Expr} {w : Ev → Nat → XR → Rs → Prop} {wl : Ev → Nat → XR → (List D → Nat → Prop) → Prop} {pos : Pos}
theorem sndL_nil : PA X [] (TAm X.K B W md (fun _ g _ Q => Q [] g)) :=
  PA.imp pa_nil fun σ H Q ⟨F, ast, ρ, g, XX, R, s, q, G⟩ => G.ok [] F H [] g (Step.refl _ _ _) s.fh s.st .nil q
theorem sndL_cons (km : Keeps md) (he : PE X e (TDm X.K B W md w)) (hr : PA X es (TAm X.K B W md wl)) (hs : starEach (e :: es) X.env = (false, eval e X.env) :: starEach es X.env) :
    PA X (e :: es) (TAm X.K B W md (fun ρ g XX R => w ρ g XX fun d g1 => wl ρ g1 XX fun ds g2 => R (d :: ds) g2)) :=
  PA.imp (pa_cons he hr hs) fun σ H Q ⟨F, ast, ρ, g, XX, R, s, q, G⟩ => by
    refine ⟨F, ast, ρ, g, XX, _, s, q, ⟨fun v F1 H1 d g1 s1 fh1 st1 vv q1 => ?_, G.ex⟩⟩
    have G1 := G.later km s1
    refine ⟨F1, ast, ρ, g1, XX, _, s.step s1 fh1 st1, q1, ⟨fun vs F2 H2 ds g2 s2 fh2 st2 vvs q2 => ?_, G1.ex⟩⟩
    exact G1.ok (v :: vs) F2 H2 (d :: ds) g2 s2 fh2 st2 (.cons (Val.step km vv s2) vvs) q2
theorem sndL_star {p : Pos} (he : PE X e (TDm X.K B W .st w)) (hr : PA X es (TAm X.K B W .st wl)) :
    PA X (.Starred e p :: es) (TAm X.K B W .st (fun ρ g XX R => w ρ g XX fun d g1 => onSeq d fun xs => wl ρ g1 XX fun ds g2 => R (xs ++ ds) g2)) :=
  PA.imp (StX.pa_star he hr) fun σ H Q ⟨F, ast, ρ, g, XX, R, s, q, G⟩ => by
    refine ⟨F, ast, ρ, g, XX, _, s, q, ⟨fun v F1 H1 d g1 s1 fh1 st1 vv q1 => ?_, G.ex⟩⟩
    have G1 := G.later (md := .st) trivial s1
    have go : ∀ (xs : List D) (p : Addr) (vs : List V), v = .ref p → (SqT X.K H1 p vs ∨ SqL X.K H1 p vs) → RpA X.K F1 vs xs → wl ρ g1 XX (fun ds g2 => R (xs ++ ds) g2) →
        ∃ p xs, v = V.ref p ∧ (SqT X.K H1 p xs ∨ SqL X.K H1 p xs) ∧ TAm X.K B W .st wl σ H1 fun ys H2 => Q (xs ++ ys) H2 := fun xs p vs ev hs r q1 => by
      refine ⟨p, vs, ev, hs, F1, ast, ρ, g1, XX, _, s.step s1 fh1 st1, q1, ⟨fun us F2 H2 ds g2 s2 fh2 st2 uu q2 => ?_, G1.ex⟩⟩
      refine G1.ok (vs ++ us) F2 H2 (xs ++ ds) g2 s2 fh2 st2 ?_ q2
      have r2 := RpA.mono s2.same _ _ r
      have key : ∀ {xs : List D} {vs : List V}, RpA X.K F2 vs xs → ValL X.K .st ast H1 F2 H2 (vs ++ us) (xs ++ ds) := by
        intro xs
        induction xs with
        | nil => intro vs r; cases r; exact uu
        | cons x xs ih =>
          intro vs r
          cases r with
          | cons a b => exact .cons a (ih b)
      exact key r2
    cases d <;> first | exact False.elim q1 | skip
    · cases vv with
      | lst h1 h2 => exact go _ _ _ rfl (.inr (Same.sqL fh1 h1)) h2 q1
    · cases vv with
      | tup h1 h2 => exact go _ _ _ rfl (.inl (Same.sqT fh1 h1)) h2 q1
end
theorem GoalL.of {K : PySem.W.Frag} {B : Wish} {W : WX} {md md1 : Md} {ast : Option Addr} {F H : Hp} {σ : L2.St} {X : XR} {R : Rs} {Q : VK} {ρ : Ev} {g : Nat} (G : Goal K B W md ast F H σ X R Q) (s : SRc K B F H ast σ ρ g) {R1 : List D → Nat → Prop} {Q1 : List V → Hp → Prop}
    (ok : ∀ vs F' H' ds g', Step ast F H F' H' → SRc K B F' H' ast σ ρ g' → Goal K B W md ast F' H' σ X R Q → ValL K md1 ast H F' H' vs ds → R1 ds g' → Q1 vs H') : GoalL K B W md1 ast F H σ X R1 Q1 :=
  ⟨fun v F' H' d g' st fh so vv r => ok v F' H' d g' st (s.step st fh so) (G.later st) vv r, G.ex⟩
section
variable {X : Cx} {B : Wish} {W : WX} {e a b c i : Expr} {es : List Expr} {w wa wb wc : Ev → Nat → XR → Rs → Prop} {wl : Ev → Nat → XR → (List D → Nat → Prop) → Prop} {pos : Pos}
theorem snd_tup {j} (h : PA X es (TAm X.K B W .st wl)) : PE X (.Tuple es j pos) (TDm X.K B W .st (fun ρ g XX R => wl ρ g XX fun ds g1 => ds.length ≤ sizeLine ∧ R (.tuple ds) g1)) :=
  PE.imp (pe_tup h) fun σ H Q ⟨F, ast, ρ, g, XX, R, s, q, G⟩ => ⟨F, ast, ρ, g, XX, _, s, q, GoalL.of G s fun vs F1 H1 ds g1 s1 c1 G1 vv q1 => by
    have r := ValL.rp vv
    refine ⟨by rw [RpA.length r]; exact q1.1, fun p hp => ?_⟩
    have gr := Grow.laid (o := .tup vs) c1.fh hp
    exact G1.grown c1 gr (Same.upd2 c1.fh) (Rp.tup (SqT.of upd_same) (RpA.mono gr.same _ _ r)) q1.2⟩
theorem snd_lst (h : PA X es (TAm X.K B W .st wl)) : PE X (.List es pos) (TDm X.K B W .fr (fun ρ g XX R => wl ρ g XX fun ds g1 => ds.length ≤ sizeLine ∧ R (.list ds) g1)) :=
  PE.imp (pe_lst h) fun σ H Q ⟨F, ast, ρ, g, XX, R, s, q, G⟩ => ⟨F, ast, ρ, g, XX, _, s, q, GoalL.of G s fun vs F1 H1 ds g1 s1 c1 G1 vv q1 => by
    have r := ValL.rp vv
    refine ⟨by rw [RpA.length r]; exact q1.1, fun p hp => ?_⟩
    have fp : F1 p = none := c1.fh.free hp
    have np : ast ≠ some p := fun z => by
      have st := c1.st.1
      rw [z] at st
      obtain ⟨_, b, c, y, ys, h1, _⟩ := st
      rw [hp] at h1
      cases h1
    have gr := Grow.fresh (o := .lst vs) c1.fh hp
    exact G1.ok _ F1 _ (.list ds) g1 gr.step (Same.updR c1.fh fp) (gr.st c1.st) ⟨p, rfl, hp, np, fp, .inl ⟨vs, ds, rfl, upd_same, r⟩⟩ q1.2⟩
theorem ixN_eq (n : Nat) (i : Int) : L2.ixN n i = Dz.ixN n i := rfl
theorem at_rp {K : PySem.W.Frag} {F : Hp} {vs : List V} {ds : List D} {i : Int} {d : D} (r : RpA K F vs ds) (h : at_ ds i = some d) : ∃ v, atI vs i = some v ∧ Rp K F v d := by
  unfold at_ at h
  unfold atI
  rw [ixN_eq, r.length]
  cases e : Dz.ixN ds.length i with
  | none => rw [e] at h; cases h
  | some j =>
    rw [e] at h
    exact r.get h
theorem snd_ix (ha : PE X a (TDm X.K B W .tp wa)) (hi : PE X i (TDm X.K B W .tp wb)) (hs : PlainIx i) :
    PE X (.Subscript a i pos) (TDm X.K B W .st (fun ρ g XX R => wa ρ g XX fun x g1 => wb ρ g1 XX fun y g2 => ixD x y fun z => R z g2)) :=
  PE.imp (pe_ix ix_seq ha hi hs) fun σ H Q ⟨F, ast, ρ, g, XX, R, s, q, G⟩ => by
    refine ⟨F, ast, ρ, g, XX, _, s, q, G.go s (t := .tp) fun v F1 H1 x g1 s1 c1 G1 vv q1 => ?_⟩
    refine ⟨F1, ast, ρ, g1, XX, _, c1, q1, G1.go c1 (t := .tp) fun u F2 H2 y g2 s2 c2 G2 uu q2 => ?_⟩
    have vv2 := Top.step vv s2
    cases x <;> cases y <;> first | exact False.elim q2 | skip
    · obtain ⟨d, e, q2⟩ := q2
      cases Top.int uu
      obtain ⟨p, vs, ev, hq, r⟩ := Top.list c2.fh vv2
      obtain ⟨z, ez, rz⟩ := at_rp r e
      exact .inl ⟨p, vs, _, z, ev, rfl, hq, ez, G2.here c2 rz q2⟩
    · obtain ⟨d, e, q2⟩ := q2
      cases Top.int uu
      obtain ⟨p, vs, ev, hq, r⟩ := Top.tuple c2.fh vv2
      obtain ⟨z, ez, rz⟩ := at_rp r e
      exact .inr (.inl ⟨p, vs, _, z, ev, rfl, hq, ez, G2.here c2 rz q2⟩)
/-! ### slices -/
abbrev TOw := Ev → Nat → XR → (Option Int → Nat → Prop) → Prop
structure GoalO (K : PySem.W.Frag) (B : Wish) (W : WX) (ast : Option Addr) (F H : Hp) (σ : L2.St) (X : XR) (R : Option Int → Nat → Prop) (Q : Option Int → Hp → Prop) : Prop where
  ok : ∀ v F' H' g, Step ast F H F' H' → Same F' H' → StOk K B F' H' ast g → R v g → Q v H'
  ex : ∀ x c F' H' g, Step ast F H F' H' → Same F' H' → StOk K B F' H' ast g → X x g → B.ok x c → W c none σ H'
def TOm (K : PySem.W.Frag) (B : Wish) (W : WX) (w : TOw) : TO := fun σ H Q =>
  ∃ F ast ρ g X R, SRc K B F H ast σ ρ g ∧ w ρ g X R ∧ GoalO K B W ast F H σ X R Q
theorem PO.imp {X : Cx} {e : Option Expr} {t t' : TO} (h : PO X e t) (i : ∀ σ H Q, t' σ H Q → t σ H Q) : PO X e t' := ⟨fun pins s σ H Q I q => h.run pins s σ H Q I (i σ H Q q)⟩
theorem onInt_some {k : Int → Prop} {d : D} (h : onInt d k) : ∃ i, d = .int i ∧ k i := by
  cases d <;> first | exact False.elim h | exact ⟨_, rfl, h⟩
theorem sndO_no : PO X none (TOm X.K B W (fun _ g _ Q => Q none g)) := PO.imp po_none fun σ H Q ⟨F, ast, ρ, g, XX, R, s, q, G⟩ => G.ok none F H g (Step.refl _ _ _) s.fh s.st q
theorem sndO_ye (h : PE X e (TDm X.K B W .tp w)) : PO X (some e) (TOm X.K B W (fun ρ g XX Q => w ρ g XX fun d g1 => onInt d fun i => Q (some i) g1)) :=
  PO.imp (po_some h) fun σ H Q ⟨F, ast, ρ, g, XX, R, s, q, G⟩ => ⟨F, ast, ρ, g, XX, _, s, q, ⟨fun v F' H' d g' st fh so vv q1 => by
    obtain ⟨i, rfl, q1⟩ := onInt_some q1
    cases Top.int vv
    exact ⟨i, rfl, G.ok _ F' H' g' st fh so q1⟩, G.ex⟩⟩
theorem GoalO.of {K : PySem.W.Frag} {B : Wish} {W : WX} {md : Md} {ast : Option Addr} {F H : Hp} {σ : L2.St} {X : XR} {R : Rs} {Q : VK} {ρ : Ev} {g : Nat} (G : Goal K B W md ast F H σ X R Q) (s : SRc K B F H ast σ ρ g) {R1 : Option Int → Nat → Prop} {Q1 : Option Int → Hp → Prop}
    (ok : ∀ v F' H' g', Step ast F H F' H' → SRc K B F' H' ast σ ρ g' → Goal K B W md ast F' H' σ X R Q → R1 v g' → Q1 v H') : GoalO K B W ast F H σ X R1 Q1 :=
  ⟨fun v F' H' g' st fh so r => ok v F' H' g' st (s.step st fh so) (G.later st) r, G.ex⟩
theorem cut_rp {K : PySem.W.Frag} {F : Hp} {vs : List V} {ds : List D} (r : RpA K F vs ds) (lo hi : Option Int) : RpA K F (cutV vs lo hi) (cutD ds lo hi) := by
  unfold cutV cutD
  rw [r.length]
  exact (r.drop _).take _
theorem cut_whole {K : PySem.W.Frag} {F : Hp} {vs : List V} {ds : List D} (r : RpA K F vs ds) (lo hi : Option Int) (h : HT.sIx vs.length 0 lo = 0 ∧ HT.sIx vs.length vs.length hi = vs.length) : cutD ds lo hi = ds := by
  rw [r.length] at h
  have h1 : Dz.sIx ds.length 0 lo = 0 := h.1
  have h2 : Dz.sIx ds.length ds.length hi = ds.length := h.2
  unfold cutD
  rw [h1, h2, List.drop_zero, Nat.sub_zero, List.take_length]
theorem snd_slice {lo hi : Option Expr} {p2 : Pos} {wl wh : TOw} (ha : PE X a (TDm X.K B W .tp wa)) (hl : PO X lo (TOm X.K B W wl)) (hh : PO X hi (TOm X.K B W wh)) :
    PE X (.Subscript a (.Slice lo hi none p2) pos) (TDm X.K B W .st (fun ρ g XX R => wa ρ g XX fun x g1 => wl ρ g1 XX fun l g2 => wh ρ g2 XX fun h g3 => sliceD x l h fun z => R z g3)) :=
  PE.imp (pe_slice (SlR.or sl_list sl_tupA) ha hl hh) fun σ H Q ⟨F, ast, ρ, g, XX, R, s, q, G⟩ => by
    refine ⟨F, ast, ρ, g, XX, _, s, q, G.go s (t := .tp) fun v F1 H1 x g1 s1 c1 G1 vv q1 => ?_⟩
    refine ⟨F1, ast, ρ, g1, XX, _, c1, q1, GoalO.of G1 c1 fun l F2 H2 g2 s2 c2 G2 q2 => ?_⟩
    refine ⟨F2, ast, ρ, g2, XX, _, c2, q2, GoalO.of G2 c2 fun h F3 H3 g3 s3 c3 G3 q3 => ?_⟩
    have vv3 := (Top.step vv s2).step s3
    cases x <;> first | exact False.elim q3 | skip
    · obtain ⟨p, vs, ev, hq, r⟩ := Top.list c3.fh vv3
      refine .inl ⟨p, vs, ev, hq, fun p' np => ?_⟩
      have gr := Grow.laid (o := .lst (cutV vs l h)) c3.fh np
      exact G3.grown c3 gr (Same.upd2 c3.fh) (Rp.lst (SqL.of upd_same) (RpA.mono gr.same _ _ (cut_rp r l h))) q3
    · obtain ⟨p, vs, ev, hq, r⟩ := Top.tuple c3.fh vv3
      refine .inr ⟨p, vs, ev, hq, fun hw => ?_, fun hw p' np => ?_⟩
      · rename_i ds
        have q4 : R (.tuple (cutD ds l h)) g3 := q3
        rw [cut_whole r l h hw] at q4
        rw [← ev]
        exact G3.here c3 (Top.stands vv3) q4
      · have gr := Grow.laid (o := .tup (cutV vs l h)) c3.fh np
        exact G3.grown c3 gr (Same.upd2 c3.fh) (Rp.tup (SqT.of upd_same) (RpA.mono gr.same _ _ (cut_rp r l h))) q3
end
end Dz
set_option Elab.async false
set_option linter.all false
set_option maxRecDepth 100000
/-! Dz: f-strings, calls of built-ins, of defs. -/
namespace Dz
open PySem PySem.Spec PyProof.Rows L2
section
variable {X : Cx} {B : Wish} {W : WX} {e a b c i : Expr} {es : List Expr} {w wa wb wc : Ev → Nat → XR → Rs → Prop} {wl : Ev → Nat → XR → (List D → Nat → Prop) → Prop} {pos : Pos}
/-! ### f-strings -/
structure GoalJ (K : PySem.W.Frag) (B : Wish) (W : WX) (ast : Option Addr) (F H : Hp) (σ : L2.St) (X : XR) (R : Str → Nat → Prop) (Q : Str → Hp → Prop) : Prop where
  ok : ∀ v F' H' g, Step ast F H F' H' → Same F' H' → StOk K B F' H' ast g → R v g → Q v H'
  ex : ∀ x c F' H' g, Step ast F H F' H' → Same F' H' → StOk K B F' H' ast g → X x g → B.ok x c → W c none σ H'
abbrev JW := Str → Ev → Nat → XR → (Str → Nat → Prop) → Prop
/-- the parts of an f-string and what is wanted of them -/
def PJd (X : Cx) (B : Wish) (W : WX) (es : List Expr) (w : JW) : Prop :=
  ∃ ts, PJ X es ts ∧ ∀ acc σ H Q, (∃ F ast ρ g XX R, SRc X.K B F H ast σ ρ g ∧ w acc ρ g XX R ∧ GoalJ X.K B W ast F H σ XX R Q) → tJs ts acc σ H Q
theorem sndJ_nil : PJd X B W [] (fun acc _ g _ Q => Q acc g) := ⟨[], .nil, fun acc σ H Q ⟨F, ast, ρ, g, XX, R, s, q, G⟩ => G.ok acc F H g (Step.refl _ _ _) s.fh s.st q⟩
theorem sndJ_str {x : Str} {j : Nat} {p : Pos} {wj : JW} (h : PJd X B W es wj) : PJd X B W (.Constant (.str x) j p :: es) (fun acc ρ g XX Q => strD (.str x) fun t => (acc ++ t).length ≤ sizeLine ∧ wj (acc ++ t) ρ g XX Q) := by
  obtain ⟨ts, h1, h2⟩ := h
  refine ⟨tC (.str x) :: ts, .cons pe_str h1, fun acc σ H Q ⟨F, ast, ρ, g, XX, R, s, q, G⟩ => ?_⟩
  exact ⟨x, rfl, q.2.1, h2 _ _ _ _ ⟨F, ast, ρ, g, XX, R, s, q.2.2, G⟩⟩
theorem sndJ_fmt {p : Pos} {wj : JW} (he : PE X e (TDm X.K B W .tp w)) (h : PJd X B W es wj) : PJd X B W (.FormattedValue e (-1) none p :: es) (fun acc ρ g XX Q => w ρ g XX fun d g1 => strD d fun t => (acc ++ t).length ≤ sizeLine ∧ wj (acc ++ t) ρ g1 XX Q) := by
  obtain ⟨ts, h1, h2⟩ := h
  refine ⟨_, .cons (pe_fmt he) h1, fun acc σ H Q ⟨F, ast, ρ, g, XX, R, s, q, G⟩ => ?_⟩
  refine ⟨F, ast, ρ, g, XX, _, s, q, ⟨fun v F' H' d g' st fh so vv q1 => ?_, G.ex⟩⟩
  have G1 : GoalJ X.K B W ast F' H' σ XX R Q := ⟨fun v F2 H2 g2 s' fh st' r => G.ok v F2 H2 g2 (st.trans s') fh st' r, fun x c F2 H2 g2 s' fh st' q b => G.ex x c F2 H2 g2 (st.trans s') fh st' q b⟩
  cases d <;> first | exact False.elim q1 | skip
  · cases Top.int vv
    exact .inr ⟨_, rfl, q1.1, _, rfl, q1.2.1, h2 _ _ _ _ ⟨F', ast, ρ, g', XX, R, s.step st fh so, q1.2.2, G1⟩⟩
  · cases Top.str vv
    exact .inl ⟨_, rfl, q1.1, _, rfl, q1.2.1, h2 _ _ _ _ ⟨F', ast, ρ, g', XX, R, s.step st fh so, q1.2.2, G1⟩⟩
theorem snd_fmt {v1 v2 : Expr} {rest : List Expr} {wj : JW} (h : PJd X B W (v1 :: v2 :: rest) wj) : PE X (.JoinedStr (v1 :: v2 :: rest) pos) (TDm X.K B W .st (fun ρ g XX Q => wj Str.empty ρ g XX fun t g1 => Q (.str t) g1)) := by
  obtain ⟨ts, h1, h2⟩ := h
  refine PE.imp (pe_joined h1) fun σ H Q ⟨F, ast, ρ, g, XX, R, s, q, G⟩ => h2 _ _ _ _ ⟨F, ast, ρ, g, XX, _, s, q, ⟨fun v F' H' g' st fh so r => ?_, G.ex⟩⟩
  exact G.ok (.str v) F' H' (.str v) g' st fh so (.str v) r

/-! ### built-ins -/
/-- a built-in on data, by values -/
def rF (K : PySem.W.Frag) (f : List D → (D → Prop) → Prop) : List V → Hp → VK → Prop := fun vs H Q => ∃ F ast ds P, Same F H ∧ Paired (fun v d => Top K ast F H v d) vs ds ∧ f ds P ∧ ∀ v F' H' z, Grow F H F' H' → Same F' H' → Rp K F' v z → P z → Q v H'
theorem snd_fnB {x : Str} {p : Pos} {id : String} {f : List D → (D → Prop) → Prop} (hc : CallR X (.builtin id) (rF X.K f)) (hg : Gl X x) (hm : X.mg x = none) (hv : bootBuiltins x = some (.builtin id)) (ha : PA X (e :: es) (TAm X.K B W .tp wl)) (hn : x ≠ "__name__") (hdb : (x == ("__debug__" : Str)) = false)
    (he : starEach (e :: es) X.env = (false, eval e X.env) :: starEach es X.env) (hpl : (backTo pos (starEach es X.env)).any (·.1) = false) :
    PE X (.Call (.Name x p) (e :: es) [] pos) (TDm X.K B W .st (fun ρ g XX R => wl ρ g XX fun ds g1 => f ds fun z => R z g1)) :=
  PE.imp (pe_callB hc hg hm hv ha hn hdb he hpl) fun σ H Q ⟨F, ast, ρ, g, XX, R, s, q, G⟩ => ⟨F, ast, ρ, g, XX, _, s, q, GoalL.of G s fun vs F1 H1 ds g1 s1 c1 G1 vv q1 =>
    ⟨F1, ast, ds, _, c1.fh, vv, q1, fun v' F' H' z gr fh' r p => G1.grown c1 gr fh' r p⟩⟩
theorem snd_fnT {x : Str} {p : Pos} {T : String} {f : List D → (D → Prop) → Prop} (hc : CallR X (.type T) (rF X.K f)) (hg : Gl X x) (hm : X.mg x = none) (hv : bootBuiltins x = some (.type T)) (ha : PA X (e :: es) (TAm X.K B W .tp wl)) (hn : x ≠ "__name__") (hdb : (x == ("__debug__" : Str)) = false)
    (he : starEach (e :: es) X.env = (false, eval e X.env) :: starEach es X.env) (hpl : (backTo pos (starEach es X.env)).any (·.1) = false) :
    PE X (.Call (.Name x p) (e :: es) [] pos) (TDm X.K B W .st (fun ρ g XX R => wl ρ g XX fun ds g1 => f ds fun z => R z g1)) :=
  PE.imp (pe_callTy hc hg hm hv ha hn hdb he hpl) fun σ H Q ⟨F, ast, ρ, g, XX, R, s, q, G⟩ => ⟨F, ast, ρ, g, XX, _, s, q, GoalL.of G s fun vs F1 H1 ds g1 s1 c1 G1 vv q1 =>
    ⟨F1, ast, ds, _, c1.fh, vv, q1, fun v' F' H' z gr fh' r p => G1.grown c1 gr fh' r p⟩⟩
theorem pr1 {α β : Type} {R : α → β → Prop} {vs : List α} {d : β} (h : Paired R vs [d]) : ∃ v, vs = [v] ∧ R v d := by
  cases h with
  | cons h r => cases r; exact ⟨_, rfl, h⟩
theorem pr2 {α β : Type} {R : α → β → Prop} {vs : List α} {d e : β} (h : Paired R vs [d, e]) : ∃ v u, vs = [v, u] ∧ R v d ∧ R u e := by
  cases h with
  | cons h r =>
    cases r with
    | cons h2 r => cases r; exact ⟨_, _, rfl, h, h2⟩
theorem cf_len : CallR X (.builtin "len") (rF X.K (fnD .len)) := by
  intro pins s σ H vs us Q I r h
  obtain ⟨F, ast, ds, P, fh, pr, f, k⟩ := h
  match ds, f with
  | [.list xs], f =>
    obtain ⟨v, rfl, t⟩ := pr1 pr
    obtain ⟨p, ys, rfl, hq, rr⟩ := Top.list fh t
    exact call_len_seq pins s σ H _ us Q I r ⟨p, ys, rfl, .inl hq, by rw [rr.length]; exact endI fh k (.int _) f⟩
  | [.tuple xs], f =>
    obtain ⟨v, rfl, t⟩ := pr1 pr
    obtain ⟨p, ys, rfl, hq, rr⟩ := Top.tuple fh t
    exact call_len_seq pins s σ H _ us Q I r ⟨p, ys, rfl, .inr hq, by rw [rr.length]; exact endI fh k (.int _) f⟩
theorem cf_abs : CallR X (.builtin "abs") (rF X.K (fnD .abs)) := by
  intro pins s σ H vs us Q I r h
  obtain ⟨F, ast, ds, P, fh, pr, f, k⟩ := h
  match ds, f with
  | [.int i], f =>
    obtain ⟨v, rfl, t⟩ := pr1 pr
    cases t.int
    exact call_abs pins s σ H _ us Q I r ⟨i, rfl, endI fh k (.int _) f⟩
theorem cf_int : CallR X (.type "int") (rF X.K (fnD .int)) := by
  intro pins s σ H vs us Q I r h
  obtain ⟨F, ast, ds, P, fh, pr, f, k⟩ := h
  match ds, f with
  | [.int i], f =>
    obtain ⟨v, rfl, t⟩ := pr1 pr
    cases t.int
    exact call_int1 pins s σ H _ us Q I r (.inl ⟨i, rfl, endI fh k (.int _) f⟩)
  | [.bool i], f =>
    obtain ⟨v, rfl, t⟩ := pr1 pr
    cases t.bool
    exact call_int1 pins s σ H _ us Q I r (.inr ⟨i, rfl, endI fh k (.int _) f⟩)
theorem cf_str : CallR X (.type "str") (rF X.K (fnD .str)) := by
  intro pins s σ H vs us Q I r h
  obtain ⟨F, ast, ds, P, fh, pr, f, k⟩ := h
  match ds, f with
  | [.int i], f =>
    obtain ⟨v, rfl, t⟩ := pr1 pr
    cases t.int
    exact call_str_int pins s σ H _ us Q I r ⟨i, rfl, f.1, endI fh k (.str _) f.2⟩
theorem cf_max (hc : X.calm = true) : CallR X (.builtin "max") (rF X.K (fnD .max)) := by
  intro pins s σ H vs us Q I r h
  obtain ⟨F, ast, ds, P, fh, pr, f, k⟩ := h
  match ds, f with
  | [.int i, .int j], f =>
    obtain ⟨v, u, rfl, t, t'⟩ := pr2 pr
    cases t.int; cases t'.int
    exact call_max2 hc pins s σ H _ us Q I r ⟨i, j, rfl, endI fh k (.int _) f⟩
  | [.list xs], f =>
    obtain ⟨v, rfl, t⟩ := pr1 pr
    obtain ⟨ns, rfl, hne, f⟩ := f
    obtain ⟨p, ys, rfl, hq, rr⟩ := Top.list fh t
    cases rpA_int_inv rr
    exact cr_max hc pins s σ H _ us Q I r ⟨p, ns, rfl, hq, List.length_pos_iff.mpr hne, fun m h1 h2 => endI fh k (.int _) (f m h1 h2)⟩
theorem tups_of {K : PySem.W.Frag} {F : Hp} : ∀ {vs : List V} (nss : List (List Int)), RpA K F vs (nss.map fun ns => PyData.tuple (ns.map PyData.int)) → ∃ ts : List Addr, vs = ts.map V.ref ∧ Paired (fun t ns => SqT K F t (ns.map V.int)) ts nss
  | _, [], h => by cases h; exact ⟨[], rfl, .nil⟩
  | _, ns :: nss, h => by
    cases h with
    | cons h1 h2 =>
      obtain ⟨ts, e, p⟩ := tups_of nss h2
      cases h1 with
      | tup a b =>
        cases rpA_int_inv b
        exact ⟨_ :: ts, by rw [e]; rfl, .cons a p⟩
theorem paired_mono {α β : Type} {R S : α → β → Prop} (h : ∀ a b, R a b → S a b) : ∀ {xs : List α} {ys : List β}, Paired R xs ys → Paired S xs ys
  | _, _, .nil => .nil
  | _, _, .cons a r => .cons (h _ _ a) (paired_mono h r)
theorem cf_min (hc : X.calm = true) (hu : X.A.units + 8 < cLine) : CallR X (.builtin "min") (rF X.K (fnD .min)) := by
  intro pins s σ H vs us Q I r h
  obtain ⟨F, ast, ds, P, fh, pr, f, k⟩ := h
  match ds, f with
  | [.int i, .int j], f =>
    obtain ⟨v, u, rfl, t, t'⟩ := pr2 pr
    cases t.int; cases t'.int
    exact call_min2 hc pins s σ H _ us Q I r ⟨i, j, rfl, endI fh k (.int _) f⟩
  | [.list xs], f =>
    obtain ⟨v, rfl, t⟩ := pr1 pr
    obtain ⟨p, ys, rfl, hq, rr⟩ := Top.list fh t
    rcases f with ⟨ns, rfl, hne, f⟩ | ⟨nss, rfl, hne, f⟩
    · cases rpA_int_inv rr
      exact cr_min hc pins s σ H _ us Q I r ⟨p, ns, rfl, hq, List.length_pos_iff.mpr hne, fun m h1 h2 => endI fh k (.int _) (f m h1 h2)⟩
    · obtain ⟨ts, rfl, pt⟩ := tups_of nss rr
      refine cr_minT hc hu pins s σ H _ us Q I r ⟨p, nss, rfl, ⟨ts, hq, paired_mono (fun a b h => Same.sqT fh h) pt⟩, hne, fun j v m hm hl hv => ?_⟩
      have hv' := hv _ hq
      obtain ⟨d, ed, rd⟩ := rr.get' hv'
      rw [List.getElem?_map, hm] at ed
      cases ed
      exact endI fh k rd (f m (List.mem_of_getElem? hm) fun y hy => by rw [← lexB_eq]; exact hl y hy)
theorem cf_sum (hc : X.calm = true) : CallR X (.builtin "sum") (rF X.K (fnD .sum)) := by
  intro pins s σ H vs us Q I r h
  obtain ⟨F, ast, ds, P, fh, pr, f, k⟩ := h
  match ds, f with
  | [.list xs], f =>
    obtain ⟨v, rfl, t⟩ := pr1 pr
    obtain ⟨ns, rfl, f⟩ := f
    obtain ⟨p, ys, rfl, hq, rr⟩ := Top.list fh t
    cases rpA_int_inv rr
    exact cr_sum hc pins s σ H _ us Q I r ⟨p, ns, rfl, hq, endI fh k (.int _) f⟩
theorem cf_sorted : CallR X (.builtin "sorted") (rF X.K (fnD .sorted)) := by
  intro pins s σ H vs us Q I r h
  obtain ⟨F, ast, ds, P, fh, pr, f, k⟩ := h
  match ds, f with
  | [.list xs], f =>
    obtain ⟨v, rfl, t⟩ := pr1 pr
    obtain ⟨ns, rfl, f⟩ := f
    obtain ⟨p, ys, rfl, hq, rr⟩ := Top.list fh t
    cases rpA_int_inv rr
    exact cr_sortedI pins s σ H _ us Q I r ⟨p, ns, rfl, hq, fun ns' b pm sr np => endN fh np k (laidL fh np (rpA_int_mk ns')) (f ns' pm sr)⟩
theorem cf_any (hc : X.calm = true) : CallR X (.builtin "any") (rF X.K (fnD .any)) := by
  intro pins s σ H vs us Q I r h
  obtain ⟨F, ast, ds, P, fh, pr, f, k⟩ := h
  match ds, f with
  | [.list xs], f =>
    obtain ⟨v, rfl, t⟩ := pr1 pr
    obtain ⟨ns, rfl, f⟩ := f
    obtain ⟨p, ys, rfl, hq, rr⟩ := Top.list fh t
    cases rpA_bool_inv rr
    exact cr_any hc pins s σ H _ us Q I r ⟨p, ns, rfl, hq, endI fh k (.bl _) f⟩
theorem cf_all (hc : X.calm = true) : CallR X (.builtin "all") (rF X.K (fnD .all)) := by
  intro pins s σ H vs us Q I r h
  obtain ⟨F, ast, ds, P, fh, pr, f, k⟩ := h
  match ds, f with
  | [.list xs], f =>
    obtain ⟨v, rfl, t⟩ := pr1 pr
    obtain ⟨ns, rfl, f⟩ := f
    obtain ⟨p, ys, rfl, hq, rr⟩ := Top.list fh t
    cases rpA_bool_inv rr
    exact cr_all hc pins s σ H _ us Q I r ⟨p, ns, rfl, hq, endI fh k (.bl _) f⟩
theorem cf_list : CallR X (.type "list") (rF X.K (fnD .list)) := by
  intro pins s σ H vs us Q I r h
  obtain ⟨F, ast, ds, P, fh, pr, f, k⟩ := h
  match ds, f with
  | [.list xs], f =>
    obtain ⟨v, rfl, t⟩ := pr1 pr
    obtain ⟨p, ys, rfl, hq, rr⟩ := Top.list fh t
    exact call_list_of pins s σ H _ us Q I r ⟨p, ys, rfl, .inl hq, fun b np => endN fh np k (laidL fh np rr) f⟩
  | [.tuple xs], f =>
    obtain ⟨v, rfl, t⟩ := pr1 pr
    obtain ⟨p, ys, rfl, hq, rr⟩ := Top.tuple fh t
    exact call_list_of pins s σ H _ us Q I r ⟨p, ys, rfl, .inr hq, fun b np => endN fh np k (laidL fh np rr) f⟩
theorem cf_tuple : CallR X (.type "tuple") (rF X.K (fnD .tuple)) := by
  intro pins s σ H vs us Q I r h
  obtain ⟨F, ast, ds, P, fh, pr, f, k⟩ := h
  match ds, f with
  | [.list xs], f =>
    obtain ⟨v, rfl, t⟩ := pr1 pr
    obtain ⟨p, ys, rfl, hq, rr⟩ := Top.list fh t
    exact call_tuple_of pins s σ H _ us Q I r ⟨p, ys, rfl, .inl ⟨hq, fun b np => endN fh np k (laidT fh np rr) f⟩⟩
  | [.tuple xs], f =>
    obtain ⟨v, rfl, t⟩ := pr1 pr
    have st := t.stands
    obtain ⟨p, ys, rfl, hq, rr⟩ := Top.tuple fh t
    exact call_tuple_of pins s σ H _ us Q I r ⟨p, ys, rfl, .inr ⟨hq, endI fh k st f⟩⟩
/-- repr of a list of data -/
theorem cf_repr (hu : X.A.units + 100 < cLine) (hgd : X.A.guards = some []) : CallR X (.builtin "repr") (rF X.K (fnD .repr)) := by
  intro pins s σ H vs us Q I r h
  obtain ⟨F, ast, ds, P, fh, pr, f, k⟩ := h
  match ds, f with
  | [.list xs], f =>
    obtain ⟨v, rfl, t⟩ := pr1 pr
    obtain ⟨p, ys, e, hq, rr⟩ := Top.list fh t
    subst e
    obtain ⟨u, rfl, ru⟩ := vals1 r
    cases ru
    obtain ⟨⟨f1, f2, f3, f4⟩, f5⟩ := f
    obtain ⟨as, rd⟩ := Dp.reads I (.list xs) (.ref p) (.ref p) (Rp.dp _ _ f3 (Top.rp fh t)) rfl
    exact repr_of_reads' rd f1 (PyData.noDict_hsm f3) hgd (by omega) (fun _ _ e => e) (fun h' u tk kk => ⟨.str (PyData.list xs).shown, H, I.kept kk, ⟨_, rfl⟩, endI fh k (.str _) f5⟩) f4
end
end Dz
set_option Elab.async false
set_option linter.all false
set_option maxRecDepth 100000
/-! Dz: in, is None, sets of lists, ranges as lists. -/
namespace Dz
open PySem PySem.Spec PyProof.Rows L2
def memF (neg : Bool) (x y : D) (Q : D → Prop) : Prop := memD x y fun t => Q (.bool (xor neg t))
def isnF (neg : Bool) (x y : D) (Q : D → Prop) : Prop := match y with
  | .none => Q (.bool (xor neg (isNone x)))
  | _ => False
section
variable {X : Cx} {B : Wish} {W : WX} {e a b c i : Expr} {es : List Expr} {w wa wb wc : Ev → Nat → XR → Rs → Prop} {pos p p2 q : Pos}
theorem isNone_top {K : PySem.W.Frag} {ast : Option Addr} {F H : Hp} {v : V} {d : D} (t : Top K ast F H v d) : decide (v = .non) = isNone d := by
  rcases t with t | ⟨a, e, n, o⟩
  · cases t <;> rfl
  · subst e
    rcases o.2 with ⟨vs, ds', e1, e2, r⟩ | ⟨kvs, ds, e1, e2, r⟩ <;> · subst e1; rfl
theorem or_is : OpR X (compareOp .Is) (rD X.K (isnF false)) := by
  intro pins s σ H x y v u Q I rx ry h
  obtain ⟨F, ast, d, e, P, fh, tx, ty, f, k⟩ := h
  cases e <;> first | exact False.elim f | skip
  have ey : y = .non := by
    have := isNone_top ty
    simpa [isNone] using this
  refine op_isN pins s σ H _ _ v u Q I rx ry ⟨ey, ?_⟩
  rw [isNone_top tx]
  have f' : P (.bool (xor false (isNone d))) := f
  rw [Bool.false_xor] at f'
  exact endI fh k (.bl _) f'
theorem or_isnot : OpR X (compareOp .IsNot) (rD X.K (isnF true)) := by
  intro pins s σ H x y v u Q I rx ry h
  obtain ⟨F, ast, d, e, P, fh, tx, ty, f, k⟩ := h
  cases e <;> first | exact False.elim f | skip
  have ey : y = .non := by
    have := isNone_top ty
    simpa [isNone] using this
  refine op_notN pins s σ H _ _ v u Q I rx ry ⟨ey, ?_⟩
  rw [isNone_top tx]
  have f' : P (.bool (xor true (isNone d))) := f
  rw [Bool.true_xor] at f'
  exact endI fh k (.bl _) f'
theorem flat_rp {K : PySem.W.Frag} {F : Hp} {v : V} {d : D} (f : flatD d = true) (r : Rp K F v d) : flatV v = true := by
  cases r <;> first | rfl | cases f
theorem eqv_flat {K : PySem.W.Frag} {F : Hp} {v u : V} {d e : D} (f : flatD d = true) (f2 : flatD e = true) (r : Rp K F v d) (r2 : Rp K F u e) : eqV v u = PyData.eqv d e := by
  cases r <;> first | (cases f; done) | (cases r2 <;> first | (cases f2; done) | (simp only [eqV, PyData.eqv]))
theorem flats_rp {K : PySem.W.Frag} {F : Hp} {u : V} {e : D} (f2 : flatD e = true) (r2 : Rp K F u e) : ∀ (ds : List D) (vs : List V), ds.all flatD = true → RpA K F vs ds → vs.all flatV = true ∧ (vs.any fun y => eqV y u) = ds.any fun z => PyData.eqv z e
  | [], _, _, h => by cases h; exact ⟨rfl, rfl⟩
  | d :: ds, _, f, h => by
    cases h with
    | cons h1 h2 =>
      rw [List.all_cons, Bool.and_eq_true] at f
      obtain ⟨q1, q2⟩ := flats_rp f2 r2 ds _ f.2 h2
      exact ⟨by rw [List.all_cons, q1, flat_rp f.1 h1]; rfl, by rw [List.any_cons, List.any_cons, q2, eqv_flat f.1 f2 h1 r2]⟩
theorem rp_of_flat {K : PySem.W.Frag} {ast : Option Addr} {F H : Hp} {v : V} {d : D} (f : flatD d = true) (t : Top K ast F H v d) : Rp K F v d := by
  rcases t with t | ⟨a, e, n, o⟩
  · exact t
  · rcases o.2 with ⟨vs, ds', e1, e2, r⟩ | ⟨kvs, ds, e1, e2, r⟩ <;> · subst e1; cases f
theorem or_in (hu : X.A.units + 65 < cLine) : OpR X (compareOp .In) (rD X.K (memF false)) := by
  intro pins s σ H x y v u Q I rx ry h
  obtain ⟨F, ast, d, e, P, fh, tx, ty, f, k⟩ := h
  cases e <;> first | exact False.elim f | skip
  · rename_i es
    obtain ⟨⟨sd, se⟩, f2⟩ := f
    rw [Bool.false_xor] at f2
    exact op_inD hu pins s σ H x y v u Q I rx ry ⟨d, es, Rp.dp d _ (PyData.hasDict_of_canLay _ (SeqAt.canLay_of_shaped sd)) (tx.rp fh), Rp.dp _ _ (PyData.hasDict_of_canLay _ (SeqAt.canLay_of_shaped se)) (ty.rp fh), sd, se, endI fh k (.bl _) f2⟩
  · rename_i es
    obtain ⟨⟨fd, fs⟩, f2⟩ := f
    rw [Bool.false_xor] at f2
    obtain ⟨a, vs, ev, hq, rr⟩ := Top.tuple fh ty
    have rd := rp_of_flat fd tx
    obtain ⟨q1, q2⟩ := flats_rp fd rd es vs fs rr
    refine op_in_seq pins s σ H x y v u Q I rx ry ⟨a, vs, ev, .inr hq, flat_rp fd rd, q1, ?_⟩
    rw [if_neg Bool.false_ne_true]
    show Q (.bl (vs.any fun y => eqV y x)) H
    rw [q2]
    exact endI fh k (.bl _) f2
theorem or_notin (hu : X.A.units + 65 < cLine) : OpR X (compareOp .NotIn) (rD X.K (memF true)) := by
  intro pins s σ H x y v u Q I rx ry h
  obtain ⟨F, ast, d, e, P, fh, tx, ty, f, k⟩ := h
  cases e <;> first | exact False.elim f | skip
  · rename_i es
    obtain ⟨⟨sd, se⟩, f2⟩ := f
    rw [Bool.true_xor] at f2
    exact op_notInD hu pins s σ H x y v u Q I rx ry ⟨d, es, Rp.dp d _ (PyData.hasDict_of_canLay _ (SeqAt.canLay_of_shaped sd)) (tx.rp fh), Rp.dp _ _ (PyData.hasDict_of_canLay _ (SeqAt.canLay_of_shaped se)) (ty.rp fh), sd, se, endI fh k (.bl _) f2⟩
  · rename_i es
    obtain ⟨⟨fd, fs⟩, f2⟩ := f
    rw [Bool.true_xor] at f2
    obtain ⟨a, vs, ev, hq, rr⟩ := Top.tuple fh ty
    have rd := rp_of_flat fd tx
    obtain ⟨q1, q2⟩ := flats_rp fd rd es vs fs rr
    refine op_notIn_seq pins s σ H x y v u Q I rx ry ⟨a, vs, ev, .inr hq, flat_rp fd rd, q1, ?_⟩
    rw [if_pos rfl]
    show Q (.bl (!(vs.any fun y => eqV y x))) H
    rw [q2]
    exact endI fh k (.bl _) f2
/-! ### sets of lists -/
theorem snd_sset (hc : X.calm = true) (hg : Gl X "sorted") (hm : X.mg "sorted" = none) (hg2 : Gl X "set") (hm2 : X.mg "set" = none) (ha : PE X a (TDm X.K B W .tp wa)) (na : starEach [a] X.env = (false, eval a X.env) :: starEach [] X.env) :
    PE X (.Call (.Name "sorted" p) [.Call (.Name "set" p2) [a] [] q] [] pos) (TDm X.K B W .st (fun ρ g XX R => wa ρ g XX fun x g1 => ssetD x fun z => R z g1)) :=
  PE.imp (pe_sset hc hg hm hg2 hm2 ha na) fun σ H Q ⟨F, ast, ρ, g, XX, R, s, q, G⟩ => ⟨F, ast, ρ, g, XX, _, s, q, G.go s (t := .tp) fun v F1 H1 x g1 s1 c1 G1 vv q1 => by
    cases x <;> first | exact False.elim q1 | skip
    obtain ⟨ns, rfl, hl, q1⟩ := q1
    obtain ⟨l, ys, rfl, hq, rr⟩ := Top.list c1.fh vv
    cases rpA_int_inv rr
    refine ⟨l, ns, rfl, hq, hl, fun r b hs hmem np => ?_⟩
    exact G1.grown c1 (Grow.laid c1.fh np) (Same.upd2 c1.fh) (laidL c1.fh np (rpA_int_mk r)) (q1 r hs hmem)⟩
theorem snd_lset (hc : X.calm = true) (hg : Gl X "len") (hm : X.mg "len" = none) (hg2 : Gl X "set") (hm2 : X.mg "set" = none) (ha : PE X a (TDm X.K B W .tp wa)) (na : starEach [a] X.env = (false, eval a X.env) :: starEach [] X.env) :
    PE X (.Call (.Name "len" p) [.Call (.Name "set" p2) [a] [] q] [] pos) (TDm X.K B W .st (fun ρ g XX R => wa ρ g XX fun x g1 => lsetD x fun z => R z g1)) :=
  PE.imp (pe_lset hc hg hm hg2 hm2 ha na) fun σ H Q ⟨F, ast, ρ, g, XX, R, s, q, G⟩ => ⟨F, ast, ρ, g, XX, _, s, q, G.go s (t := .tp) fun v F1 H1 x g1 s1 c1 G1 vv q1 => by
    cases x <;> first | exact False.elim q1 | skip
    obtain ⟨ns, rfl, hl, q1⟩ := q1
    obtain ⟨l, ys, rfl, hq, rr⟩ := Top.list c1.fh vv
    cases rpA_int_inv rr
    exact ⟨l, ns, rfl, hq, hl, fun r nd hmem => G1.here c1 (.int _) (q1 r nd hmem)⟩⟩
/-! ### xs[::-1] -/
theorem snd_rev {k : Nat} {p1 p2 p3 : Pos} (ha : PE X a (TDm X.K B W .tp wa)) : PE X (.Subscript a (.Slice none none (some (.UnaryOp .USub (.Constant (.int 1) k p1) p2)) p3) pos) (TDm X.K B W .st (fun ρ g XX R => wa ρ g XX fun x g1 => revD x fun z => R z g1)) :=
  PE.imp (pe_revL ha) fun σ H Q ⟨F, ast, ρ, g, XX, R, s, q, G⟩ => ⟨F, ast, ρ, g, XX, _, s, q, G.go s (t := .tp) fun v F1 H1 x g1 s1 c1 G1 vv q1 => by
    cases x <;> first | exact False.elim q1 | skip
    obtain ⟨l, ys, rfl, hq, rr⟩ := Top.list c1.fh vv
    refine ⟨l, ys, rfl, hq, fun b np => G1.grown c1 (Grow.laid c1.fh np) (Same.upd2 c1.fh) (laidL c1.fh np ?_) q1⟩
    clear q1 hq vv
    rename_i xs
    induction xs generalizing ys with
    | nil => cases rr; exact .nil
    | cons x xs ih =>
      cases rr with
      | cons h1 h2 =>
        rw [List.reverse_cons, List.reverse_cons]
        exact (ih _ h2).append (.cons h1 .nil)⟩
/-! ### ranges as lists, as tuples -/
theorem rpA_rg {K : PySem.W.Frag} {F : Hp} (i j : Int) : RpA K F (rgV i j) (rangeD i j) := by
  unfold rgV rangeD
  induction (List.range (j - i).toNat) with
  | nil => exact .nil
  | cons k ks ih => exact .cons (.int _) ih
theorem onInt2_some {d e : D} {k : Int → Int → Prop} (h : onInt2 d e k) : ∃ i j, d = .int i ∧ e = .int j ∧ k i j := by
  cases d <;> cases e <;> first | exact False.elim h | exact ⟨_, _, rfl, rfl, h⟩
abbrev rngW (tup : Bool) (wa wb : Ev → Nat → XR → Rs → Prop) : Ev → Nat → XR → Rs → Prop := fun ρ g XX R => wa ρ g XX fun x g1 => wb ρ g1 XX fun y g2 => onInt2 x y fun i j => (-(2 ^ 62) ≤ i ∧ i < 2 ^ 62 ∧ -(2 ^ 62) ≤ j ∧ j < 2 ^ 62 ∧ j - i ≤ 4000) ∧ R (if tup = true then .tuple (rangeD i j) else .list (rangeD i j)) g2
theorem rng_end {K : PySem.W.Frag} {W : WX} {ast : Option Addr} {F H : Hp} {σ : L2.St} {XX : XR} {R : Rs} {Q : VK} {ρ : Ev} {g : Nat} (G : Goal K B W .st ast F H σ XX R Q) (s : SRc K B F H ast σ ρ g) {i j : Int} (tup : Bool)
    (h : (-(2 ^ 62) ≤ i ∧ i < 2 ^ 62 ∧ -(2 ^ 62) ≤ j ∧ j < 2 ^ 62 ∧ j - i ≤ 4000) ∧ R (if tup = true then .tuple (rangeD i j) else .list (rangeD i j)) g) :
    RgOk i j ∧ ∀ q, H q = none → Q (.ref q) (upd H q (if tup = true then .tup (rgV i j) else .lst (rgV i j))) := by
  refine ⟨⟨h.1.1, h.1.2.1, h.1.2.2.1, h.1.2.2.2.1, by have := h.1.2.2.2.2; omega⟩, fun q np => ?_⟩
  cases tup with
  | true => exact G.grown s (Grow.laid s.fh np) (Same.upd2 s.fh) (laidT s.fh np (rpA_rg i j)) h.2
  | false => exact G.grown s (Grow.laid s.fh np) (Same.upd2 s.fh) (laidL s.fh np (rpA_rg i j)) h.2
theorem snd_rng2 (tup : Bool) (hc : X.calm = true) (hg : Gl X (if tup = true then "tuple" else "list")) (hm : X.mg (if tup = true then "tuple" else "list") = none) (hg2 : Gl X "range") (hm2 : X.mg "range" = none) (ha : PE X a (TDm X.K B W .tp wa)) (hb : PE X b (TDm X.K B W .tp wb))
    (na : starEach [a, b] X.env = (false, eval a X.env) :: starEach [b] X.env) (nb : starEach [b] X.env = (false, eval b X.env) :: starEach [] X.env) (hp : (backTo q (starEach [b] X.env)).any (·.1) = false) :
    PE X (.Call (.Name (if tup = true then "tuple" else "list") p) [.Call (.Name "range" p2) [a, b] [] q] [] pos) (TDm X.K B W .st (rngW tup wa wb)) := by
  cases tup with
  | true =>
    refine PE.imp (pe_tupRg hc hg hm (prg_2 hg2 hm2 ha hb na nb hp)) fun σ H Q ⟨F, ast, ρ, g, XX, R, s, q, G⟩ => ⟨F, ast, ρ, g, XX, _, s, q, G.go s (t := .tp) fun v F1 H1 x g1 s1 c1 G1 vv q1 =>
      ⟨F1, ast, ρ, g1, XX, _, c1, q1, G1.go c1 (t := .tp) fun u F2 H2 y g2 s2 c2 G2 uu q2 => ?_⟩⟩
    obtain ⟨i, j, rfl, rfl, q2⟩ := onInt2_some q2
    cases Top.int vv
    cases Top.int uu
    exact ⟨i, j, rfl, rfl, rng_end G2 c2 true q2⟩
  | false =>
    refine PE.imp (pe_listRg hc hg hm (prg_2 hg2 hm2 ha hb na nb hp)) fun σ H Q ⟨F, ast, ρ, g, XX, R, s, q, G⟩ => ⟨F, ast, ρ, g, XX, _, s, q, G.go s (t := .tp) fun v F1 H1 x g1 s1 c1 G1 vv q1 =>
      ⟨F1, ast, ρ, g1, XX, _, c1, q1, G1.go c1 (t := .tp) fun u F2 H2 y g2 s2 c2 G2 uu q2 => ?_⟩⟩
    obtain ⟨i, j, rfl, rfl, q2⟩ := onInt2_some q2
    cases Top.int vv
    cases Top.int uu
    exact ⟨i, j, rfl, rfl, rng_end G2 c2 false q2⟩
theorem snd_rng1 (tup : Bool) (hc : X.calm = true) (hg : Gl X (if tup = true then "tuple" else "list")) (hm : X.mg (if tup = true then "tuple" else "list") = none) (hg2 : Gl X "range") (hm2 : X.mg "range" = none) (hb : PE X b (TDm X.K B W .tp wb))
    (nb : starEach [b] X.env = (false, eval b X.env) :: starEach [] X.env) :
    PE X (.Call (.Name (if tup = true then "tuple" else "list") p) [.Call (.Name "range" p2) [b] [] q] [] pos) (TDm X.K B W .st (rngW tup (fun _ g _ Q => Q (.int 0) g) wb)) := by
  cases tup with
  | true =>
    refine PE.imp (pe_tupRg hc hg hm (prg_1 hg2 hm2 hb nb)) fun σ H Q ⟨F, ast, ρ, g, XX, R, s, q, G⟩ => ⟨F, ast, ρ, g, XX, _, s, q, G.go s (t := .tp) fun u F2 H2 y g2 s2 c2 G2 uu q2 => ?_⟩
    obtain ⟨i, j, e, rfl, q2⟩ := onInt2_some q2
    cases e
    cases Top.int uu
    exact ⟨j, rfl, rng_end G2 c2 true q2⟩
  | false =>
    refine PE.imp (pe_listRg hc hg hm (prg_1 hg2 hm2 hb nb)) fun σ H Q ⟨F, ast, ρ, g, XX, R, s, q, G⟩ => ⟨F, ast, ρ, g, XX, _, s, q, G.go s (t := .tp) fun u F2 H2 y g2 s2 c2 G2 uu q2 => ?_⟩
    obtain ⟨i, j, e, rfl, q2⟩ := onInt2_some q2
    cases e
    cases Top.int uu
    exact ⟨j, rfl, rng_end G2 c2 false q2⟩
theorem snd_ctup {x : Str} {ad : Addr} {d : D} (hg : Gl X x) (hm : X.mg x = some (.ref ad)) (hd : (x == ("__debug__" : Str)) = false) (hr : ∀ F, Rp X.K F (.ref ad) d) : PE X (.Name x pos) (TDm X.K B W .st (fun _ g _ Q => Q d g)) :=
  PE.imp (pe_glob (v := .ref ad) hg hm rfl hd) fun σ H Q ⟨F, ast, ρ, g, XX, R, s, q, G⟩ => G.here s (hr F) q
end
end Dz
set_option Elab.async false
set_option linter.all false
set_option maxRecDepth 100000
set_option maxHeartbeats 2000000
/-! Dz: enumerate(t) of a tuple. -/
namespace Dz
open PySem PySem.Spec PyProof.Rows L2 PySem.AutoSeq1
theorem enum_new_tup (l : Addr) (xs : Array Value) (n : Nat) (od : Option Addr) (os : Array (Option Value)) :
    Meets (Builtin.«enumerate.__new__» ⟨[.type "enumerate", .ref l], []⟩) (fun _ R s => s.heap.get? l = some { cls := .type "tuple", dict := od, data := .seq xs n, slots := os } ∧
      R (.ok (.ret (.ref (s.heap.push { cls := .type "tuple_iterator", data := .fields #[.ref l, .int 0 0] }).objs.size)))
        { s with heap := (s.heap.push { cls := .type "tuple_iterator", data := .fields #[.ref l, .int 0 0] }).push { cls := .type "enumerate", data := .fields #[.none, .bool false, .ref s.heap.objs.size, rawInt 0, .none, .none] } }) :=
  .of_wp fun prog w A R s h => by
    obtain ⟨hp, g, d, tk, qs⟩ := s
    obtain ⟨at_l, fin⟩ := h
    have sub := sub_enumerate
    have tup : Heap.IsTuple (Shared.heap ⟨hp, g, d, tk, qs⟩) l xs := ⟨_, at_l, rfl, n, rfl⟩
    wp_walk using wpAny_loadPart' at_l
    refine wpAny_stack_any fun st => wpAny_pure ?_
    split
    · rename_i c _ _ _ _ _
      cases (c == Value.type "enumerate")
      · wp_walk using wpAny_loadPart' at_l, wpAny_pyIter_tuple tup
        exact ⟨_, rfl, fin⟩
      · wp_walk using wpAny_loadPart' at_l, wpAny_pyIter_tuple tup
        exact ⟨_, rfl, fin⟩
    · wp_walk using wpAny_loadPart' at_l, wpAny_pyIter_tuple tup
      exact ⟨_, rfl, fin⟩
section
variable {prog : Program} {w : World} {A : Around} {E : Value → Shared → Prop} {s : Shared}
theorem call_enum_tup {l : Addr} {xs : Array Value} {Q : Value → Shared → Prop} (tup : s.heap.IsTuple l xs)
    (k : ∀ h', IsEnum h' (s.heap.objs.size + 1) s.heap.objs.size 0 .none → h'.IsTupleIter s.heap.objs.size l 0 → (∀ b o, s.heap.get? b = some o → h'.get? b = some o) → Q (.ref (s.heap.objs.size + 1)) { s with heap := h' }) :
    wpAny (model prog w) A (call (.type "enumerate") [.ref l]) Q E s := by
  obtain ⟨⟨oc, od, ot, os⟩, at_l, ec, n, ed⟩ := tup
  dsimp only at ec ed
  subst ec ed
  refine callType_new F.called_enumerate (by decide) (F.typeCall_enumerate_1 _) (F.newCall_enumerate_1 _) (fun ob => F.args_object_init_2 ob _) F.entry_enumerate_new (enum_new_tup l xs n od os) ⟨at_l, ?_⟩
  have sz : (s.heap.push ({ cls := .type "tuple_iterator", data := .fields #[.ref l, .int 0 0] } : Obj)).objs.size = s.heap.objs.size + 1 := Heap.size_push ..
  show _ ∧ _
  rw [sz]
  have en : IsEnum ((s.heap.push ({ cls := .type "tuple_iterator", data := .fields #[.ref l, .int 0 0] } : Obj)).push ({ cls := .type "enumerate", data := .fields #[.none, .bool false, .ref s.heap.objs.size, rawInt 0, .none, .none] } : Obj)) (s.heap.objs.size + 1) s.heap.objs.size 0 .none := by
    have q := Heap.get?_push_size (s.heap.push ({ cls := .type "tuple_iterator", data := .fields #[.ref l, .int 0 0] } : Obj)) (o := { cls := .type "enumerate", data := .fields #[.none, .bool false, .ref s.heap.objs.size, rawInt 0, .none, .none] }) rfl
    rw [sz] at q
    exact q
  exact ⟨⟨_, en, rfl⟩, k _ en ⟨_, Heap.get?_push_of_some _ (Heap.get?_push_size _ rfl), rfl, rfl⟩ fun b o q => Heap.get?_push_of_some _ (Heap.get?_push_of_some _ q)⟩
end
/-- the tuple at a as it stands at each turn, the items in new pairs with their places -/
def IteT (K : PySem.W.Frag) (a : Addr) : L2.It :=
  ⟨fun i H => ∃ (xs : List V) (x : V), SqT K H a xs ∧ xs[i]? = some x, fun i H v H' => ∃ T x, v = .ref T ∧ H T = none ∧ H' = upd H T (.tup [.int (i : Nat), x]) ∧ ∀ xs, SqT K H a xs → xs[i]? = some x, fun i H => ∃ xs : List V, SqT K H a xs ∧ xs.length = i⟩
theorem turn_enumT {P : Program} {w : World} {K : PySem.W.Frag} {elts : List Expr} {kk : Nat} {tpos : Pos} (a e it : Addr) :
    Turn P w K (.Tuple elts kk tpos) (IteT K a) [e, it] e (fun i h => (∃ old, IsEnum h e it ((i : Nat) : Int) old) ∧ h.IsTupleIter it a i ∧ e ≠ it ∧ a ≠ it ∧ a ≠ e) where
  mem := List.mem_cons_self ..
  obj := fun i h st b hb => by
    obtain ⟨⟨old, he⟩, ⟨o, ho, hc, hd⟩, _⟩ := st
    rcases List.mem_cons.mp hb with z | z
    · rw [z]; exact ⟨_, he, fun v q => nomatch q⟩
    · rw [List.mem_singleton.mp z]; exact ⟨o, ho, fun v q => by rw [hd] at q; cases q⟩
  keep := fun i h h' st k => by
    obtain ⟨⟨old, he⟩, hi, n1⟩ := st
    exact ⟨⟨old, k e (List.mem_cons_self ..) _ he⟩, hi.at fun o q => k it (List.mem_cons_of_mem _ (List.mem_singleton.mpr rfl)) o q, n1⟩
  item := by
    intro X hP hw hK hc i pins s σ H E I hf st hg
    subst hP hw hK
    obtain ⟨⟨old, he⟩, hit, hne, hai, hae⟩ := st
    obtain ⟨xs, x, hq, hx⟩ := hg
    obtain ⟨its, rv, p, hz⟩ := I.tuple hq
    obtain ⟨u, hu, ru⟩ := rv.get hx
    have hel : e < s.heap.objs.size := Heap.lt_size he
    have hil : it < s.heap.objs.size := by obtain ⟨_, q, _⟩ := hit; exact Heap.lt_size q
    have D := Draws.tuple (prog := X.prog) (w := X.w) (A := X.A.in1) (by have := I.ok.hd hc; simp [this]) it a hai its.toArray
    have hlt : i < its.toArray.size := by
      rw [List.size_toArray]
      exact (List.getElem?_eq_some_iff.mp hu).1
    refine wpAny_pyNext_enum_itemD D he ⟨hit, p⟩ hlt hne (fun z => ?_) fun y h' tk hy ho hit' hT hsz hk => ?_
    · rcases List.mem_cons.mp z with z | z
      · exact hne z
      · exact hae (List.mem_singleton.mp z).symm
    have ey : y = u := by
      have hu' : its.toArray[i]? = some u := by simpa using hu
      have hy' : its.toArray[i]? = some y := hy
      rw [hu'] at hy'
      exact (Option.some.inj hy').symm
    subst ey
    refine ⟨_, rfl, wpAny_letOwnedTupleGo_enum (s := { s with heap := h', toks := tk + 1 }) ho fun h'' he' sb => ?_⟩
    have hT2 : h''.get? s.heap.objs.size = some { cls := .type "tuple", data := .seq #[.int i tk, y] } := (sb.2 _ (Nat.ne_of_gt hel)).trans hT
    have new : ObjOk X.prog X.w (upd H s.heap.objs.size (.tup [.int (i : Nat), x])) h'' s.heap.objs.size (.tup [.int (i : Nat), x]) :=
      ⟨by show 2 ≤ sizeLine; decide, [.int i tk, y], .cons ⟨_, rfl⟩ (.cons ru .nil), ⟨_, hT2, rfl, _, rfl⟩⟩
    have I1 : Inv X pins σ (upd H s.heap.objs.size (.tup [.int (i : Nat), x])) { s with heap := h'', toks := tk + 1 } :=
      I.turnedNew (ch := [e, it]) (fun b ob hb q => (sb.2 b (fun z => hb (by simp [z]))).trans (hk b ob (fun z => hb (by simp [z])) (fun z => hb (by simp [z])) q)) hf (Nat.le_refl _) new
    refine ⟨.ref s.heap.objs.size, _, I1, rfl, ⟨_, x, rfl, I.hok.fresh (Nat.le_refl _), rfl, fun ys hy => by rw [I.tuple_inj hy hq]; exact hx⟩, ⟨⟨y, ?_⟩, hit'.1.at fun o q => (sb.2 it (Ne.symm hne)).trans q, hne, hai, hae⟩, fun b hb => ?_⟩
    · have e1 : ((i + 1 : Nat) : Int) = (i : Int) + 1 := by omega
      rw [e1]; exact he'
    · have hb' : b < s.heap.objs.size := by
        rcases List.mem_cons.mp hb with z | z
        · rw [z]; exact hel
        · rw [List.mem_singleton.mp z]; exact hil
      rw [upd_ne (Nat.ne_of_lt hb')]
      exact (hf b hb).1
  done := by
    intro X hP hw hK hc i pins s σ H E I hf st hg
    subst hP hw hK
    obtain ⟨⟨old, he⟩, hit, hne, hai, hae⟩ := st
    obtain ⟨xs, hq, hx⟩ := hg
    obtain ⟨its, rv, p, hz⟩ := I.tuple hq
    obtain ⟨f0, f1, f2, f3, f4, f5⟩ := hf it (List.mem_cons_of_mem _ (List.mem_singleton.mpr rfl))
    have hl := rv.length
    have D := Draws.tuple (prog := X.prog) (w := X.w) (A := X.A.in1) (by have := I.ok.hd hc; simp [this]) it a hai its.toArray
    have ei : i = its.toArray.size := by rw [List.size_toArray, ← hl]; exact hx.symm
    exact wpAny_pyNext_enum_endD D he (by rw [← ei]; exact ⟨hit, p⟩) fun h' eb => ⟨rfl, I.turned (t' := s.toks) (fun b o hb q => eb b o hb q) f0 f1 f3 f4 f5⟩
  self := fun A i s Q E st h => let ⟨⟨_, he⟩, _⟩ := st; wpAny_pyIter_enum he h
def iEnumT (K : PySem.W.Frag) (ta : TA) : TI := fun σ H R => ta σ H fun vs H1 => ∃ a, vs = [V.ref a] ∧ (((∃ xs, SqL K H1 a xs) ∧ R (Ite K a) H1) ∨ ((∃ xs, SqT K H1 a xs) ∧ R (IteT K a) H1))
theorem pi_enumA {X : Cx} {e : Expr} {ta : TA} {p pos tpos : Pos} {elts : List Expr} {kk : Nat} (hg : Gl X "enumerate") (hm : X.mg "enumerate" = none) (ha : PA X [e] ta) (hs : starEach [e] X.env = [(false, eval e X.env)]) :
    PI X (.Tuple elts kk tpos) (.Call (.Name "enumerate" p) [e] [] pos) (iEnumT X.K ta) := by
  refine ⟨fun pins s σ H R I h => ?_⟩
  refine Call_ (ld_blt I hg hm boot_enumerate (PyProof.Rows.callWith_type1 (thn (ha.run pos pins s σ H _ I h) fun us s1 ⟨vs, H1, I1, r1, q1⟩ => ?_) hs rfl))
  obtain ⟨a, ex, q⟩ := q1
  subst ex
  cases r1 with
  | cons r rr =>
    cases rr
    cases r
    have place : ∀ b ∈ [s1.heap.objs.size + 1, s1.heap.objs.size], s1.heap.objs.size ≤ b := fun b hb => by
      rcases List.mem_cons.mp hb with z | z
      · rw [z]; exact Nat.le_add_right _ _
      · rw [List.mem_singleton.mp z]; exact Nat.le_refl _
    rcases q with ⟨⟨xs, hq⟩, q⟩ | ⟨⟨xs, hq⟩, q⟩
    · obtain ⟨its, rv, pl, hz⟩ := I1.list hq
      refine call_enumerate_list pl.isList fun h' he hit hsz hk => wpAny_pyIter_enum he ?_
      exact ⟨_, _, _, _, H1, rfl, I1.kept (t' := s1.toks) hk, turn_enum a (s1.heap.objs.size + 1) s1.heap.objs.size, ⟨⟨.none, he⟩, hit, Nat.succ_ne_self _⟩, fun b hb => I1.fpOk (place b hb) (I1.hok.fresh (place b hb)), q⟩
    · obtain ⟨its, rv, pl, hz⟩ := I1.tuple hq
      have la : a < s1.heap.objs.size := by obtain ⟨o, ho, _⟩ := pl; exact Heap.lt_size ho
      refine call_enum_tup pl fun h' he hit hk => wpAny_pyIter_enum he ?_
      exact ⟨_, _, _, _, H1, rfl, I1.kept (t' := s1.toks) hk, turn_enumT a (s1.heap.objs.size + 1) s1.heap.objs.size, ⟨⟨.none, he⟩, hit, Nat.succ_ne_self _, Nat.ne_of_lt la, Nat.ne_of_lt (Nat.lt_succ_of_lt la)⟩, fun b hb => I1.fpOk (place b hb) (I1.hok.fresh (place b hb)), q⟩
theorem walk_enumT {K : PySem.W.Frag} {a : Addr} {xs : List V} : Walk (IteT K a) xs.length (fun H => SqT K H a xs) (YPair (fun i => some (.int (i : Nat))) (fun i => xs[i]?)) := by
  refine ⟨fun i _ hi q => ⟨xs, xs[i], q, by simp [hi]⟩, fun _ q => ⟨xs, q, rfl⟩, fun i H v H' _ q y => ?_⟩
  obtain ⟨T, x, h1, h2, h3, h4⟩ := y
  exact ⟨T, .int (i : Nat), x, h1, h2, h3, rfl, h4 xs q⟩
end Dz
set_option Elab.async false
set_option linter.all false
set_option maxRecDepth 100000
/-! Dz: defs: what a def promises over data, its call. -/
namespace Dz
open PySem PySem.Spec PyProof.Rows L2
/-- a def's promise, told of calls within which no repr is running -/
structure FnG (P : Program) (w : World) (K : PySem.W.Frag) (mg : Str → Option Value) (base : Heap) (k : Nat) (f : Addr) (fd : FuncData) (ps : List Str) (sp : Sp) : Prop where
  len : ∀ vs H Q E, sp vs H Q E → vs.length = ps.length
  run : ∀ (A : Around) (outer : List Env) (s : Shared) (H : Hp) (us : List Value) (vs : List V) (Q : VK) (E : XK), Room k A → A.guards = some [] → Env0 P w K mg base A outer s H →
    BindsTo s fd ⟨us, []⟩ (ps.zip us) → Vals vs us → sp vs H Q E → codeAny (model P w) A (.call (.ref f) ⟨us, []⟩) (CR (L2N.CX P w) outer P w H s Q E) s
theorem FnG.mono {P : Program} {w : World} {K : PySem.W.Frag} {mg : Str → Option Value} {base : Heap} {j k : Nat} {f : Addr} {fd : FuncData} {ps : List Str} {sp : Sp} (F : FnG P w K mg base j f fd ps sp) (h : j ≤ k) : FnG P w K mg base k f fd ps sp :=
  ⟨F.len, fun A outer s H us vs Q E hr => F.run A outer s H us vs Q E (hr.mono h)⟩
theorem takesN0 {X : Cx} : L2N.Takes X (fun _ _ _ _ => False) := fun _ _ x => by
  obtain ⟨_, _, _, _, _, _, _, _, _, _, _, _, _, _, _, _, z⟩ := x
  exact z.elim
section
variable {X : Cx} {k : Nat} {f : Addr} {fd : FuncData} {ps : List Str} {sp : Sp}
theorem run_fnG {pins : List (Addr × Obj)} {σ : L2.St} {H : Hp} {s : Shared} {Q : VK} {E : XK} {us : List Value} {vs : List V} (F : FnG X.prog X.w X.K X.mg X.base k f fd ps sp) (hr : Room k X.A) (hg : X.A.guards = some []) (hb : Binds X.K fd ps [])
    (hx : PassesAt (L2N.CX X.prog X.w) X σ E) (I : Inv X pins σ H s) (r : Vals vs us) (h : sp vs H Q E) : wpAny (model X.prog X.w) X.A (call (.ref f) us) (EP X pins σ Q) X.xe s := by
  have hlen : us.length = ps.length := r.length.symm.trans (F.len vs H Q E h)
  have hbind : BindsTo s fd ⟨us, []⟩ (ps.zip us) := by
    have q := hb s us I.kIn (by rw [List.append_nil]; exact hlen)
    rw [List.append_nil] at q
    exact q
  have run := F.run X.A X.stack s H us vs Q E hr hg I.env0 hbind r h
  refine wpAny_call (codeAny_mono run ?_)
  intro res s' q
  match res, q with
  | .error e, q => exact hx pins H s e s' I q
  | .ok (.ret u), q => exact I.after q
/-- f(e, ..) by its promise -/
theorem pe_callG {x : Str} {p pos : Pos} {e : Expr} {es : List Expr} {t : TA} {E : L2.St → XK} (F : FnG X.prog X.w X.K X.mg X.base k f fd ps sp) (hr : Room k X.A) (hgd : X.A.guards = some []) (hg : Gl X x) (hm : X.mg x = some (.ref f))
    (hk : PySem.W.keepIn X.K (.ref f) = true) (hb : Binds X.K fd ps []) (hx : ∀ σ, PassesAt (L2N.CX X.prog X.w) X σ (E σ)) (ha : PA X (e :: es) t) (hdb : (x == ("__debug__" : Str)) = false)
    (he : starEach (e :: es) X.env = (false, eval e X.env) :: starEach es X.env) (hpl : (backTo pos (starEach es X.env)).any (·.1) = false) : PE X (.Call (.Name x p) (e :: es) [] pos) (tCallS sp E t) := by
  constructor
  intro pins s σ H Q I h
  refine wpAny_Call_Name_kw (ld_glob I hg hm (PySem.W.callWith_K (h₀ := X.base) I.ok.mod.kin hk ?_ he hpl) hdb)
  refine thn (ha.run pos pins s σ H _ I h) ?_
  rintro us s1 ⟨vs, H1, I1, r, q⟩
  exact ⟨I1.kIn, run_fnG F hr hgd hb (hx σ) I1 r q⟩
/-- f() -/
theorem pe_callG0 {x : Str} {p pos : Pos} {E : L2.St → XK} (F : FnG X.prog X.w X.K X.mg X.base k f fd ps sp) (hr : Room k X.A) (hgd : X.A.guards = some []) (hg : Gl X x) (hm : X.mg x = some (.ref f))
    (hk : PySem.W.keepIn X.K (.ref f) = true) (hb : Binds X.K fd ps []) (hx : ∀ σ, PassesAt (L2N.CX X.prog X.w) X σ (E σ)) (hdb : (x == ("__debug__" : Str)) = false) : PE X (.Call (.Name x p) [] [] pos) (tCallS sp E tNil) := by
  constructor
  intro pins s σ H Q I h
  exact wpAny_Call_Name_kw (ld_glob I hg hm (PySem.W.callWith_K0 I.kIn hk (run_fnG (us := []) F hr hgd hb (hx σ) I .nil h)) hdb)
end

/-! ### promises over data -/
def ArgOk (K : PySem.W.Frag) (F : Hp) (ast : Option Addr) (v : V) : SV → Prop
  | .fz d => Rp K F v d
  | .st => ∃ a, v = .ref a ∧ ast = some a
  | _ => False
/-- the promise that a predicate over data makes -/
def spD (K : PySem.W.Frag) (B : Wish) (np : Nat) (φ : List SV → Nat → XR → Rs → Prop) : Sp := fun vs H Q E => vs.length = np ∧ ∃ F ast svs g X R, Same F H ∧ StOk K B F H ast g ∧ Paired (ArgOk K F ast) vs svs ∧ φ svs g X R ∧
  (∀ v F' H' d g', Step ast F H F' H' → Same F' H' → StOk K B F' H' ast g' → Rp K F' v d → R d g' → Q v H') ∧ (∀ x c F' H' g', Step ast F H F' H' → Same F' H' → StOk K B F' H' ast g' → X x g' → B.ok x c → E c none H')
/-- a list of arguments -/
structure GoalA (K : PySem.W.Frag) (B : Wish) (W : WX) (ast : Option Addr) (F H : Hp) (σ : L2.St) (X : XR) (R : List SV → Nat → Prop) (Q : List V → Hp → Prop) : Prop where
  ok : ∀ vs F' H' svs g, Step ast F H F' H' → Same F' H' → StOk K B F' H' ast g → Paired (ArgOk K F' ast) vs svs → R svs g → Q vs H'
  ex : ∀ x c F' H' g, Step ast F H F' H' → Same F' H' → StOk K B F' H' ast g → X x g → B.ok x c → W c none σ H'
abbrev AW := Ev → Nat → XR → (List SV → Nat → Prop) → Prop
def TGm (K : PySem.W.Frag) (B : Wish) (W : WX) (w : AW) : TA := fun σ H Q => ∃ F ast ρ g X R, SRc K B F H ast σ ρ g ∧ w ρ g X R ∧ GoalA K B W ast F H σ X R Q
theorem ArgOk.mono {K : PySem.W.Frag} {F F' : Hp} (s : Same F F') {ast : Option Addr} {v : V} {sv : SV} (h : ArgOk K F ast v sv) : ArgOk K F' ast v sv := by
  cases sv with
  | fz d => exact Rp.mono s _ _ h
  | st => exact h
  | _ => exact h
theorem onSt_some {o : Option SV} {P : Prop} (h : onSt o P) : o = some .st ∧ P := by
  match o, h with
  | some .st, h => exact ⟨rfl, h⟩
theorem onFz_some {o : Option SV} {P : D → Prop} (h : onFz o P) : ∃ d, o = some (.fz d) ∧ P d := by
  match o, h with
  | some (.fz d), h => exact ⟨d, rfl, h⟩
theorem onOw_some {o : Option SV} {P : D → Prop} (h : onOw o P) : ∃ d, o = some (.ow d) ∧ P d := by
  match o, h with
  | some (.ow d), h => exact ⟨d, rfl, h⟩
section
variable {X : Cx} {B : Wish} {W : WX} {e : Expr} {es : List Expr} {w : Ev → Nat → XR → Rs → Prop} {wa : AW} {pos : Pos}
theorem sndA_nil : PA X [] (TGm X.K B W (fun _ g _ Q => Q [] g)) := PA.imp pa_nil fun σ H Q ⟨F, ast, ρ, g, XX, R, s, q, G⟩ => G.ok [] F H [] g (Step.refl _ _ _) s.fh s.st .nil q
theorem sndA_cons (he : PE X e (TDm X.K B W .st w)) (hr : PA X es (TGm X.K B W wa)) (hs : starEach (e :: es) X.env = (false, eval e X.env) :: starEach es X.env) :
    PA X (e :: es) (TGm X.K B W (fun ρ g XX R => w ρ g XX fun d g1 => wa ρ g1 XX fun ds g2 => R (.fz d :: ds) g2)) :=
  PA.imp (pa_cons he hr hs) fun σ H Q ⟨F, ast, ρ, g, XX, R, s, q, G⟩ => by
    refine ⟨F, ast, ρ, g, XX, _, s, q, ⟨fun v F1 H1 d g1 s1 fh1 st1 vv q1 => ?_, G.ex⟩⟩
    refine ⟨F1, ast, ρ, g1, XX, _, s.step s1 fh1 st1, q1, ⟨fun vs F2 H2 ds g2 s2 fh2 st2 vvs q2 => ?_, fun x c F2 H2 g2 s2 fh2 st2 q b => G.ex x c F2 H2 g2 (s1.trans s2) fh2 st2 q b⟩⟩
    exact G.ok (v :: vs) F2 H2 _ g2 (s1.trans s2) fh2 st2 (.cons (ArgOk.mono (sv := .fz d) s2.same vv) vvs) q2
theorem sndA_st {i : Nat} {x : Str} {p : Pos} (hN : X.N[i]? = some x) (hv : Vis X.env.scope x) (hd : (x == ("__debug__" : Str)) = false) (hcd : (x == ("__classdict__" : Str)) = false) (hr : PA X es (TGm X.K B W wa)) :
    PA X (.Name x p :: es) (TGm X.K B W (fun ρ g XX R => onSt ρ[i]? (wa ρ g XX fun ds g2 => R (.st :: ds) g2))) :=
  PA.imp (pa_cons (pe_var hN hv hd hcd) hr rfl) fun σ H Q ⟨F, ast, ρ, g, XX, R, s, q, G⟩ => by
    obtain ⟨hi, q⟩ := onSt_some q
    obtain ⟨y, e, a, ev, ea⟩ := s.sl.at_ i _ hi
    subst ev
    refine ⟨.ref a, e, F, ast, ρ, g, XX, _, s, q, ⟨fun vs F2 H2 ds g2 s2 fh2 st2 vvs q2 => ?_, G.ex⟩⟩
    exact G.ok (.ref a :: vs) F2 H2 _ g2 s2 fh2 st2 (.cons (show ArgOk _ _ _ _ SV.st from ⟨a, rfl, ea⟩) vvs) q2
theorem call_ok {np : Nat} {φ : List SV → Nat → XR → Rs → Prop} (hlen : ∀ svs g XX R, φ svs g XX R → svs.length = np) {σ : L2.St} {H : Hp} {Q : VK} (h : TDm X.K B W .st (fun ρ g XX R => wa ρ g XX fun svs g1 => φ svs g1 XX R) σ H Q) :
    tCallS (spD X.K B np φ) (WE W) (TGm X.K B W wa) σ H Q := by
  obtain ⟨F, ast, ρ, g, XX, R, s, q, G⟩ := h
  refine ⟨F, ast, ρ, g, XX, _, s, q, ⟨fun vs F1 H1 svs g1 s1 fh1 st1 vv q1 => ?_, G.ex⟩⟩
  refine ⟨by rw [vv.length]; exact hlen _ _ _ _ q1, F1, ast, svs, g1, XX, R, fh1, st1, vv, q1, fun v F' H' d g' s' fh' st' r p => ?_, fun x c F' H' g' s' fh' st' p b => ?_⟩
  · exact G.ok v F' H' d g' (s1.trans s') fh' st' r p
  · exact G.ex x c F' H' g' (s1.trans s') fh' st' p b
theorem snd_call {np k : Nat} {f : Addr} {fd : FuncData} {ps : List Str} {x : Str} {p : Pos} {φ : List SV → Nat → XR → Rs → Prop} (hlen : ∀ svs g XX R, φ svs g XX R → svs.length = np) (FN : FnG X.prog X.w X.K X.mg X.base k f fd ps (spD X.K B np φ)) (hr : Room k X.A) (hgd : X.A.guards = some []) (hg : Gl X x)
    (hm : X.mg x = some (.ref f)) (hk : PySem.W.keepIn X.K (.ref f) = true) (hb : Binds X.K fd ps []) (tk : L2N.Takes X W) (ha : PA X (e :: es) (TGm X.K B W wa)) (hdb : (x == ("__debug__" : Str)) = false)
    (he : starEach (e :: es) X.env = (false, eval e X.env) :: starEach es X.env) (hpl : (backTo pos (starEach es X.env)).any (·.1) = false) :
    PE X (.Call (.Name x p) (e :: es) [] pos) (TDm X.K B W .st (fun ρ g XX R => wa ρ g XX fun svs g1 => φ svs g1 XX R)) :=
  PE.imp (pe_callG (E := WE W) FN hr hgd hg hm hk hb (fun σ => L2N.passAt tk σ) ha hdb he hpl) fun σ H Q h => call_ok hlen h
theorem snd_call0 {np k : Nat} {f : Addr} {fd : FuncData} {ps : List Str} {x : Str} {p : Pos} {φ : List SV → Nat → XR → Rs → Prop} (hlen : ∀ svs g XX R, φ svs g XX R → svs.length = np) (FN : FnG X.prog X.w X.K X.mg X.base k f fd ps (spD X.K B np φ)) (hr : Room k X.A) (hgd : X.A.guards = some []) (hg : Gl X x)
    (hm : X.mg x = some (.ref f)) (hk : PySem.W.keepIn X.K (.ref f) = true) (hb : Binds X.K fd ps []) (tk : L2N.Takes X W) (hdb : (x == ("__debug__" : Str)) = false) :
    PE X (.Call (.Name x p) [] [] pos) (TDm X.K B W .st (fun ρ g XX R => φ [] g XX R)) :=
  PE.imp (pe_callG0 (E := WE W) FN hr hgd hg hm hk hb (fun σ => L2N.passAt tk σ) hdb) fun σ H Q ⟨F, ast, ρ, g, XX, R, s, q, G⟩ =>
    ⟨hlen _ _ _ _ q, F, ast, [], g, XX, R, s.fh, s.st, .nil, q, G.ok, G.ex⟩
end
/-! ### draws -/
/-- next(state, many): a number from 0 to below many, the counter one more -/
def spNext (K : PySem.W.Frag) (B : Wish) : Sp := fun vs H Q _ => ∃ (F : Hp) (a : Addr) (m : Int) (g : Nat), vs = [.ref a, .int m] ∧ Same F H ∧ StOk K B F H (some a) g ∧ 0 < m ∧ 1 < g ∧
  ∀ (x : Int) (H' : Hp), 0 ≤ x → x < m → Step (some a) F H F H' → Same F H' → StOk K B F H' (some a) (g - 1) → Q (.int x) H'
section
variable {X : Cx} {B : Wish} {W : WX} {e : Expr} {w : Ev → Nat → XR → Rs → Prop} {pos : Pos}
theorem snd_draw {k i : Nat} {f : Addr} {fd : FuncData} {ps : List Str} {x y : Str} {p p2 : Pos} (FN : FnG X.prog X.w X.K X.mg X.base k f fd ps (spNext X.K B)) (hr : Room k X.A) (hgd : X.A.guards = some []) (hg : Gl X x)
    (hm : X.mg x = some (.ref f)) (hk : PySem.W.keepIn X.K (.ref f) = true) (hb : Binds X.K fd ps []) (tk : L2N.Takes X W) (hN : X.N[i]? = some y) (hv : Vis X.env.scope y) (hd : (y == ("__debug__" : Str)) = false) (hcd : (y == ("__classdict__" : Str)) = false)
    (he : PE X e (TDm X.K B W .tp w)) (hdb : (x == ("__debug__" : Str)) = false) (hs : starEach [e] X.env = [(false, eval e X.env)]) :
    PE X (.Call (.Name x p) [.Name y p2, e] [] pos) (TDm X.K B W .st (fun ρ g XX R => onSt ρ[i]? (w ρ g XX fun d g1 => onInt d fun n => 0 < n ∧ 1 < g1 ∧ ∀ x : Int, 0 ≤ x → x < n → R (.int x) (g1 - 1)))) := by
  have ha : PA X [.Name y p2, e] (tCons (tVar i) (tCons (TDm X.K B W .tp w) tNil)) := pa_cons (pe_var hN hv hd hcd) (pa_cons he pa_nil hs) rfl
  have hpl : (backTo pos (starEach [e] X.env)).any (·.1) = false := by rw [hs]; rfl
  refine PE.imp (pe_callG (E := WE W) FN hr hgd hg hm hk hb (fun σ => L2N.passAt tk σ) ha hdb rfl hpl) fun σ H Q ⟨F, ast, ρ, g, XX, R, s, q, G⟩ => ?_
  obtain ⟨hi, q⟩ := onSt_some q
  obtain ⟨z, e1, a, ev, ea⟩ := s.sl.at_ i _ hi
  subst ev ea
  refine ⟨.ref a, e1, F, some a, ρ, g, XX, _, s, q, G.go s (t := .tp) fun v F1 H1 d g1 s1 c1 G1 vv q1 => ?_⟩
  obtain ⟨n, rfl, q1⟩ := onInt_some q1
  cases Top.int vv
  refine ⟨F1, a, n, g1, rfl, c1.fh, c1.st, q1.1, q1.2.1, fun x H' h1 h2 st fh so => ?_⟩
  exact G1.ok (.int x) F1 H' (.int x) (g1 - 1) st fh so (.int x) (q1.2.2 x h1 h2)
end
end Dz
set_option Elab.async false
set_option linter.all false
set_option maxRecDepth 100000
/-! Dz: what is walked; comprehensions. -/
namespace Dz
open PySem PySem.Spec PyProof.Rows L2 RZ
/-- a walk over the data ds, from F on -/
def WalkD (K : PySem.W.Frag) (F1 : Hp) (J : L2.It) (ds : List D) : Prop := ∃ n G Y, Walk J n G Y ∧ n = ds.length ∧ (∀ F H, Same F1 F → Same F H → G H) ∧
  ∀ i F H x H', i < n → Same F1 F → Same F H → Y i H x H' → ∃ F' d, Grow F H F' H' ∧ Same F' H' ∧ ds[i]? = some d ∧ Rp K F' x d
structure GoalI (K : PySem.W.Frag) (B : Wish) (W : WX) (ast : Option Addr) (F H : Hp) (σ : L2.St) (X : XR) (R : List D → Nat → Prop) (Q : L2.It → Hp → Prop) : Prop where
  ok : ∀ J F' H' ds g, Step ast F H F' H' → Same F' H' → StOk K B F' H' ast g → WalkD K F' J ds → R ds g → Q J H'
  ex : ∀ x c F' H' g, Step ast F H F' H' → Same F' H' → StOk K B F' H' ast g → X x g → B.ok x c → W c none σ H'
abbrev IW := Ev → Nat → XR → (List D → Nat → Prop) → Prop
def TIm (K : PySem.W.Frag) (B : Wish) (W : WX) (w : IW) : TI := fun σ H Q => ∃ F ast ρ g X R, SRc K B F H ast σ ρ g ∧ w ρ g X R ∧ GoalI K B W ast F H σ X R Q
theorem PI.imp {X : Cx} {tg e : Expr} {t t' : TI} (h : PI X tg e t) (i : ∀ σ H Q, t' σ H Q → t σ H Q) : PI X tg e t' := ⟨fun pins s σ H R I q => h.run pins s σ H R I (i σ H R q)⟩
theorem GoalI.sub {K : PySem.W.Frag} {B : Wish} {W : WX} {ast : Option Addr} {F H : Hp} {σ : L2.St} {X : XR} {R : List D → Nat → Prop} {Q : L2.It → Hp → Prop} (G : GoalI K B W ast F H σ X R Q) {ρ : Ev} {g : Nat} (s : SRc K B F H ast σ ρ g) {t : Md} {R1 : Rs} {Q1 : VK}
    (ok : ∀ v F' H' d g', Step ast F H F' H' → SRc K B F' H' ast σ ρ g' → GoalI K B W ast F' H' σ X R Q → Val K t ast H F' H' v d → R1 d g' → Q1 v H') : Goal K B W t ast F H σ X R1 Q1 :=
  ⟨fun v F' H' d g' st fh so vv r => ok v F' H' d g' st (s.step st fh so)
    ⟨fun J F2 H2 ds g2 s' fh st' wk r => G.ok J F2 H2 ds g2 (st.trans s') fh st' wk r, fun x c F2 H2 g2 s' fh st' q b => G.ex x c F2 H2 g2 (st.trans s') fh st' q b⟩ vv r, G.ex⟩
theorem GoalI.here {K : PySem.W.Frag} {B : Wish} {W : WX} {ast : Option Addr} {F H : Hp} {σ : L2.St} {X : XR} {R : List D → Nat → Prop} {Q : L2.It → Hp → Prop} (G : GoalI K B W ast F H σ X R Q) {ρ : Ev} {g : Nat} (s : SRc K B F H ast σ ρ g) {J : L2.It} {ds : List D} (wk : WalkD K F J ds) (r : R ds g) : Q J H :=
  G.ok J F H ds g (Step.refl _ _ _) s.fh s.st wk r
theorem Rp.listInv {K : PySem.W.Frag} {F : Hp} {v : V} {ds : List D} (h : Rp K F v (.list ds)) : ∃ a vs, v = .ref a ∧ SqL K F a vs ∧ RpA K F vs ds := by
  cases h with
  | lst h1 h2 => exact ⟨_, _, rfl, h1, h2⟩
theorem Rp.tupleInv {K : PySem.W.Frag} {F : Hp} {v : V} {ds : List D} (h : Rp K F v (.tuple ds)) : ∃ a vs, v = .ref a ∧ SqT K F a vs ∧ RpA K F vs ds := by
  cases h with
  | tup h1 h2 => exact ⟨_, _, rfl, h1, h2⟩
theorem walkD_list {K : PySem.W.Frag} {F : Hp} {a : Addr} {vs : List V} {ds : List D} (h : SqL K F a vs) (r : RpA K F vs ds) : WalkD K F (Itl K a) ds := by
  refine ⟨_, _, _, walk_list (xs := vs), r.length, fun F1 H s1 s2 => Same.sqL s2 (Same.sqL s1 h), fun i F1 H x H' hi s1 s2 y => ?_⟩
  obtain ⟨e, ex⟩ := y
  subst e
  obtain ⟨d, ed, rd⟩ := r.get' ex
  exact ⟨F1, d, Grow.refl _ _, s2, ed, Rp.mono s1 _ _ rd⟩
theorem walkD_tup {K : PySem.W.Frag} {F : Hp} {a : Addr} {vs : List V} {ds : List D} (h : SqT K F a vs) (r : RpA K F vs ds) : WalkD K F (Itt K a) ds := by
  refine ⟨_, _, _, walk_tup (xs := vs), r.length, fun F1 H s1 s2 => Same.sqT s2 (Same.sqT s1 h), fun i F1 H x H' hi s1 s2 y => ?_⟩
  obtain ⟨e, ex⟩ := y
  subst e
  obtain ⟨d, ed, rd⟩ := r.get' ex
  exact ⟨F1, d, Grow.refl _ _, s2, ed, Rp.mono s1 _ _ rd⟩
theorem range_at {lo hi : Int} {i : Nat} (h : i < (hi - lo).toNat) : (rangeD lo hi)[i]? = some (.int (lo + i)) := by
  unfold rangeD
  rw [List.getElem?_map, List.getElem?_range h]
  rfl
theorem walkD_range {K : PySem.W.Frag} {F : Hp} (lo hi : Int) : WalkD K F (Itr lo (hi - lo).toNat) (rangeD lo hi) := by
  refine ⟨_, _, _, walk_range, by simp [rangeD], fun _ _ _ _ => trivial, fun i F1 H x H' h s1 s2 y => ?_⟩
  obtain ⟨e, ex⟩ := y
  subst e ex
  exact ⟨F1, _, Grow.refl _ _, s2, range_at h, .int _⟩
/-- new pairs -/
theorem walkD_pair {K : PySem.W.Frag} {F : Hp} {J : L2.It} {n : Nat} {G : Hp → Prop} {xs ys : Nat → Option V} {ds : List D} (w : Walk J n G (YPair xs ys)) (hn : n = ds.length) (hG : ∀ F1 H, Same F F1 → Same F1 H → G H)
    (hd : ∀ i x y, i < n → xs i = some x → ys i = some y → ∃ d e, ds[i]? = some (.tuple [d, e]) ∧ Rp K F x d ∧ Rp K F y e) : WalkD K F J ds := by
  refine ⟨_, _, _, w, hn, hG, fun i F1 H x H' hi s1 s2 y => ?_⟩
  obtain ⟨T, x1, x2, e1, e2, e3, e4, e5⟩ := y
  subst e1 e3
  obtain ⟨d, e, ed, r1, r2⟩ := hd i x1 x2 hi e4 e5
  have gr := Grow.laid (o := .tup [x1, x2]) s2 e2
  exact ⟨upd F1 T (.tup [x1, x2]), _, gr, Same.upd2 s2, ed, Rp.tup (SqT.of upd_same) (.cons (Rp.mono (s1.trans gr.same) _ _ r1) (.cons (Rp.mono (s1.trans gr.same) _ _ r2) .nil))⟩
theorem zip_at {xs ys : List D} {i : Nat} {d e : D} (h1 : xs[i]? = some d) (h2 : ys[i]? = some e) : (zipD xs ys)[i]? = some (.tuple [d, e]) := by
  unfold zipD
  rw [List.getElem?_zipWith, h1, h2]
theorem walk_zipT {K : PySem.W.Frag} {a b : Addr} {xs ys : List V} {n : Nat} (hn : n = min xs.length ys.length) : Walk (ItzT K a b) n (fun H => SqT K H a xs ∧ SqT K H b ys) (YPair (fun i => xs[i]?) (fun i => ys[i]?)) where
  goes := fun i H hi q => by
    have h1 : i < xs.length := by omega
    have h2 : i < ys.length := by omega
    exact ⟨xs, ys, xs[i], ys[i], q.1, q.2, by simp [h1], by simp [h2]⟩
  stops := fun H q => ⟨xs, ys, q.1, q.2, by omega⟩
  yields := fun i H v H' _ q y => by
    obtain ⟨T, x, z, h1, h2, h3, h4, h5⟩ := y
    exact ⟨T, x, z, h1, h2, h3, h4 xs q.1, h5 ys q.2⟩
section
variable {X : Cx} {B : Wish} {W : WX} {tg e a b : Expr} {w wa wb : Ev → Nat → XR → Rs → Prop} {pos p : Pos}
/-- a list or a tuple, walked -/
theorem pi_seq {te : TE} (he : PE X e te) : PI X tg e (fun σ H R => te σ H fun x H1 => ∃ a, x = .ref a ∧ (((∃ xs, SqL X.K H1 a xs) ∧ R (Itl X.K a) H1) ∨ ((∃ xs, SqT X.K H1 a xs) ∧ R (Itt X.K a) H1))) := by
  constructor
  intro pins s σ H R I h
  refine thn (he.run pins s σ H _ I h) ?_
  rintro v s1 ⟨x, H1, I1, r1, a, ex, q⟩
  subst ex
  cases r1
  have new : ∀ (ob : Obj), Inv X pins σ H1 { s1 with heap := s1.heap.push ob } := fun ob => I1.kept (t' := s1.toks) fun b o e => Heap.get?_push_of_some _ e
  have fp : ∀ b ∈ [s1.heap.objs.size], FpOk X pins H1 b := fun b hb => by
    obtain rfl := List.mem_singleton.mp hb
    exact I1.fpOk (Nat.le_refl _) (I1.hok.fresh (Nat.le_refl _))
  rcases q with ⟨⟨xs, hq⟩, q⟩ | ⟨⟨xs, hq⟩, q⟩
  · obtain ⟨its, _, pl, _⟩ := I1.list hq
    exact wpAny_pyIter_list pl.isList ⟨_, _, _, _, H1, rfl, new _, turn_list a _, ⟨_, Heap.get?_push_size _ rfl, rfl, rfl⟩, fp, q⟩
  · obtain ⟨its, _, pl, _⟩ := I1.tuple hq
    exact wpAny_pyIter_tuple (show s1.heap.IsTuple a its.toArray from pl) ⟨_, _, _, _, H1, rfl, new _, turn_tuple a _, ⟨_, Heap.get?_push_size _ rfl, rfl, rfl⟩, fp, q⟩
theorem onSeq_some {d : D} {k : List D → Prop} (h : onSeq d k) : ∃ ds, (d = .list ds ∨ d = .tuple ds) ∧ k ds := by
  cases d <;> first | exact False.elim h | exact ⟨_, .inl rfl, h⟩ | exact ⟨_, .inr rfl, h⟩
theorem sndI_of (he : PE X e (TDm X.K B W .st w)) : PI X tg e (TIm X.K B W (fun ρ g XX R => w ρ g XX fun d g1 => onSeq d fun ds => R ds g1)) :=
  PI.imp (pi_seq he) fun σ H Q ⟨F, ast, ρ, g, XX, R, s, q, G⟩ => ⟨F, ast, ρ, g, XX, _, s, q, G.sub s (t := .st) fun v F1 H1 d g1 s1 c1 G1 vv q1 => by
    obtain ⟨ds, e, q1⟩ := onSeq_some q1
    rcases e with e | e
    · subst e
      obtain ⟨a, vs, ev, h1, h2⟩ := Rp.listInv vv
      exact ⟨a, ev, .inl ⟨⟨vs, Same.sqL c1.fh h1⟩, G1.here c1 (walkD_list h1 h2) q1⟩⟩
    · subst e
      obtain ⟨a, vs, ev, h1, h2⟩ := Rp.tupleInv vv
      exact ⟨a, ev, .inr ⟨⟨vs, Same.sqT c1.fh h1⟩, G1.here c1 (walkD_tup h1 h2) q1⟩⟩⟩
theorem GoalI.subL {K : PySem.W.Frag} {B : Wish} {W : WX} {ast : Option Addr} {F H : Hp} {σ : L2.St} {X : XR} {R : List D → Nat → Prop} {Q : L2.It → Hp → Prop} (G : GoalI K B W ast F H σ X R Q) {ρ : Ev} {g : Nat} (s : SRc K B F H ast σ ρ g) {t : Md} {R1 : List D → Nat → Prop} {Q1 : List V → Hp → Prop}
    (ok : ∀ v F' H' d g', Step ast F H F' H' → SRc K B F' H' ast σ ρ g' → GoalI K B W ast F' H' σ X R Q → ValL K t ast H F' H' v d → R1 d g' → Q1 v H') : GoalL K B W t ast F H σ X R1 Q1 :=
  ⟨fun v F' H' d g' st fh so vv r => ok v F' H' d g' st (s.step st fh so)
    ⟨fun J F2 H2 ds g2 s' fh st' wk r => G.ok J F2 H2 ds g2 (st.trans s') fh st' wk r, fun x c F2 H2 g2 s' fh st' q b => G.ex x c F2 H2 g2 (st.trans s') fh st' q b⟩ vv r, G.ex⟩
theorem sndI_range1 (hg : Gl X "range") (hm : X.mg "range" = none) (ha : PE X a (TDm X.K B W .tp wa)) (hs : starEach [a] X.env = [(false, eval a X.env)]) :
    PI X tg (.Call (.Name "range" p) [a] [] pos) (TIm X.K B W (fun ρ g XX R => wa ρ g XX fun d g1 => onInt d fun j => (-(2 ^ 62) ≤ j ∧ j < 2 ^ 62) ∧ R (rangeD 0 j) g1)) :=
  PI.imp (pi_range1 hg hm (pa_cons ha pa_nil hs) hs) fun σ H Q ⟨F, ast, ρ, g, XX, R, s, q, G⟩ => ⟨F, ast, ρ, g, XX, _, s, q, G.sub s (t := .tp) fun v F1 H1 d g1 s1 c1 G1 vv q1 => by
    obtain ⟨j, rfl, q1⟩ := onInt_some q1
    cases Top.int vv
    have wk : WalkD X.K F1 (Itr 0 j.toNat) (rangeD 0 j) := by
      have q := walkD_range (K := X.K) (F := F1) 0 j
      rw [Int.sub_zero] at q
      exact q
    exact ⟨j, rfl, q1.1.1, q1.1.2, G1.here c1 wk q1.2⟩⟩
theorem sndI_range (hg : Gl X "range") (hm : X.mg "range" = none) (ha : PE X a (TDm X.K B W .tp wa)) (hb : PE X b (TDm X.K B W .tp wb)) (hs : starEach [a, b] X.env = [(false, eval a X.env), (false, eval b X.env)]) (hs2 : starEach [b] X.env = [(false, eval b X.env)]) :
    PI X tg (.Call (.Name "range" p) [a, b] [] pos) (TIm X.K B W (fun ρ g XX R => wa ρ g XX fun x g1 => wb ρ g1 XX fun y g2 => onInt2 x y fun i j => (-(2 ^ 62) ≤ i ∧ i < 2 ^ 62 ∧ -(2 ^ 62) ≤ j ∧ j < 2 ^ 62) ∧ R (rangeD i j) g2)) :=
  PI.imp (pi_range2 hg hm (pa_cons ha (pa_cons hb pa_nil hs2) (by rw [hs, hs2])) hs hs2) fun σ H Q ⟨F, ast, ρ, g, XX, R, s, q, G⟩ => ⟨F, ast, ρ, g, XX, _, s, q, G.sub s (t := .tp) fun v F1 H1 d g1 s1 c1 G1 vv q1 =>
    ⟨F1, ast, ρ, g1, XX, _, c1, q1, G1.sub c1 (t := .tp) fun u F2 H2 e g2 s2 c2 G2 uu q2 => by
      obtain ⟨i, j, rfl, rfl, q2⟩ := onInt2_some q2
      cases Top.int vv
      cases Top.int uu
      exact ⟨i, j, rfl, q2.1, G2.here c2 (walkD_range i j) q2.2⟩⟩⟩
theorem onSeqs_some {d e : D} {k : List D → List D → Prop} (h : onSeqs d e k) : ∃ i j, ((d = .list i ∧ e = .list j) ∨ (d = .tuple i ∧ e = .tuple j)) ∧ k i j := by
  cases d <;> cases e <;> first | exact False.elim h | exact ⟨_, _, .inl ⟨rfl, rfl⟩, h⟩ | exact ⟨_, _, .inr ⟨rfl, rfl⟩, h⟩
theorem pairs_at {K : PySem.W.Frag} {F : Hp} {vs us : List V} {ds es : List D} (r1 : RpA K F vs ds) (r2 : RpA K F us es) (i : Nat) (x y : V) (h1 : vs[i]? = some x) (h2 : us[i]? = some y) : ∃ d e, (zipD ds es)[i]? = some (.tuple [d, e]) ∧ Rp K F x d ∧ Rp K F y e := by
  obtain ⟨d, ed, rd⟩ := r1.get' h1
  obtain ⟨e, ee, re⟩ := r2.get' h2
  exact ⟨d, e, zip_at ed ee, rd, re⟩
theorem zipD_len (xs ys : List D) : (zipD xs ys).length = min xs.length ys.length := by simp [zipD]
theorem sndI_zip {elts : List Expr} {kk : Nat} {tpos : Pos} (hg : Gl X "zip") (hm : X.mg "zip" = none) (ha : PE X a (TDm X.K B W .st wa)) (hb : PE X b (TDm X.K B W .st wb)) (hs : starEach [a, b] X.env = (false, eval a X.env) :: starEach [b] X.env) (hs2 : starEach [b] X.env = [(false, eval b X.env)]) :
    PI X (.Tuple elts kk tpos) (.Call (.Name "zip" p) [a, b] [] pos) (TIm X.K B W (fun ρ g XX R => wa ρ g XX fun x g1 => wb ρ g1 XX fun y g2 => onSeqs x y fun xs ys => R (zipD xs ys) g2)) :=
  PI.imp (pi_zipA hg hm (pa_cons ha (pa_cons hb pa_nil hs2) hs) hs (by rw [hs2]; rfl)) fun σ H Q ⟨F, ast, ρ, g, XX, R, s, q, G⟩ => ⟨F, ast, ρ, g, XX, _, s, q, G.sub s (t := .st) fun v F1 H1 d g1 s1 c1 G1 vv q1 =>
    ⟨F1, ast, ρ, g1, XX, _, c1, q1, G1.sub c1 (t := .st) fun u F2 H2 e g2 s2 c2 G2 uu q2 => by
      obtain ⟨xs, ys, e, q2⟩ := onSeqs_some q2
      rcases e with ⟨e1, e2⟩ | ⟨e1, e2⟩
      · subst e1 e2
        obtain ⟨a, vs, ev, h1, r1⟩ := Rp.listInv (Rp.mono s2.same _ _ vv)
        obtain ⟨b, us, eu, h2, r2⟩ := Rp.listInv uu
        refine ⟨a, b, vs, us, by rw [ev, eu], .inl ⟨Same.sqL c2.fh h1, Same.sqL c2.fh h2, G2.here c2 ?_ q2⟩⟩
        exact walkD_pair (walk_zip rfl) (by rw [zipD_len, r1.length, r2.length]) (fun F1 H s1 s2 => ⟨Same.sqL s2 (Same.sqL s1 h1), Same.sqL s2 (Same.sqL s1 h2)⟩) fun i x y _ e1 e2 => pairs_at r1 r2 i x y e1 e2
      · subst e1 e2
        obtain ⟨a, vs, ev, h1, r1⟩ := Rp.tupleInv (Rp.mono s2.same _ _ vv)
        obtain ⟨b, us, eu, h2, r2⟩ := Rp.tupleInv uu
        refine ⟨a, b, vs, us, by rw [ev, eu], .inr ⟨Same.sqT c2.fh h1, Same.sqT c2.fh h2, G2.here c2 ?_ q2⟩⟩
        exact walkD_pair (walk_zipT rfl) (by rw [zipD_len, r1.length, r2.length]) (fun F1 H s1 s2 => ⟨Same.sqT s2 (Same.sqT s1 h1), Same.sqT s2 (Same.sqT s1 h2)⟩) fun i x y _ e1 e2 => pairs_at r1 r2 i x y e1 e2⟩⟩
theorem onList_some {d : D} {k : List D → Prop} (h : onList d k) : ∃ i, d = .list i ∧ k i := by
  cases d <;> first | exact False.elim h | exact ⟨_, rfl, h⟩
theorem enum_at {xs : List D} {i : Nat} {d : D} (h : xs[i]? = some d) : (enumD xs)[i]? = some (.tuple [.int (i : Nat), d]) := by
  refine zip_at ?_ h
  rw [List.getElem?_map, List.getElem?_range (List.getElem?_eq_some_iff.mp h).1]
  rfl
theorem sndI_enum {elts : List Expr} {kk : Nat} {tpos : Pos} (hg : Gl X "enumerate") (hm : X.mg "enumerate" = none) (ha : PE X a (TDm X.K B W .st wa)) (hs : starEach [a] X.env = [(false, eval a X.env)]) :
    PI X (.Tuple elts kk tpos) (.Call (.Name "enumerate" p) [a] [] pos) (TIm X.K B W (fun ρ g XX R => wa ρ g XX fun x g1 => onSeq x fun xs => R (enumD xs) g1)) :=
  PI.imp (pi_enumA hg hm (pa_cons ha pa_nil hs) hs) fun σ H Q ⟨F, ast, ρ, g, XX, R, s, q, G⟩ => ⟨F, ast, ρ, g, XX, _, s, q, G.sub s (t := .st) fun v F1 H1 d g1 s1 c1 G1 vv q1 => by
    obtain ⟨xs, e, q1⟩ := onSeq_some q1
    have len : ∀ vs : List V, RpA X.K F1 vs xs → vs.length = (enumD xs).length := fun vs r => by simp [enumD, zipD_len, r.length]
    rcases e with e | e
    · subst e
      obtain ⟨a, vs, ev, h1, r1⟩ := Rp.listInv vv
      refine ⟨a, by rw [ev], .inl ⟨⟨vs, Same.sqL c1.fh h1⟩, G1.here c1 ?_ q1⟩⟩
      refine walkD_pair (walk_enum (xs := vs)) (len vs r1) (fun F1 H s1 s2 => Same.sqL s2 (Same.sqL s1 h1)) fun i x y hi e1 e2 => ?_
      obtain ⟨d, ed, rd⟩ := r1.get' e2
      cases e1
      exact ⟨.int i, d, enum_at ed, .int _, rd⟩
    · subst e
      obtain ⟨a, vs, ev, h1, r1⟩ := Rp.tupleInv vv
      refine ⟨a, by rw [ev], .inr ⟨⟨vs, Same.sqT c1.fh h1⟩, G1.here c1 ?_ q1⟩⟩
      refine walkD_pair (walk_enumT (xs := vs)) (len vs r1) (fun F1 H s1 s2 => Same.sqT s2 (Same.sqT s1 h1)) fun i x y hi e1 e2 => ?_
      obtain ⟨d, ed, rd⟩ := r1.get' e2
      cases e1
      exact ⟨.int i, d, enum_at ed, .int _, rd⟩⟩
/-! ### range(a, b, -1) -/
theorem down_at {i j : Int} {k : Nat} (h : k < (i - j).toNat) : (downD i j)[k]? = some (.int (i - k)) := by
  unfold downD
  rw [List.getElem?_map, List.getElem?_range h]
  rfl
theorem walkD_down {K : PySem.W.Frag} {F : Hp} (i j : Int) : WalkD K F (Itc i (-1) (i - j).toNat) (downD i j) := by
  refine ⟨(i - j).toNat, fun _ => True, fun k H x H' => H' = H ∧ x = V.int (i + (k : Nat) * (-1)), ⟨fun k H hk _ => hk, fun H _ => Nat.le_refl _, fun k H v H' _ _ y => y⟩, by simp [downD], fun _ _ _ _ => trivial, fun k F1 H x H' h s1 s2 y => ?_⟩
  obtain ⟨e, ex⟩ := y
  subst e ex
  refine ⟨F1, .int (i - k), Grow.refl _ _, s2, down_at h, ?_⟩
  rw [show i - (k : Int) = i + (k : Int) * (-1) by omega]
  exact .int _
theorem sndI_down {k : Nat} {p1 p2 : Pos} (hg : Gl X "range") (hm : X.mg "range" = none) (ha : PE X a (TDm X.K B W .tp wa)) (hb : PE X b (TDm X.K B W .tp wb))
    (hs : starEach [a, b, .UnaryOp .USub (.Constant (.int 1) k p1) p2] X.env = (false, eval a X.env) :: starEach [b, .UnaryOp .USub (.Constant (.int 1) k p1) p2] X.env) (hs2 : starEach [b, .UnaryOp .USub (.Constant (.int 1) k p1) p2] X.env = (false, eval b X.env) :: starEach [.UnaryOp .USub (.Constant (.int 1) k p1) p2] X.env) :
    PI X tg (.Call (.Name "range" p) [a, b, .UnaryOp .USub (.Constant (.int 1) k p1) p2] [] pos) (TIm X.K B W (fun ρ g XX R => wa ρ g XX fun x g1 => wb ρ g1 XX fun y g2 => onInt2 x y fun i j => (-(2 ^ 62) ≤ i ∧ i < 2 ^ 62 ∧ -(2 ^ 62) ≤ j ∧ j < 2 ^ 62) ∧ R (downD i j) g2)) :=
  PI.imp (pi_range3 hg hm (pa_cons ha (pa_cons hb (pa_cons (pe_un un_neg pe_int) pa_nil rfl) hs2) hs) hs (by rw [hs2]; rfl)) fun σ H Q ⟨F, ast, ρ, g, XX, R, s, q, G⟩ => ⟨F, ast, ρ, g, XX, _, s, q, G.sub s (t := .tp) fun v F1 H1 d g1 s1 c1 G1 vv q1 =>
    ⟨F1, ast, ρ, g1, XX, _, c1, q1, G1.sub c1 (t := .tp) fun u F2 H2 e g2 s2 c2 G2 uu q2 => by
      obtain ⟨i, j, rfl, rfl, q2⟩ := onInt2_some q2
      cases Top.int vv
      cases Top.int uu
      exact ⟨1, rfl, i, j, -1, (i - j).toNat, rfl, RgC.neg q2.1.1 q2.1.2.1 q2.1.2.2.1 q2.1.2.2.2, G2.here c2 (walkD_down i j) q2.2⟩⟩⟩
end
end Dz
set_option Elab.async false
set_option linter.all false
set_option maxRecDepth 100000
/-! Dz: targets, comprehensions. -/
namespace Dz
open PySem PySem.Spec PyProof.Rows L2
/-! ### slots stored -/
theorem SlOk.setF {K : PySem.W.Frag} {F H : Hp} {ast : Option Addr} {σ : L2.St} {ρ : Ev} (s : SlOk K F H ast σ ρ) {i : Nat} {v : V} {d : D} (r : Rp K F v d) : SlOk K F H ast (σ.set i (some v)) (setD ρ i d) where
  len := by rw [List.length_set]; unfold setD; rw [List.length_set]; exact s.len
  at_ := fun j sv e => by
    unfold setD at e
    by_cases hj : i = j
    · subst hj
      by_cases hl : i < ρ.length
      · rw [List.getElem?_set_self hl] at e
        cases e
        exact ⟨some v, by rw [List.getElem?_set_self (by rw [s.len]; exact hl)], v, rfl, r⟩
      · rw [List.getElem?_eq_none (by rw [List.length_set]; omega)] at e
        cases e
    · rw [List.getElem?_set_ne hj] at e ⊢
      exact s.at_ j sv e
  apart := fun j k d1 d2 a hjk e1 e2 h1 h2 => by
    unfold setD at e1 e2
    have no : ∀ {m d'}, (ρ.set i (.fz d))[m]? = some (.ow d') → i ≠ m := fun {m d'} e z => by
      subst z
      by_cases hl : i < ρ.length
      · rw [List.getElem?_set_self hl] at e; cases e
      · rw [List.getElem?_eq_none (by rw [List.length_set]; omega)] at e; cases e
    have n1 := no e1
    have n2 := no e2
    rw [List.getElem?_set_ne n1] at e1 h1
    rw [List.getElem?_set_ne n2] at e2 h2
    exact s.apart j k d1 d2 a hjk e1 e2 h1 h2
theorem SlOk.setU {K : PySem.W.Frag} {F H : Hp} {ast : Option Addr} {σ : L2.St} {ρ : Ev} (s : SlOk K F H ast σ ρ) {i : Nat} {x : Option V} : SlOk K F H ast (σ.set i x) (ρ.set i .un) where
  len := by rw [List.length_set, List.length_set]; exact s.len
  at_ := fun j sv e => by
    by_cases hj : i = j
    · subst hj
      by_cases hl : i < ρ.length
      · rw [List.getElem?_set_self hl] at e
        cases e
        exact ⟨x, by rw [List.getElem?_set_self (by rw [s.len]; exact hl)], trivial⟩
      · rw [List.getElem?_eq_none (by rw [List.length_set]; omega)] at e
        cases e
    · rw [List.getElem?_set_ne hj] at e ⊢
      exact s.at_ j sv e
  apart := fun j k d1 d2 a hjk e1 e2 h1 h2 => by
    have no : ∀ {m d'}, (ρ.set i .un)[m]? = some (.ow d') → i ≠ m := fun {m d'} e z => by
      subst z
      by_cases hl : i < ρ.length
      · rw [List.getElem?_set_self hl] at e; cases e
      · rw [List.getElem?_eq_none (by rw [List.length_set]; omega)] at e; cases e
    have n1 := no e1
    have n2 := no e2
    rw [List.getElem?_set_ne n1] at e1 h1
    rw [List.getElem?_set_ne n2] at e2 h2
    exact s.apart j k d1 d2 a hjk e1 e2 h1 h2
theorem SlOk.wiped {K : PySem.W.Frag} {F H : Hp} {ast : Option Addr} {σ : L2.St} {ρ : Ev} (s : SlOk K F H ast σ ρ) : ∀ vs : List Nat, SlOk K F H ast (wipe σ vs) (wipeE ρ vs)
  | [] => s
  | v :: vs => (s.wiped vs).setU
theorem wipe_at (σ : L2.St) (j : Nat) : ∀ vs : List Nat, (wipe σ vs)[j]? = if j ∈ vs then σ[j]?.map (fun _ => none) else σ[j]?
  | [] => by rw [if_neg (by simp)]; rfl
  | v :: vs => by
    show ((wipe σ vs).set v none)[j]? = _
    by_cases h : v = j
    · subst h
      rw [if_pos (by simp)]
      by_cases hl : v < σ.length
      · rw [List.getElem?_set_self (by rw [wipe_length]; exact hl), List.getElem?_eq_getElem hl]; rfl
      · rw [List.getElem?_eq_none (by rw [List.length_set, wipe_length]; omega), List.getElem?_eq_none (by omega)]; rfl
    · rw [List.getElem?_set_ne h, wipe_at σ j vs]
      by_cases hm : j ∈ vs
      · rw [if_pos hm, if_pos (by simp [hm])]
      · rw [if_neg hm, if_neg (by simp only [List.mem_cons, not_or]; exact ⟨fun e => h e.symm, hm⟩)]
theorem wipe_wipe (σ : L2.St) (vs : List Nat) : wipe (wipe σ vs) vs = wipe σ vs := List.ext_getElem? fun j => by
  rw [wipe_at, wipe_at]
  by_cases h : j ∈ vs
  · simp only [if_pos h]
    cases σ[j]? <;> rfl
  · simp only [if_neg h]
theorem wipe_set {σ : L2.St} {vs : List Nat} {i : Nat} {x : Option V} (h : i ∈ vs) : wipe (σ.set i x) vs = wipe σ vs := List.ext_getElem? fun j => by
  rw [wipe_at, wipe_at]
  by_cases hj : j ∈ vs
  · rw [if_pos hj, if_pos hj]
    by_cases e : i = j
    · subst e
      by_cases hl : i < σ.length
      · rw [List.getElem?_set_self hl, List.getElem?_eq_getElem hl]; rfl
      · rw [List.getElem?_eq_none (by rw [List.length_set]; omega), List.getElem?_eq_none (by omega)]
    · rw [List.getElem?_set_ne e]
  · rw [if_neg hj, if_neg hj]
    exact List.getElem?_set_ne fun (e : i = j) => hj (by rw [← e]; exact h)

/-! ### targets -/
def gNs : List Nat → TGs
  | [] => gNil
  | i :: is => gCons (gName i) (gNs is)
def tgG (K : PySem.W.Frag) : Tg → TG
  | .v i => gName i
  | .t is => gTup K is.length (gNs is)
def Tg.has : Tg → List Nat
  | .v i => [i]
  | .t is => is
/-- each target's slot is among vs: what is wiped stays -/
theorem gNs_ok {K : PySem.W.Frag} {F H : Hp} {ast : Option Addr} (Q : L2.St → Hp → Prop) : ∀ (is : List Nat) (vs : List V) (ds : List D) (σ : L2.St) (ρ ρ' : Ev), SlOk K F H ast σ ρ → RpA K F vs ds → setAll ρ is ds = some ρ' →
    (∀ σ', SlOk K F H ast σ' ρ' → (∀ us : List Nat, (∀ i ∈ is, i ∈ us) → wipe σ' us = wipe σ us) → Q σ' H) → gNs is vs σ H Q
  | [], vs, [], σ, ρ, ρ', s, r, e, k => by
    cases r
    cases e
    exact ⟨rfl, k σ s fun _ _ => rfl⟩
  | [], vs, _ :: _, σ, ρ, ρ', s, r, e, k => by cases e
  | i :: is, vs, [], σ, ρ, ρ', s, r, e, k => by cases e
  | i :: is, vs, d :: ds, σ, ρ, ρ', s, r, e, k => by
    cases r with
    | cons r1 r2 =>
      refine ⟨_, _, rfl, gNs_ok Q is _ ds _ _ ρ' (s.setF r1) r2 e fun σ' s' w => k σ' s' fun us hu => ?_⟩
      rw [w us fun j hj => hu j (List.mem_cons_of_mem _ hj), wipe_set (hu i (List.mem_cons_self ..))]
theorem tgG_ok {K : PySem.W.Frag} {F H : Hp} {ast : Option Addr} (fh : Same F H) {Q : L2.St → Hp → Prop} {t : Tg} {x : V} {d : D} {σ : L2.St} {ρ ρ' : Ev} (s : SlOk K F H ast σ ρ) (r : Rp K F x d) (e : bindT t d ρ = some ρ')
    (k : ∀ σ', SlOk K F H ast σ' ρ' → (∀ us : List Nat, (∀ i ∈ t.has, i ∈ us) → wipe σ' us = wipe σ us) → Q σ' H) : tgG K t x σ H Q := by
  cases t with
  | v i =>
    cases e
    exact k _ (s.setF r) fun us hu => wipe_set (hu i (List.mem_singleton.mpr rfl))
  | t is =>
    cases d <;> first | (cases e; done) | skip
    obtain ⟨a, vs, ev, h1, h2⟩ := Rp.tupleInv r
    have hl : ∀ (is : List Nat) (ds : List D) (ρ : Ev), setAll ρ is ds = some ρ' → is.length = ds.length := by
      intro is
      induction is with
      | nil => intro ds ρ e; cases ds <;> first | rfl | cases e
      | cons i is ih =>
        intro ds ρ e
        cases ds with
        | nil => cases e
        | cons d ds => rw [List.length_cons, List.length_cons, ih ds _ e]
    exact ⟨a, vs, ev, Same.sqT fh h1, by rw [h2.length]; exact (hl is _ ρ e).symm, gNs_ok Q is vs _ σ ρ ρ' s h2 e k⟩
/-- a name that may be stored here: a local, or a cell that is made here -/
def stoB (fnb : Str → Bool) (sc : Scope) (x : Str) : Bool := sc.names.lookup x == some .local || (sc.names.lookup x == some .cell && fnb x)
/-- the written names of a target -/
def isNames (fnb : Str → Bool) (N : List Str) (sc : Scope) : List Nat → List Expr → Bool
  | [], [] => true
  | i :: is, .Name x _ :: es => N[i]? == some x && stoB fnb sc x && isNames fnb N sc is es
  | _, _ => false
def isTg (fnb : Str → Bool) (N : List Str) (sc : Scope) : Tg → Expr → Bool
  | .v i, .Name x _ => N[i]? == some x && stoB fnb sc x
  | .t is, .Tuple es _ _ => isNames fnb N sc is es
  | _, _ => false
theorem eqO_of {α : Type} [BEq α] [LawfulBEq α] {a b : Option α} (h : (a == b) = true) : a = b := eq_of_beq h
theorem sto_of {X : Cx} {fnb : Str → Bool} (hf : ∀ x, fnb x = true → X.fn x = true) {x : Str} (h : stoB fnb X.env.scope x = true) : Loc X.env.scope x ∧ (X.fn x = true ∨ X.env.scope.names.lookup x = some .local) := by
  unfold stoB at h
  rw [Bool.or_eq_true, Bool.and_eq_true] at h
  rcases h with h | ⟨h, h2⟩
  · exact ⟨.inl (eqO_of h), .inr (eqO_of h)⟩
  · exact ⟨.inr (eqO_of h), .inl (hf x h2)⟩
theorem names_each {X : Cx} {fnb : Str → Bool} : ∀ (is : List Nat) (es : List Expr), isNames fnb X.N X.env.scope is es = true → (assignEach es X.env).length = is.length ∧ (assignEach es X.env).findIdx? (·.1) = none
  | [], [], _ => ⟨rfl, rfl⟩
  | [], _ :: _, h => by cases h
  | _ :: _, [], h => by cases h
  | i :: is, e :: es, h => by
    cases e <;> first | (cases h; done) | skip
    unfold isNames at h
    rw [Bool.and_eq_true] at h
    obtain ⟨h1, h2⟩ := names_each is es h.2
    refine ⟨by show (assignEach es X.env).length + 1 = is.length + 1; rw [h1], ?_⟩
    show ((false, _) :: assignEach es X.env).findIdx? (·.1) = none
    rw [List.findIdx?_cons, h2]
    rfl
theorem names_ok {X : Cx} {fnb : Str → Bool} (hf : ∀ x, fnb x = true → X.fn x = true) (nd : X.N.Nodup) : ∀ (is : List Nat) (es : List Expr), isNames fnb X.N X.env.scope is es = true → PGs X es (gNs is)
  | [], [], _ => pgs_nil
  | [], _ :: _, h => by cases h
  | _ :: _, [], h => by cases h
  | i :: is, e :: es, h => by
    cases e <;> first | (cases h; done) | skip
    unfold isNames at h
    rw [Bool.and_eq_true, Bool.and_eq_true] at h
    obtain ⟨h1, h2⟩ := sto_of hf h.1.2
    exact pgs_cons (pg_name nd (eqO_of h.1.1) h1 h2) (names_ok hf nd is es h.2) rfl
theorem tg_ok {X : Cx} {fnb : Str → Bool} (hf : ∀ x, fnb x = true → X.fn x = true) (nd : X.N.Nodup) (hc : X.calm = true) {t : Tg} {e : Expr} (h : isTg fnb X.N X.env.scope t e = true) : PG X e (tgG X.K t) := by
  cases t with
  | v i =>
    cases e <;> first | (cases h; done) | skip
    unfold isTg at h
    rw [Bool.and_eq_true] at h
    obtain ⟨h1, h2⟩ := sto_of hf h.2
    exact pg_name nd (eqO_of h.1) h1 h2
  | t is =>
    cases e <;> first | (cases h; done) | skip
    unfold isTg at h
    obtain ⟨h1, h2⟩ := names_each is _ h
    exact pg_tup hc (names_ok hf nd is _ h) h1 h2

/-! ### comprehensions -/
def noW : WX := fun _ _ _ _ => False
/-- the tests of a clause -/
theorem sndC_nil {X : Cx} {B : Wish} {W : WX} : PTs X [] (TTm X.K B W (fun _ g _ R => R true g)) :=
  ⟨fun pins s σ H Q I ⟨F, ast, ρ, g, XX, R, c, q, G⟩ => pts_nil.run pins s σ H Q I (show Q true H from G.here c q)⟩
theorem sndC_one {X : Cx} {B : Wish} {W : WX} {c : Expr} {w : Ev → Nat → XR → Rs → Prop} (h : PT X c (TTm X.K B W (tst w))) : PTs X [c] (TTm X.K B W (fun ρ g XX R => w ρ g XX (onBool fun t g1 => if t = true then R true g1 else R false g1))) := by
  refine ⟨fun pins s σ H Q I ⟨F, ast, ρ, g, XX, R, cc, q, G⟩ => (pts_one h).run pins s σ H Q I ⟨F, ast, ρ, g, XX, _, cc, q, G.goB cc fun v F' H' g' s1 c1 G1 q1 => ?_⟩⟩
  cases v with
  | true => exact G1.here c1 q1
  | false => exact G1.here c1 q1
abbrev CW := Ev → Nat → XR → (Bool → Nat → Prop) → Prop
/-- one element of a comprehension -/
def stepC (tg : Tg) (wc : CW) (we : Ev → Nat → XR → Rs → Prop) (ρw : Ev) : D → Nat → (Option D → Nat → Prop) → Prop := fun d g k => ∃ ρ', bindT tg d ρw = some ρ' ∧ wc ρ' g noX fun t g1 => if t = true then we ρ' g1 noX fun y g2 => k (some y) g2 else k none g1
theorem comp_ok {K : PySem.W.Frag} {B : Wish} {W : WX} {wi : IW} {tg : Tg} {wc : CW} {we : Ev → Nat → XR → Rs → Prop} {own : List Nat} (htg : ∀ i ∈ tg.has, i ∈ own) {σ : L2.St} {H : Hp} {Q : VK}
    (h : TDm K B W .fr (fun ρ g XX R => wi ρ g XX fun ds g0 => loopC (stepC tg wc we (wipeE ρ own)) ds [] g0 fun r g1 => R (.list r) g1) σ H Q) :
    tLc (TIm K B W wi) (tgG K tg) (TTm K B noW wc) (TDm K B noW .st we) own σ H Q := by
  obtain ⟨F, ast, ρ, g, XX, R, s, q, G⟩ := h
  refine ⟨F, ast, ρ, g, XX, _, s, q, ⟨fun J F1 H1 ds g0 s1 fh1 st1 wk q1 => ?_, G.ex⟩⟩
  intro Dn hD
  obtain ⟨n, GG, Y, wa, hn, hG, hY⟩ := wk
  have c1 := s.step s1 fh1 st1
  have fD : F1 Dn = none := fh1.free hD
  have nD : ast ≠ some Dn := fun z => by
    rw [z] at st1
    obtain ⟨_, b, c, y, ys, h1, _⟩ := st1.1
    rw [hD] at h1
    cases h1
  refine lc_it wa (fun i H => ∃ F2 g' acc vs, Step ast F1 H1 F2 H ∧ Same F2 H ∧ StOk K B F2 H ast g' ∧ F2 Dn = none ∧ H Dn = some (.lst vs) ∧ RpA K F2 vs acc ∧ loopC (stepC tg wc we (wipeE ρ own)) (ds.drop i) acc g' fun r g1 => R (.list r) g1)
    ⟨F1, g0, [], [], (Grow.fresh fh1 hD).step, Same.updR fh1 fD, (Grow.fresh fh1 hD).st st1, fD, upd_same, .nil, q1⟩
    (fun i H _ ⟨F2, g', acc, vs, st2, fh2, _⟩ => hG F2 H st2.same fh2) (fun i x H2 H' hi pv y => ?_) (fun H2 pv => ?_)
  · obtain ⟨F2, g', acc, vs, st2, fh2, so2, f2, h2, r2, lp⟩ := pv
    obtain ⟨F3, d, gr, fh3, ed, rd⟩ := hY i F2 H2 x H' hi st2.same fh2 y
    have hlt : i < ds.length := hn ▸ hi
    have ed' : ds[i] = d := by
      rw [List.getElem?_eq_getElem hlt] at ed
      exact Option.some.inj ed
    rw [List.drop_eq_getElem_cons hlt, ed'] at lp
    obtain ⟨ρ', eb, lp⟩ := lp
    have st3 := st2.trans (gr.step (ast := ast))
    have so3 := gr.st so2
    have h3 : H' Dn = some (.lst vs) := gr.pres _ _ h2
    have f3 : F3 Dn = none := gr.new Dn (by rw [h2]; exact fun z => nomatch z) f2
    have sl := ((c1.sl.step st3).wiped own)
    refine tgG_ok fh3 sl rd eb fun σ2 s2 hw => ⟨(hw own htg).trans (wipe_wipe σ own), ?_⟩
    have c3 : SRc K B F3 H' ast σ2 ρ' g' := ⟨fh3, so3, s2⟩
    have fin : ∀ {F' H' : Hp}, Step ast F3 H' F' H' → True := fun _ => trivial
    refine ⟨F3, ast, ρ', g', noX, _, c3, lp, ⟨fun b F4 H4 g4 st4 fh4 so4 q4 => ?_, fun x c F' H' g s fh so z => False.elim z⟩⟩
    have h4 : H4 Dn = some (.lst vs) := st4.pres _ _ h3 nD (fun _ z => nomatch z)
    have f4 : F4 Dn = none := st4.new Dn (by rw [h3]; exact fun z => nomatch z) f3 nD
    have r4 : RpA K F4 vs acc := RpA.mono ((gr.same).trans st4.same) _ _ r2
    cases b with
    | false => exact ⟨F4, g4, acc, vs, st3.trans st4, fh4, so4, f4, h4, r4, q4⟩
    | true =>
      refine ⟨F4, ast, ρ', g4, noX, _, c3.step st4 fh4 so4, q4, ⟨fun v F5 H5 y g5 st5 fh5 so5 vv q5 => ?_, fun x c F' H' g s fh so z => False.elim z⟩⟩
      have h5 : H5 Dn = some (.lst vs) := st5.pres _ _ h4 nD (fun _ z => nomatch z)
      have f5 : F5 Dn = none := st5.new Dn (by rw [h4]; exact fun z => nomatch z) f4 nD
      have r5 : RpA K F5 vs acc := RpA.mono st5.same _ _ r4
      refine ⟨vs, h5, by rw [r5.length]; exact q5.1, F5, g5, acc ++ [y], vs ++ [v], ?_, Same.updR fh5 f5, ?_, f5, upd_same, r5.append (.cons vv .nil), q5.2⟩
      · have st := (st3.trans st4).trans st5
        exact ⟨st.same, fun b o e nb nt => by
          have hb : b ≠ Dn := fun z => by rw [z, hD] at e; cases e
          rw [upd_ne hb]
          exact st.pres b o e nb nt, dom_upd st.dom, st.new⟩
      · refine ⟨?_, so5.2.upd h5 (fun _ z => nomatch z) (fun _ _ z => nomatch z) fun _ z => nomatch z⟩
        have so5 := so5.1
        cases ast with
        | none => exact so5
        | some a =>
          obtain ⟨fa, b, c, y, ys, e1, e2⟩ := so5
          exact ⟨fa, b, c, y, ys, by rw [upd_ne (fun z => nD (by rw [z]))]; exact e1, e2⟩
  · obtain ⟨F2, g', acc, vs, st2, fh2, so2, f2, h2, r2, lp⟩ := pv
    rw [hn, List.drop_length] at lp
    exact G.ok (.ref Dn) F2 H2 (.list acc) g' (s1.trans st2) fh2 so2 ⟨Dn, rfl, s1.none_back nD hD, nD, f2, .inl ⟨vs, acc, rfl, h2, r2⟩⟩ lp
end Dz
set_option Elab.async false
set_option linter.all false
set_option maxRecDepth 100000
/-! Dz: comprehensions of two clauses. -/
namespace Dz
open PySem PySem.Spec PyProof.Rows L2
/-- the list at Dn holds what is made so far -/
structure CSt (K : PySem.W.Frag) (B : Wish) (ast : Option Addr) (F1 H1 : Hp) (Dn : Addr) (F H : Hp) (acc : List D) (g : Nat) : Prop where
  st : Step ast F1 H1 F H
  fh : Same F H
  so : StOk K B F H ast g
  fr : F Dn = none
  ex : ∃ vs, H Dn = some (.lst vs) ∧ RpA K F vs acc
section
variable {K : PySem.W.Frag} {B : Wish} {ast : Option Addr} {F1 H1 : Hp} {Dn : Addr} {F H F' H' : Hp} {acc : List D} {g g' : Nat}
theorem CSt.step (c : CSt K B ast F1 H1 Dn F H acc g) (nD : ast ≠ some Dn) (s : Step ast F H F' H') (fh : Same F' H') (so : StOk K B F' H' ast g') : CSt K B ast F1 H1 Dn F' H' acc g' := by
  obtain ⟨vs, e, r⟩ := c.ex
  exact ⟨c.st.trans s, fh, so, s.new Dn (by rw [e]; exact fun z => nomatch z) c.fr nD, vs, s.pres _ _ e nD (fun _ z => nomatch z), RpA.mono s.same _ _ r⟩
theorem CSt.push (c : CSt K B ast F1 H1 Dn F H acc g) (nD : ast ≠ some Dn) (hD : H1 Dn = none) {vs : List V} (e : H Dn = some (.lst vs)) {v : V} {y : D} (r : Rp K F v y) : CSt K B ast F1 H1 Dn F (upd H Dn (.lst (vs ++ [v]))) (acc ++ [y]) g := by
  obtain ⟨vs', e', rr⟩ := c.ex
  rw [e] at e'
  cases e'
  refine ⟨⟨c.st.same, fun b o q nb nt => ?_, dom_upd c.st.dom, c.st.new⟩, Same.updR c.fh c.fr, ⟨?_, c.so.2.upd e (fun _ z => nomatch z) (fun _ _ z => nomatch z) fun _ z => nomatch z⟩, c.fr, _, upd_same, rr.append (.cons r .nil)⟩
  · have hb : b ≠ Dn := fun z => by rw [z, hD] at q; cases q
    rw [upd_ne hb]
    exact c.st.pres b o q nb nt
  · have so := c.so.1
    cases ast with
    | none => exact so
    | some a =>
      obtain ⟨fa, b, cc, y, ys, e1, e2⟩ := so
      exact ⟨fa, b, cc, y, ys, by rw [upd_ne (fun z => nD (by rw [z]))]; exact e1, e2⟩
end
/-- targets, with what else is known of the names -/
theorem gNs_okI {K : PySem.W.Frag} {F H : Hp} {ast : Option Addr} (I : L2.St → Ev → Prop) (hI : ∀ σ ρ i v d, I σ ρ → I (σ.set i (some v)) (setD ρ i d)) (Q : L2.St → Hp → Prop) : ∀ (is : List Nat) (vs : List V) (ds : List D) (σ : L2.St) (ρ ρ' : Ev), SlOk K F H ast σ ρ → I σ ρ → RpA K F vs ds → setAll ρ is ds = some ρ' →
    (∀ σ', SlOk K F H ast σ' ρ' → I σ' ρ' → (∀ us : List Nat, (∀ i ∈ is, i ∈ us) → wipe σ' us = wipe σ us) → Q σ' H) → gNs is vs σ H Q
  | [], vs, [], σ, ρ, ρ', s, i0, r, e, k => by
    cases r
    cases e
    exact ⟨rfl, k σ s i0 fun _ _ => rfl⟩
  | [], vs, _ :: _, σ, ρ, ρ', s, i0, r, e, k => by cases e
  | i :: is, vs, [], σ, ρ, ρ', s, i0, r, e, k => by cases e
  | i :: is, vs, d :: ds, σ, ρ, ρ', s, i0, r, e, k => by
    cases r with
    | cons r1 r2 =>
      refine ⟨_, _, rfl, gNs_okI I hI Q is _ ds _ _ ρ' (s.setF r1) (hI _ _ _ _ _ i0) r2 e fun σ' s' i' w => k σ' s' i' fun us hu => ?_⟩
      rw [w us fun j hj => hu j (List.mem_cons_of_mem _ hj), wipe_set (hu i (List.mem_cons_self ..))]
theorem setAll_len {ρ' : Ev} : ∀ (is : List Nat) (ds : List D) (ρ : Ev), setAll ρ is ds = some ρ' → is.length = ds.length
  | [], [], _, _ => rfl
  | [], _ :: _, _, e => by cases e
  | _ :: _, [], _, e => by cases e
  | i :: is, d :: ds, ρ, e => by rw [List.length_cons, List.length_cons, setAll_len is ds _ e]
theorem tgG_okI {K : PySem.W.Frag} {F H : Hp} {ast : Option Addr} (I : L2.St → Ev → Prop) (hI : ∀ σ ρ i v d, I σ ρ → I (σ.set i (some v)) (setD ρ i d)) (fh : Same F H) {Q : L2.St → Hp → Prop} {t : Tg} {x : V} {d : D} {σ : L2.St} {ρ ρ' : Ev} (s : SlOk K F H ast σ ρ) (i0 : I σ ρ) (r : Rp K F x d) (e : bindT t d ρ = some ρ')
    (k : ∀ σ', SlOk K F H ast σ' ρ' → I σ' ρ' → (∀ us : List Nat, (∀ i ∈ t.has, i ∈ us) → wipe σ' us = wipe σ us) → Q σ' H) : tgG K t x σ H Q := by
  cases t with
  | v i =>
    cases e
    exact k _ (s.setF r) (hI _ _ _ _ _ i0) fun us hu => wipe_set (hu i (List.mem_singleton.mpr rfl))
  | t is =>
    cases d <;> first | (cases e; done) | skip
    obtain ⟨a, vs, ev, h1, h2⟩ := Rp.tupleInv r
    exact ⟨a, vs, ev, Same.sqT fh h1, by rw [h2.length]; exact (setAll_len is _ ρ e).symm, gNs_okI I hI Q is vs _ σ ρ ρ' s i0 h2 e k⟩
/-- no own list of the names is the one at Dn -/
def NoD (Dn : Addr) (σ : L2.St) (ρ : Ev) : Prop := σ.length = ρ.length ∧ ∀ (k : Nat) d, ρ[k]? = some (.ow d) → σ[k]? ≠ some (some (V.ref Dn))
theorem NoD.set {Dn : Addr} {σ : L2.St} {ρ : Ev} (h : NoD Dn σ ρ) (i : Nat) (x : Option V) (y : SV) (hy : ∀ d, y ≠ .ow d) : NoD Dn (σ.set i x) (ρ.set i y) := by
  refine ⟨by rw [List.length_set, List.length_set]; exact h.1, fun k d e => ?_⟩
  by_cases hk : i = k
  · subst hk
    by_cases hl : i < ρ.length
    · rw [List.getElem?_set_self hl] at e
      exact absurd (Option.some.inj e) (hy d)
    · rw [List.getElem?_eq_none (by rw [List.length_set]; omega)] at e
      cases e
  · rw [List.getElem?_set_ne hk] at e ⊢
    exact h.2 k d e
theorem NoD.wiped {Dn : Addr} {σ : L2.St} {ρ : Ev} (h : NoD Dn σ ρ) : ∀ vs : List Nat, NoD Dn (wipe σ vs) (wipeE ρ vs)
  | [] => h
  | v :: vs => (h.wiped vs).set v none .un (fun _ z => nomatch z)
abbrev comp2W (wi1 : IW) (tg1 : Tg) (wc1 : CW) (wi2 : IW) (tg2 : Tg) (wc2 : CW) (we : Ev → Nat → XR → Rs → Prop) (own own2 : List Nat) : Ev → Nat → XR → Rs → Prop := fun ρ g X Q =>
  wi1 ρ g X fun ds g0 => loopN (fun d acc g k => ∃ ρ1, bindT tg1 d (wipeE ρ own) = some ρ1 ∧ wc1 ρ1 g noX fun t g1 => if t = true then wi2 ρ1 g1 noX fun ds2 g2 => loopC (stepC tg2 wc2 we (wipeE ρ1 own2)) ds2 acc g2 k else k acc g1) ds [] g0 fun r g1 => Q (.list r) g1
theorem comp2_ok {K : PySem.W.Frag} {B : Wish} {W : WX} {wi1 wi2 : IW} {tg1 tg2 : Tg} {wc1 wc2 : CW} {we : Ev → Nat → XR → Rs → Prop} {own own2 : List Nat} (htg1 : ∀ i ∈ tg1.has, i ∈ own) (htg2 : ∀ i ∈ tg2.has, i ∈ own2) {σ : L2.St} {H : Hp} {Q : VK}
    (h : TDm K B W .fr (comp2W wi1 tg1 wc1 wi2 tg2 wc2 we own own2) σ H Q) :
    tLc2 (TIm K B W wi1) (tgG K tg1) (TTm K B noW wc1) (TIm K B noW wi2) (tgG K tg2) (TTm K B noW wc2) (TDm K B noW .st we) own own2 σ H Q := by
  obtain ⟨F, ast, ρ, g, XX, R, s, q, G⟩ := h
  refine ⟨F, ast, ρ, g, XX, _, s, q, ⟨fun J F1 H1 ds g0 s1 fh1 st1 wk q1 => ?_, G.ex⟩⟩
  intro Dn hD
  obtain ⟨n, GG, Y, wa, hn, hG, hY⟩ := wk
  have c1 := s.step s1 fh1 st1
  have fD : F1 Dn = none := fh1.free hD
  have nD : ast ≠ some Dn := fun z => by
    rw [z] at st1
    obtain ⟨_, b, c, y, ys, h1, _⟩ := st1.1
    rw [hD] at h1
    cases h1
  let outer : D → List D → Nat → (List D → Nat → Prop) → Prop := fun d acc g k => ∃ ρ1, bindT tg1 d (wipeE ρ own) = some ρ1 ∧ wc1 ρ1 g noX fun t g1 => if t = true then wi2 ρ1 g1 noX fun ds2 g2 => loopC (stepC tg2 wc2 we (wipeE ρ1 own2)) ds2 acc g2 k else k acc g1
  let Pv : Nat → Hp → Prop := fun i H => ∃ F2 acc g', CSt K B ast F1 H1 Dn F2 H acc g' ∧ loopN outer (ds.drop i) acc g' fun r g1 => R (.list r) g1
  refine ⟨fun i m H => m = n - i ∧ i ≤ n ∧ Pv i H, ⟨n, by simp, Nat.zero_le _, F1, [], g0, ⟨(Grow.fresh fh1 hD).step, Same.updR fh1 fD, (Grow.fresh fh1 hD).st st1, fD, [], upd_same, .nil⟩, q1⟩, ?_⟩
  rintro i m H2 ⟨rfl, hi, F2, acc, g', cs, lp⟩
  have gg := hG F2 H2 cs.st.same cs.fh
  by_cases hlt : i < n
  · refine .inr ⟨wa.goes i H2 hlt gg, Pv (i + 1), fun H' p' => ⟨n - (i + 1), by omega, rfl, hlt, p'⟩, fun x H' y => ?_⟩
    obtain ⟨F3, d, gr, fh3, ed, rd⟩ := hY i F2 H2 x H' hlt cs.st.same cs.fh (wa.yields i H2 x H' hlt gg y)
    have hlt' : i < ds.length := hn ▸ hlt
    have ed' : ds[i] = d := by
      rw [List.getElem?_eq_getElem hlt'] at ed
      exact Option.some.inj ed
    rw [List.drop_eq_getElem_cons hlt', ed'] at lp
    obtain ⟨ρ1, eb, lp⟩ := lp
    have cs3 := cs.step nD (gr.step (ast := ast)) fh3 (gr.st cs.so)
    have sl := ((c1.sl.step cs3.st).wiped own)
    have nod : NoD Dn (wipe σ own) (wipeE ρ own) := NoD.wiped ⟨c1.sl.len, fun k d e z => by
      obtain ⟨x, e1, a, ea, na, o⟩ := c1.sl.at_ k _ e
      subst ea
      rw [e1] at z
      cases z
      obtain ⟨o', eo⟩ := o.there
      rw [hD] at eo
      cases eo⟩ own
    refine tgG_okI (NoD Dn) (fun σ ρ i v d h => h.set i _ _ fun _ z => nomatch z) fh3 sl nod rd eb fun σ2 s2 nod2 hw => ⟨(hw own htg1).trans (wipe_wipe σ own), ?_⟩
    have c3 : SRc K B F3 H' ast σ2 ρ1 g' := ⟨fh3, cs3.so, s2⟩
    refine ⟨F3, ast, ρ1, g', noX, _, c3, lp, ⟨fun b F4 H4 g4 st4 fh4 so4 q4 => ?_, fun x c F' H' g s fh so z => False.elim z⟩⟩
    have cs4 := cs3.step nD st4 fh4 so4
    cases b with
    | false => exact ⟨F4, acc, g4, cs4, q4⟩
    | true =>
      have q4 : wi2 ρ1 g4 noX fun ds2 g2 => loopC (stepC tg2 wc2 we (wipeE ρ1 own2)) ds2 acc g2 fun acc' g' => loopN outer (ds.drop (i + 1)) acc' g' fun r g1 => R (.list r) g1 := q4
      refine ⟨F4, ast, ρ1, g4, noX, _, c3.step st4 fh4 so4, q4, ⟨fun J5 F5 H5 ds2 g5 s5 fh5 so5 wk2 q5 => ?_, fun x c F' H' g s fh so z => False.elim z⟩⟩
      obtain ⟨n2, GG2, Y2, wa2, hn2, hG2, hY2⟩ := wk2
      have cs5 := cs4.step nD s5 fh5 so5
      have c5 := (c3.step st4 fh4 so4).step s5 fh5 so5
      let Pw : Nat → Hp → Prop := fun j H => ∃ F6 acc2 g6, CSt K B ast F1 H1 Dn F6 H acc2 g6 ∧ Same F5 F6 ∧ SlOk K F6 H ast σ2 ρ1 ∧ loopC (stepC tg2 wc2 we (wipeE ρ1 own2)) (ds2.drop j) acc2 g6 fun acc' g' => loopN outer (ds.drop (i + 1)) acc' g' fun r g1 => R (.list r) g1
      refine ⟨fun j m H => m = n2 - j ∧ j ≤ n2 ∧ Pw j H, ⟨n2, by simp, Nat.zero_le _, F5, acc, g5, cs5, Same.refl _, c5.sl, q5⟩, ?_⟩
      rintro j m2 H6 ⟨rfl, hj, F6, acc2, g6, cs6, sm6, sl6, lp2⟩
      have gg2 := hG2 F6 H6 sm6 cs6.fh
      by_cases hlt2 : j < n2
      · refine .inr ⟨wa2.goes j H6 hlt2 gg2, Pw (j + 1), fun H' p' => ⟨n2 - (j + 1), by omega, rfl, hlt2, p'⟩, fun x2 H7 y2 => ?_⟩
        obtain ⟨F7, d2, gr7, fh7, ed2, rd2⟩ := hY2 j F6 H6 x2 H7 hlt2 sm6 cs6.fh (wa2.yields j H6 x2 H7 hlt2 gg2 y2)
        have hlt2' : j < ds2.length := hn2 ▸ hlt2
        have ed2' : ds2[j] = d2 := by
          rw [List.getElem?_eq_getElem hlt2'] at ed2
          exact Option.some.inj ed2
        rw [List.drop_eq_getElem_cons hlt2', ed2'] at lp2
        obtain ⟨ρ2, eb2, lp2⟩ := lp2
        have cs7 := cs6.step nD (gr7.step (ast := ast)) fh7 (gr7.st cs6.so)
        have sl7 := sl6.step (gr7.step (ast := ast))
        refine tgG_ok fh7 (sl7.wiped own2) rd2 eb2 fun σ3 s3 hw3 => ⟨(hw3 own2 htg2).trans (wipe_wipe σ2 own2), ?_⟩
        have c7 : SRc K B F7 H7 ast σ3 ρ2 g6 := ⟨fh7, cs7.so, s3⟩
        refine ⟨F7, ast, ρ2, g6, noX, _, c7, lp2, ⟨fun b2 F8 H8 g8 st8 fh8 so8 q8 => ?_, fun x c F' H' g s fh so z => False.elim z⟩⟩
        have cs8 := cs7.step nD st8 fh8 so8
        have sl8 := sl7.step st8
        have sm8 : Same F5 F8 := (sm6.trans gr7.same).trans st8.same
        cases b2 with
        | false => exact ⟨F8, acc2, g8, cs8, sm8, sl8, q8⟩
        | true =>
          refine ⟨F8, ast, ρ2, g8, noX, _, c7.step st8 fh8 so8, q8, ⟨fun v F9 H9 y9 g9 st9 fh9 so9 vv q9 => ?_, fun x c F' H' g s fh so z => False.elim z⟩⟩
          have cs9 := cs8.step nD st9 fh9 so9
          have sl9 := sl8.step st9
          obtain ⟨vs, h9, r9⟩ := cs9.ex
          refine ⟨vs, h9, by rw [r9.length]; exact q9.1, F9, acc2 ++ [y9], g9, cs9.push nD hD h9 vv, sm8.trans st9.same, ?_, q9.2⟩
          refine ⟨sl9.len, fun k sv e => ?_, sl9.apart⟩
          obtain ⟨z, e1, r⟩ := sl9.at_ k sv e
          refine ⟨z, e1, ?_⟩
          cases sv with
          | un => trivial
          | fz d => exact r
          | st => exact r
          | ow d =>
            obtain ⟨a, ea, na, o⟩ := r
            subst ea
            have ha : a ≠ Dn := fun z => by
              subst z
              exact nod2.2 k d e e1
            refine ⟨a, rfl, na, o.1, ?_⟩
            rcases o.2 with ⟨vs2, ds2, z1, z2, r⟩ | ⟨vs2, ds2, z1, z2, r⟩
            · exact .inl ⟨vs2, ds2, z1, by rw [upd_ne ha]; exact z2, r⟩
            · exact .inr ⟨vs2, ds2, z1, by rw [upd_ne ha]; exact z2, r⟩
      · have e : j = n2 := by omega
        subst e
        rw [hn2, List.drop_length] at lp2
        exact .inl ⟨wa2.stops H6 gg2, F6, acc2, g6, cs6, lp2⟩
  · have e : i = n := by omega
    subst e
    refine .inl ⟨wa.stops H2 gg, ?_⟩
    obtain ⟨vs, h2, r2⟩ := cs.ex
    rw [hn, List.drop_length] at lp
    exact G.ok (.ref Dn) F2 H2 (.list acc) g' (s1.trans cs.st) cs.fh cs.so ⟨Dn, rfl, s1.none_back nD hD, nD, cs.fr, .inl ⟨vs, acc, rfl, h2, r2⟩⟩ lp
end Dz
set_option Elab.async false
set_option linter.all false
set_option maxRecDepth 100000
/-! Dz: statements, blocks, loops. -/
namespace Dz
open PySem PySem.Spec PyProof.Rows L2
/-- a state of a def's body: Hi, Fi, a0 as at the entry -/
structure SR (K : PySem.W.Frag) (B : Wish) (mk : Bool) (Fb Fi Hi : Hp) (a0 ast : Option Addr) (F H : Hp) (σ : L2.St) (ρ : Ev) (g : Nat) : Prop where
  c : SRc K B F H ast σ ρ g
  i : Step a0 Fi Hi F H
  a : ast = a0 ∨ (mk = true ∧ a0 = none ∧ ∀ x, ast = some x → Hi x = none)
  own : ∀ (j : Nat) d x, ρ[j]? = some (.ow d) → σ[j]? = some (some (V.ref x)) → Hi x = none
  b : Same Fb F
theorem SR.notAst {K : PySem.W.Frag} {mk : Bool} {Fb Fi Hi : Hp} {a0 ast : Option Addr} {F H : Hp} {σ : L2.St} {ρ : Ev} {g : Nat} (s : SR K B mk Fb Fi Hi a0 ast F H σ ρ g) {b : Addr} (h : Hi b ≠ none) (n : a0 ≠ some b) : ast ≠ some b := by
  rcases s.a with e | ⟨_, _, e⟩
  · rw [e]; exact n
  · exact fun z => h (e b z)
theorem SR.later {K : PySem.W.Frag} {mk : Bool} {Fb Fi Hi : Hp} {a0 ast : Option Addr} {F H F' H' : Hp} {σ : L2.St} {ρ : Ev} {g g' : Nat} (s : SR K B mk Fb Fi Hi a0 ast F H σ ρ g) (t : Step ast F H F' H') : Step a0 Fi Hi F' H' where
  same := s.i.same.trans t.same
  pres := fun b o h n nt => t.pres b o (s.i.pres b o h n nt) (s.notAst (by rw [h]; exact fun z => nomatch z) n) nt
  dom := fun b h => t.dom b (s.i.dom b h)
  new := fun b h f n => by
    have q : H b ≠ none := s.i.dom b h
    exact t.new b q (s.i.new b h f n) (s.notAst h n)
theorem SR.step {K : PySem.W.Frag} {mk : Bool} {Fb Fi Hi : Hp} {a0 ast : Option Addr} {F H F' H' : Hp} {σ : L2.St} {ρ : Ev} {g g' : Nat} (s : SR K B mk Fb Fi Hi a0 ast F H σ ρ g) (t : Step ast F H F' H') (c : SRc K B F' H' ast σ ρ g') : SR K B mk Fb Fi Hi a0 ast F' H' σ ρ g' :=
  ⟨c, s.later (g' := g') t, s.a, s.own, s.b.trans t.same⟩
/-- what was nothing now was nothing at the entry -/
theorem SR.was {K : PySem.W.Frag} {mk : Bool} {Fb Fi Hi : Hp} {a0 ast : Option Addr} {F H : Hp} {σ : L2.St} {ρ : Ev} {g : Nat} (s : SR K B mk Fb Fi Hi a0 ast F H σ ρ g) {b : Addr} (h : H b = none) : Hi b = none := by
  cases e : Hi b with
  | none => rfl
  | some o => exact absurd h (s.i.dom b (by rw [e]; exact fun z => nomatch z))
/-- what a body is to reach -/
structure GoalS (K : PySem.W.Frag) (B : Wish) (W : WX) (mk : Bool) (Fb Fi Hi : Hp) (a0 : Option Addr) (X : XR) (k : Kt) (N : Ends) : Prop where
  nx : ∀ σ F H ast ρ g, SR K B mk Fb Fi Hi a0 ast F H σ ρ g → k.nx ρ g → N.nx σ H
  bk : ∀ σ F H ast ρ g, SR K B mk Fb Fi Hi a0 ast F H σ ρ g → k.bk ρ g → N.bk σ H
  ct : ∀ σ F H ast ρ g, SR K B mk Fb Fi Hi a0 ast F H σ ρ g → k.ct ρ g → N.ct σ H
  rt : ∀ v d F H ast g, Step a0 Fi Hi F H → Same F H → StOk K B F H ast g → (ast = a0 ∨ (mk = true ∧ a0 = none ∧ ∀ x, ast = some x → Hi x = none)) → Rp K F v d → k.rt d g → N.rt v H
  ex : ∀ x c F H ast σ g, Step a0 Fi Hi F H → Same F H → StOk K B F H ast g → (ast = a0 ∨ (mk = true ∧ a0 = none ∧ ∀ x, ast = some x → Hi x = none)) → X x g → B.ok x c → W c none σ H
abbrev SW := Ev → Nat → XR → Kt → Prop
def TSm (K : PySem.W.Frag) (B : Wish) (W : WX) (mk : Bool) (w : SW) : TS := fun N σ H => ∃ Fb Fi Hi a0 ast F ρ g X k, SR K B mk Fb Fi Hi a0 ast F H σ ρ g ∧ w ρ g X k ∧ GoalS K B W mk Fb Fi Hi a0 X k N
section
variable {K : PySem.W.Frag} {B : Wish} {W : WX} {mk : Bool} {Fb Fi Hi F H : Hp} {a0 ast : Option Addr} {X : XR} {k : Kt} {N : Ends} {σ : L2.St} {ρ : Ev} {g : Nat}
/-- an expression's goal within a body -/
theorem GoalS.expr (G : GoalS K B W mk Fb Fi Hi a0 X k N) (s : SR K B mk Fb Fi Hi a0 ast F H σ ρ g) {md : Md} {R : Rs} {Q : VK} (ok : ∀ v F' H' d g', SR K B mk Fb Fi Hi a0 ast F' H' σ ρ g' → Step ast F H F' H' → Val K md ast H F' H' v d → R d g' → Q v H') : Goal K B W md ast F H σ X R Q :=
  ⟨fun v F' H' d g' t fh st vv r => ok v F' H' d g' (s.step t (s.c.step t fh st)) t vv r, fun x c F' H' g' t fh st q b => G.ex x c F' H' ast σ g' (s.later (g' := g') t) fh st s.a q b⟩
theorem GoalS.exprB (G : GoalS K B W mk Fb Fi Hi a0 X k N) (s : SR K B mk Fb Fi Hi a0 ast F H σ ρ g) {R : Bool → Nat → Prop} {Q : Bool → Hp → Prop} (ok : ∀ v F' H' g', SR K B mk Fb Fi Hi a0 ast F' H' σ ρ g' → R v g' → Q v H') : GoalB K B W ast F H σ X R Q :=
  ⟨fun v F' H' g' t fh st r => ok v F' H' g' (s.step t (s.c.step t fh st)) r, fun x c F' H' g' t fh st q b => G.ex x c F' H' ast σ g' (s.later (g' := g') t) fh st s.a q b⟩
theorem GoalS.exprL (G : GoalS K B W mk Fb Fi Hi a0 X k N) (s : SR K B mk Fb Fi Hi a0 ast F H σ ρ g) {md : Md} {R : List D → Nat → Prop} {Q : List V → Hp → Prop} (ok : ∀ v F' H' d g', SR K B mk Fb Fi Hi a0 ast F' H' σ ρ g' → ValL K md ast H F' H' v d → R d g' → Q v H') : GoalL K B W md ast F H σ X R Q :=
  ⟨fun v F' H' d g' t fh st vv r => ok v F' H' d g' (s.step t (s.c.step t fh st)) vv r, fun x c F' H' g' t fh st q b => G.ex x c F' H' ast σ g' (s.later (g' := g') t) fh st s.a q b⟩
theorem GoalS.exprI (G : GoalS K B W mk Fb Fi Hi a0 X k N) (s : SR K B mk Fb Fi Hi a0 ast F H σ ρ g) {R : List D → Nat → Prop} {Q : L2.It → Hp → Prop} (ok : ∀ J F' H' ds g', SR K B mk Fb Fi Hi a0 ast F' H' σ ρ g' → WalkD K F' J ds → R ds g' → Q J H') : GoalI K B W ast F H σ X R Q :=
  ⟨fun J F' H' ds g' t fh st wk r => ok J F' H' ds g' (s.step t (s.c.step t fh st)) wk r, fun x c F' H' g' t fh st q b => G.ex x c F' H' ast σ g' (s.later (g' := g') t) fh st s.a q b⟩
/-- a slot gets data that stands still -/
theorem SR.setF (s : SR K B mk Fb Fi Hi a0 ast F H σ ρ g) {i : Nat} {v : V} {d : D} (r : Rp K F v d) : SR K B mk Fb Fi Hi a0 ast F H (σ.set i (some v)) (setD ρ i d) g :=
  ⟨⟨s.c.fh, s.c.st, s.c.sl.setF r⟩, s.i, s.a, fun j e x h1 h2 => by
    unfold setD at h1
    by_cases hj : i = j
    · subst hj
      by_cases hl : i < ρ.length
      · rw [List.getElem?_set_self hl] at h1; cases h1
      · rw [List.getElem?_eq_none (by rw [List.length_set]; omega)] at h1; cases h1
    · rw [List.getElem?_set_ne hj] at h1 h2
      exact s.own j e x h1 h2, s.b⟩
/-- a slot gets a new list, dict of one's own -/
theorem SR.setO (s : SR K B mk Fb Fi Hi a0 ast F H σ ρ g) {i : Nat} {p : Addr} {d : D} (n : ast ≠ some p) (o : OwnAt K F H p d) (hi : Hi p = none) (new : ∀ (j : Nat) e, ρ[j]? = some (.ow e) → σ[j]? ≠ some (some (V.ref p))) :
    SR K B mk Fb Fi Hi a0 ast F H (σ.set i (some (.ref p))) (ρ.set i (.ow d)) g := by
  have cs : ∀ {j : Nat} {e : D}, (ρ.set i (.ow d))[j]? = some (.ow e) → (j = i ∧ e = d ∧ i < ρ.length) ∨ (j ≠ i ∧ ρ[j]? = some (.ow e)) := fun {j e} h => by
    by_cases hj : i = j
    · subst hj
      by_cases hl : i < ρ.length
      · rw [List.getElem?_set_self hl] at h; cases h; exact .inl ⟨rfl, rfl, hl⟩
      · rw [List.getElem?_eq_none (by rw [List.length_set]; omega)] at h; cases h
    · rw [List.getElem?_set_ne hj] at h
      exact .inr ⟨fun z => hj z.symm, h⟩
  have len := s.c.sl.len
  refine ⟨⟨s.c.fh, s.c.st, ⟨by rw [List.length_set, List.length_set]; exact len, fun j sv e => ?_, fun j l e1 e2 a hjl h1 h2 k1 k2 => ?_⟩⟩, s.i, s.a, fun j e x h1 h2 => ?_, s.b⟩
  · by_cases hj : i = j
    · subst hj
      by_cases hl : i < ρ.length
      · rw [List.getElem?_set_self hl] at e
        cases e
        exact ⟨_, List.getElem?_set_self (by rw [len]; exact hl), p, rfl, n, o⟩
      · rw [List.getElem?_eq_none (by rw [List.length_set]; omega)] at e; cases e
    · rw [List.getElem?_set_ne hj] at e ⊢
      exact s.c.sl.at_ j sv e
  · rcases cs h1 with ⟨rfl, _, hl⟩ | ⟨n1, q1⟩
    · rcases cs h2 with ⟨rfl, _, _⟩ | ⟨n2, q2⟩
      · exact hjl rfl
      · rw [List.getElem?_set_self (by rw [len]; exact hl)] at k1
        cases k1
        rw [List.getElem?_set_ne (fun z => n2 z.symm)] at k2
        exact new l e2 q2 k2
    · rw [List.getElem?_set_ne (fun z => n1 z.symm)] at k1
      rcases cs h2 with ⟨rfl, _, hl⟩ | ⟨n2, q2⟩
      · rw [List.getElem?_set_self (by rw [len]; exact hl)] at k2
        cases k2
        exact new j e1 q1 k1
      · rw [List.getElem?_set_ne (fun z => n2 z.symm)] at k2
        exact s.c.sl.apart j l e1 e2 a hjl q1 q2 k1 k2
  · rcases cs h1 with ⟨rfl, _, hl⟩ | ⟨n1, q1⟩
    · rw [List.getElem?_set_self (by rw [len]; exact hl)] at h2
      cases h2
      exact hi
    · rw [List.getElem?_set_ne (fun z => n1 z.symm)] at h2
      exact s.own j e x q1 h2
/-- the object of a slot of one's own is written -/
theorem SR.mut (s : SR K B mk Fb Fi Hi a0 ast F H σ ρ g) {i : Nat} {p : Addr} {d d' : D} {o : HO} (e1 : ρ[i]? = some (.ow d)) (e2 : σ[i]? = some (some (V.ref p))) (n : ast ≠ some p) (own : OwnAt K F H p d) (own' : OwnAt K F (upd H p o) p d') :
    SR K B mk Fb Fi Hi a0 ast F (upd H p o) σ (ρ.set i (.ow d')) g := by
  have hi := s.own i d p e1 e2
  have hF : F p = none := own.1
  have len := s.c.sl.len
  have hl : i < ρ.length := (List.getElem?_eq_some_iff.mp e1).1
  have back : ∀ {j : Nat} {e : D}, (ρ.set i (.ow d'))[j]? = some (.ow e) → ∃ e', ρ[j]? = some (.ow e') := fun {j e} h => by
    by_cases hj : i = j
    · subst hj; exact ⟨d, e1⟩
    · rw [List.getElem?_set_ne hj] at h; exact ⟨e, h⟩
  refine ⟨⟨Same.updR s.c.fh hF, ?_, ⟨by rw [List.length_set]; exact len, fun j sv e => ?_, fun j l d1 d2 a hjl h1 h2 k1 k2 => ?_⟩⟩, ⟨s.i.same, fun b ob h nb nt => ?_, dom_upd s.i.dom, s.i.new⟩, s.a, fun j e x h1 h2 => ?_, s.b⟩
  · obtain ⟨ob, eo⟩ := own.there
    obtain ⟨k1, k2⟩ := own.kind eo
    refine ⟨?_, s.c.st.2.upd eo k1 k2 (own'.kind upd_same).1⟩
    have st := s.c.st.1
    cases hast : ast with
    | none => rw [hast] at st; exact st
    | some a =>
      rw [hast] at st
      obtain ⟨f, b, c, y, ys, h1, h2, h3⟩ := st
      have hap : a ≠ p := fun z => n (by rw [hast, z])
      exact ⟨f, b, c, y, ys, by rw [upd_ne hap]; exact h1, h2, h3⟩
  · by_cases hj : i = j
    · subst hj
      rw [List.getElem?_set_self hl] at e
      cases e
      exact ⟨_, e2, p, rfl, n, own'⟩
    · rw [List.getElem?_set_ne hj] at e
      obtain ⟨x, q1, q2⟩ := s.c.sl.at_ j sv e
      refine ⟨x, q1, ?_⟩
      cases sv with
      | un => trivial
      | fz d => exact q2
      | st => exact q2
      | ow d2 =>
        obtain ⟨a, ea, na, oa⟩ := q2
        subst ea
        have hap : a ≠ p := fun z => by
          subst z
          exact s.c.sl.apart j i d2 d a (fun z => hj z.symm) e e1 q1 e2
        refine ⟨a, rfl, na, oa.1, ?_⟩
        rcases oa.2 with ⟨vs, ds, z1, z2, r⟩ | ⟨vs, ds, z1, z2, r⟩
        · exact .inl ⟨vs, ds, z1, by rw [upd_ne hap]; exact z2, r⟩
        · exact .inr ⟨vs, ds, z1, by rw [upd_ne hap]; exact z2, r⟩
  · obtain ⟨f1, g1⟩ := back h1
    obtain ⟨f2, g2⟩ := back h2
    exact s.c.sl.apart j l f1 f2 a hjl g1 g2 k1 k2
  · have hb : b ≠ p := fun z => by rw [z, hi] at h; cases h
    rw [upd_ne hb]
    exact s.i.pres b ob h nb nt
  · obtain ⟨f1, g1⟩ := back h1
    exact s.own j f1 x g1 h2
/-- what was one's own stands still from now on -/
theorem SR.freeze (s : SR K B mk Fb Fi Hi a0 ast F H σ ρ g) {i : Nat} {d : D} (e1 : ρ[i]? = some (.ow d)) : ∃ F', SR K B mk Fb Fi Hi a0 ast F' H σ (setD ρ i d) g := by
  obtain ⟨x, q1, p, ex, n, o⟩ := s.c.sl.at_ i _ e1
  subst ex
  have hi := s.own i d p e1 q1
  obtain ⟨ob, eo⟩ := o.there
  have hF : F p = none := o.1
  have sF : Same F (upd F p ob) := same_upd hF
  have len := s.c.sl.len
  have hl : i < ρ.length := (List.getElem?_eq_some_iff.mp e1).1
  have rp : Rp K (upd F p ob) (.ref p) d := by
    rcases o.2 with ⟨vs, ds, z1, z2, rr⟩ | ⟨kvs, ds, z1, z2, rr⟩
    · subst z1
      rw [eo] at z2
      cases z2
      exact Rp.lst (SqL.of upd_same) (RpA.mono sF _ _ rr)
    · subst z1
      rw [eo] at z2
      cases z2
      exact Rp.dic upd_same (RpK.mono sF _ _ rr)
  refine ⟨upd F p ob, ⟨fun b u e => ?_, ?_, ⟨by unfold setD; rw [List.length_set]; exact len, fun j sv e => ?_, fun j l d1 d2 a hjl h1 h2 k1 k2 => ?_⟩⟩, ⟨s.i.same.trans sF, s.i.pres, s.i.dom, fun b h f nb => ?_⟩, s.a, fun j e x h1 h2 => ?_, s.b.trans sF⟩
  · by_cases hb : b = p
    · subst hb; rw [upd_same] at e; cases e; exact eo
    · rw [upd_ne hb] at e; exact s.c.fh _ _ e
  · refine ⟨?_, s.c.st.2.still eo (o.kind eo).1⟩
    have st := s.c.st.1
    cases hast : ast with
    | none => rw [hast] at st; exact st
    | some a =>
      rw [hast] at st
      obtain ⟨f, b, c, y, ys, h1, h2, h3⟩ := st
      have hap : a ≠ p := fun z => n (by rw [hast, z])
      exact ⟨by rw [upd_ne hap]; exact f, b, c, y, ys, h1, Rp.mono sF _ _ h2, h3⟩
  · unfold setD at e
    by_cases hj : i = j
    · subst hj
      rw [List.getElem?_set_self hl] at e
      cases e
      exact ⟨_, q1, _, rfl, rp⟩
    · rw [List.getElem?_set_ne hj] at e
      obtain ⟨x, z1, z2⟩ := s.c.sl.at_ j sv e
      refine ⟨x, z1, ?_⟩
      cases sv with
      | un => trivial
      | fz d => obtain ⟨v, ev, r⟩ := z2; exact ⟨v, ev, Rp.mono sF _ _ r⟩
      | st => exact z2
      | ow d2 =>
        obtain ⟨a, ea, na, oa⟩ := z2
        subst ea
        have hap : a ≠ p := fun z => by
          subst z
          exact s.c.sl.apart j i d2 d a (fun z => hj z.symm) e e1 z1 q1
        refine ⟨a, rfl, na, by rw [upd_ne hap]; exact oa.1, ?_⟩
        rcases oa.2 with ⟨vs, ds, y1, y2, r⟩ | ⟨vs, ds, y1, y2, r⟩
        · exact .inl ⟨vs, ds, y1, y2, RpA.mono sF _ _ r⟩
        · exact .inr ⟨vs, ds, y1, y2, RpK.mono sF _ _ r⟩
  · unfold setD at h1 h2
    have no : ∀ {m d'}, (ρ.set i (.fz d))[m]? = some (.ow d') → i ≠ m := fun {m d'} e z => by
      subst z
      rw [List.getElem?_set_self hl] at e; cases e
    rw [List.getElem?_set_ne (no h1)] at h1
    rw [List.getElem?_set_ne (no h2)] at h2
    exact s.c.sl.apart j l d1 d2 a hjl h1 h2 k1 k2
  · have hb : b ≠ p := fun z => h (by rw [z]; exact hi)
    rw [upd_ne hb]
    exact s.i.new b h f nb
  · unfold setD at h1
    by_cases hj : i = j
    · subst hj; rw [List.getElem?_set_self hl] at h1; cases h1
    · rw [List.getElem?_set_ne hj] at h1
      exact s.own j e x h1 h2
end
end Dz
set_option Elab.async false
set_option linter.all false
set_option maxRecDepth 100000
/-! Dz: the statements' rules. -/
namespace Dz
open PySem PySem.Spec PyProof.Rows L2
section
variable {X : Cx} {B : Wish} {W : WX} {mk : Bool} {e a b c : Expr} {st : Stmt} {sts : List Stmt} {we wc : Ev → Nat → XR → Rs → Prop} {ws wr wa wb : SW} {pos : Pos}
/-! ### blocks -/
theorem sndS_nil : PSs X [] (TSm X.K B W mk (fun ρ g _ k => k.nx ρ g)) :=
  PSs.imp pss_nil fun N σ H ⟨Fb, Fi, Hi, a0, ast, F, ρ, g, XX, k, s, q, G⟩ => G.nx σ F H ast ρ g s q
theorem sndS_cons (h1 : PS X st (TSm X.K B W mk ws)) (h2 : PSs X sts (TSm X.K B W mk wr)) : PSs X (st :: sts) (TSm X.K B W mk (fun ρ g XX k => ws ρ g XX { k with nx := fun ρ g => wr ρ g XX k })) :=
  PSs.imp (pss_cons h1 h2) fun N σ H ⟨Fb, Fi, Hi, a0, ast, F, ρ, g, XX, k, s, q, G⟩ =>
    ⟨Fb, Fi, Hi, a0, ast, F, ρ, g, XX, _, s, q, ⟨fun σ' F' H' ast' ρ' g' s' q' => ⟨Fb, Fi, Hi, a0, ast', F', ρ', g', XX, k, s', q', G⟩, G.bk, G.ct, G.rt, G.ex⟩⟩
theorem sndS_freeze {i : Nat} (h : PSs X sts (TSm X.K B W mk wr)) : PSs X sts (TSm X.K B W mk (fun ρ g XX k => onOw ρ[i]? fun d => wr (setD ρ i d) g XX k)) :=
  PSs.imp h fun N σ H ⟨Fb, Fi, Hi, a0, ast, F, ρ, g, XX, k, s, q, G⟩ => by
    obtain ⟨d, e, q⟩ := onOw_some q
    obtain ⟨F', s'⟩ := s.freeze e
    exact ⟨Fb, Fi, Hi, a0, ast, F', setD ρ i d, g, XX, k, s', q, G⟩
/-! ### names -/
theorem gN_ok {K : PySem.W.Frag} {B : Wish} {W : WX} {mk : Bool} {Fb Fi Hi F H : Hp} {a0 ast : Option Addr} {XX : XR} {k : Kt} {N : Ends} {σ : L2.St} {ρ : Ev} {g i : Nat} {v : V} {d : D} (G : GoalS K B W mk Fb Fi Hi a0 XX k N) (s : SR K B mk Fb Fi Hi a0 ast F H σ ρ g) (r : Rp K F v d) (q : k.nx (setD ρ i d) g) : gName i v σ H N.nx :=
  G.nx _ F H ast _ g (s.setF r) q
theorem set_ok {te : TE} {i : Nat} (hte : ∀ σ H Q, TDm X.K B W .st we σ H Q → te σ H Q) (N : Ends) (σ : L2.St) (H : Hp) (h : TSm X.K B W mk (fun ρ g XX k => we ρ g XX fun d g1 => k.nx (setD ρ i d) g1) N σ H) : tAsg te (gName i) N σ H := by
  obtain ⟨Fb, Fi, Hi, a0, ast, F, ρ, g, XX, k, s, q, G⟩ := h
  exact hte _ _ _ ⟨F, ast, ρ, g, XX, _, s.c, q, G.expr s fun v F' H' d g' s' _ vv q' => gN_ok G s' vv q'⟩
theorem sndS_set {i : Nat} {x : Str} {p : Pos} (nd : X.N.Nodup) (hi : X.N[i]? = some x) (hx : Loc X.env.scope x) (hf : X.fn x = true) (he : PE X e (TDm X.K B W .st we)) (hs : swapsWith e (some (.Name x p)) pos.line X.env = pure false) :
    PS X (.Assign [.Name x p] e pos) (TSm X.K B W mk (fun ρ g XX k => we ρ g XX fun d g1 => k.nx (setD ρ i d) g1)) :=
  PS.imp (ps_set nd hi hx he hs (.inl hf)) fun N σ H h => set_ok (fun _ _ _ q => q) N σ H h
theorem setO_ok {te : TE} {i : Nat} (hte : ∀ σ H Q, TDm X.K B W .fr we σ H Q → te σ H Q) (N : Ends) (σ : L2.St) (H : Hp) (h : TSm X.K B W mk (fun ρ g XX k => we ρ g XX fun d g1 => k.nx (ρ.set i (.ow d)) g1) N σ H) : tAsg te (gName i) N σ H := by
  obtain ⟨Fb, Fi, Hi, a0, ast, F, ρ, g, XX, k, s, q, G⟩ := h
  refine hte _ _ _ ⟨F, ast, ρ, g, XX, _, s.c, q, G.expr s fun v F' H' d g' s' t vv q' => ?_⟩
  obtain ⟨p, ev, hp, n, o⟩ := vv
  subst ev
  refine G.nx _ F' H' ast _ g' (s'.setO n o (s.was hp) fun j e e1 e2 => ?_) q'
  obtain ⟨x, q1, a, ex, na, oa⟩ := s.c.sl.at_ j _ e1
  subst ex
  rw [q1] at e2
  cases e2
  obtain ⟨ob, eo⟩ := oa.there
  rw [hp] at eo
  cases eo
theorem sndS_setO {i : Nat} {x : Str} {p : Pos} (nd : X.N.Nodup) (hi : X.N[i]? = some x) (hx : Loc X.env.scope x) (hf : X.fn x = true) (he : PE X e (TDm X.K B W .fr we)) (hs : swapsWith e (some (.Name x p)) pos.line X.env = pure false) :
    PS X (.Assign [.Name x p] e pos) (TSm X.K B W mk (fun ρ g XX k => we ρ g XX fun d g1 => k.nx (ρ.set i (.ow d)) g1)) :=
  PS.imp (ps_set nd hi hx he hs (.inl hf)) fun N σ H h => setO_ok (fun _ _ _ q => q) N σ H h
/-- the state of draws is made: [e, 0] -/
theorem sndS_mkst {i j : Nat} {x : Str} {p p2 p3 : Pos} (nd : X.N.Nodup) (hi : X.N[i]? = some x) (hx : Loc X.env.scope x) (hf : X.fn x = true) (he : PE X e (TDm X.K B W .st we)) (hst : starEach [e, .Constant (.int 0) j p3] X.env = (false, eval e X.env) :: starEach [.Constant (.int 0) j p3] X.env) :
    PS X (.Assign [.Name x p] (.List [e, .Constant (.int 0) j p3] p2) pos) (TSm X.K B W true (fun ρ g XX k => we ρ g XX fun d g1 => g1 = 0 ∧ ∃ (x : Int) (xs : List Int), d = .list (.int x :: xs.map PyData.int) ∧ xs.length < 16777216 ∧ k.nx (ρ.set i .st) (2 ^ 50))) :=
  PS.imp (ps_set nd hi hx (pe_lst (pa_cons he (pa_cons pe_int pa_nil) hst)) rfl (.inl hf)) fun N σ H ⟨Fb, Fi, Hi, a0, ast, F, ρ, g, XX, k, s, q, G⟩ => by
    refine ⟨F, ast, ρ, g, XX, _, s.c, q, G.expr s fun v F' H' d g' s' t vv q' => ?_⟩
    obtain ⟨g0, y, ys, ed, hys, q'⟩ := q'
    subst ed
    refine ⟨by show 2 ≤ sizeLine; decide, fun z hz => ?_⟩
    have hF : F' z = none := s'.c.fh.free hz
    have nast : ast = none := by
      cases ha : ast with
      | none => rfl
      | some a =>
        have st := s'.c.st.1
        rw [ha, g0] at st
        obtain ⟨_, _, _, _, _, _, _, _, _, h0, _⟩ := st
        omega
    have na0 : a0 = none := by
      rcases s'.a with z | ⟨_, z, _⟩
      · rw [← z]; exact nast
      · exact z
    have hiz : Hi z = none := s'.was hz
    have gr := Grow.fresh (o := .lst [v, .int 0]) s'.c.fh hz
    have sl := s'.c.sl.step (gr.step (ast := ast))
    obtain ⟨b, vs, ev, _⟩ := Rp.listInv vv
    subst ev
    refine G.nx _ F' (upd H' z (.lst [.ref b, .int 0])) (some z) _ (2 ^ 50) ⟨⟨Same.updR s'.c.fh hF, ?_, ?_⟩, ?_, ?_, ?_, s'.b⟩ q'
    · exact ⟨⟨hF, b, 0, y, ys, upd_same, vv, by omega, by decide, by decide, hys⟩, s'.c.st.2.grow gr⟩
    · have base : SlOk X.K F' (upd H' z (.lst [.ref b, .int 0])) (some z) σ ρ := by
        refine ⟨sl.len, fun m sv e => ?_, sl.apart⟩
        obtain ⟨x, q1, q2⟩ := sl.at_ m sv e
        refine ⟨x, q1, ?_⟩
        cases sv with
        | un => trivial
        | fz d => exact q2
        | st =>
          obtain ⟨a, _, ea⟩ := q2
          rw [nast] at ea
          cases ea
        | ow d =>
          obtain ⟨a, ea, _, oa⟩ := q2
          refine ⟨a, ea, fun w => ?_, oa⟩
          obtain ⟨x', q1', a', ea', _, oa'⟩ := s'.c.sl.at_ m _ e
          have eq : a' = a := by
            rw [ea] at q1
            rw [ea'] at q1'
            rw [q1] at q1'
            cases q1'
            rfl
          obtain ⟨ob, eo⟩ := oa'.there
          rw [eq] at eo
          cases w
          rw [hz] at eo
          cases eo
      have u := base.setU (i := i) (x := some (V.ref z))
      refine ⟨by rw [List.length_set, List.length_set]; exact sl.len, fun m sv e => ?_, fun m l d1 d2 a hml h1 h2 k1 k2 => ?_⟩
      · by_cases hm : i = m
        · subst hm
          by_cases hl : i < ρ.length
          · rw [List.getElem?_set_self hl] at e
            cases e
            exact ⟨_, List.getElem?_set_self (by rw [sl.len]; exact hl), z, rfl, rfl⟩
          · rw [List.getElem?_eq_none (by rw [List.length_set]; omega)] at e; cases e
        · rw [List.getElem?_set_ne hm] at e ⊢
          exact base.at_ m sv e
      · have no : ∀ {m d'}, (ρ.set i .st)[m]? = some (.ow d') → i ≠ m := fun {m d'} e w => by
          subst w
          by_cases hl : i < ρ.length
          · rw [List.getElem?_set_self hl] at e; cases e
          · rw [List.getElem?_eq_none (by rw [List.length_set]; omega)] at e; cases e
        have n1 := no h1
        have n2 := no h2
        rw [List.getElem?_set_ne n1] at h1 k1
        rw [List.getElem?_set_ne n2] at h2 k2
        exact base.apart m l d1 d2 a hml h1 h2 k1 k2
    · exact ⟨s'.i.same, fun b ob h nb nt => (same_upd hz) _ _ (s'.i.pres b ob h nb nt), dom_upd s'.i.dom, s'.i.new⟩
    · exact .inr ⟨rfl, na0, fun w ew => by cases ew; exact hiz⟩
    · intro m d w h1 h2
      by_cases hm : i = m
      · subst hm
        by_cases hl : i < ρ.length
        · rw [List.getElem?_set_self hl] at h1; cases h1
        · rw [List.getElem?_eq_none (by rw [List.length_set]; omega)] at h1; cases h1
      · rw [List.getElem?_set_ne hm] at h1 h2
        exact s'.own m d w h1 h2
/-! ### several names -/
theorem setAll_ok {K : PySem.W.Frag} {mk : Bool} {Fb Fi Hi F H : Hp} {a0 ast : Option Addr} {g : Nat} : ∀ (is : List Nat) (vs : List V) (ds : List D) (σ : L2.St) (ρ ρ' : Ev), SR K B mk Fb Fi Hi a0 ast F H σ ρ g → RpA K F vs ds → setAll ρ is ds = some ρ' →
    vs.length = is.length ∧ SR K B mk Fb Fi Hi a0 ast F H ((is.zip vs).foldl (fun σ p => σ.set p.1 (some p.2)) σ) ρ' g
  | [], vs, [], σ, ρ, ρ', s, r, e => by cases r; cases e; exact ⟨rfl, s⟩
  | [], vs, _ :: _, σ, ρ, ρ', s, r, e => by cases e
  | i :: is, vs, [], σ, ρ, ρ', s, r, e => by cases e
  | i :: is, vs, d :: ds, σ, ρ, ρ', s, r, e => by
    cases r with
    | cons r1 r2 =>
      obtain ⟨h1, h2⟩ := setAll_ok is _ ds _ _ ρ' (s.setF r1) r2 e
      exact ⟨by rw [List.length_cons, List.length_cons, h1], h2⟩
abbrev parW (is : List Nat) (wl : Ev → Nat → XR → (List D → Nat → Prop) → Prop) : SW := fun ρ g XX k => wl ρ g XX fun ds g1 => ∃ ρ', setAll ρ is ds = some ρ' ∧ k.nx ρ' g1
theorem sndS_par2 {i j : Nat} {x y : Str} {px py pt pt2 : Pos} {kt k2} {wl : Ev → Nat → XR → (List D → Nat → Prop) → Prop} (hc : X.calm = true) (nd : X.N.Nodup) (hi : X.N[i]? = some x) (hj : X.N[j]? = some y) (hij : i ≠ j) (hx : X.env.scope.names.lookup x = some .local) (hy : X.env.scope.names.lookup y = some .local)
    (ha : PA X [a, b] (TAm X.K B W .st wl)) (hw : swappedStores [.Tuple [.Name x px, .Name y py] kt pt] (.Tuple [a, b] k2 pt2) X.env = pure (some [x, y])) :
    PS X (.Assign [.Tuple [.Name x px, .Name y py] kt pt] (.Tuple [a, b] k2 pt2) pos) (TSm X.K B W mk (parW [i, j] wl)) :=
  PS.imp (ps_par hc nd hi hj hij hx hy ha hw) fun N σ H ⟨Fb, Fi, Hi, a0, ast, F, ρ, g, XX, k, s, q, G⟩ => ⟨F, ast, ρ, g, XX, _, s.c, q, G.exprL s fun vs F' H' ds g' s' vv q' => by
    obtain ⟨ρ', e, q'⟩ := q'
    obtain ⟨h1, h2⟩ := setAll_ok [i, j] vs ds σ ρ ρ' s' (ValL.rp vv) e
    match vs, h1, h2 with
    | [v, u], _, h2 => exact ⟨v, u, rfl, G.nx _ F' H' ast ρ' g' h2 q'⟩⟩
theorem sndS_par3 {i j l : Nat} {x y z : Str} {px py pz pt pt2 : Pos} {kt k2} {wl : Ev → Nat → XR → (List D → Nat → Prop) → Prop} (hc : X.calm = true) (nd : X.N.Nodup) (hi : X.N[i]? = some x) (hj : X.N[j]? = some y) (hl : X.N[l]? = some z) (hij : i ≠ j) (hil : i ≠ l) (hjl : j ≠ l)
    (hx : X.env.scope.names.lookup x = some .local) (hy : X.env.scope.names.lookup y = some .local) (hz : X.env.scope.names.lookup z = some .local)
    (ha : PA X [a, b, c] (TAm X.K B W .st wl)) (hw : swappedStores [.Tuple [.Name x px, .Name y py, .Name z pz] kt pt] (.Tuple [a, b, c] k2 pt2) X.env = pure (some [x, y, z])) :
    PS X (.Assign [.Tuple [.Name x px, .Name y py, .Name z pz] kt pt] (.Tuple [a, b, c] k2 pt2) pos) (TSm X.K B W mk (parW [i, j, l] wl)) :=
  PS.imp (ps_par3 hc nd hi hj hl hij hil hjl hx hy hz ha hw) fun N σ H ⟨Fb, Fi, Hi, a0, ast, F, ρ, g, XX, k, s, q, G⟩ => ⟨F, ast, ρ, g, XX, _, s.c, q, G.exprL s fun vs F' H' ds g' s' vv q' => by
    obtain ⟨ρ', e, q'⟩ := q'
    obtain ⟨h1, h2⟩ := setAll_ok [i, j, l] vs ds σ ρ ρ' s' (ValL.rp vv) e
    match vs, h1, h2 with
    | [v, u, w], _, h2 => exact ⟨v, u, w, rfl, G.nx _ F' H' ast ρ' g' h2 q'⟩⟩
/-- the target of a body: as in comprehensions, the names of the def -/
theorem tgS_ok {K : PySem.W.Frag} {mk : Bool} {Fb Fi Hi F H : Hp} {a0 ast : Option Addr} {g : Nat} {Q : L2.St → Hp → Prop} {t : Tg} {v : V} {d : D} {σ : L2.St} {ρ ρ' : Ev} (s : SR K B mk Fb Fi Hi a0 ast F H σ ρ g) (r : Rp K F v d) (e : bindT t d ρ = some ρ')
    (k : ∀ σ', SR K B mk Fb Fi Hi a0 ast F H σ' ρ' g → Q σ' H) : tgG K t v σ H Q := by
  cases t with
  | v i => cases e; exact k _ (s.setF r)
  | t is =>
    cases d <;> first | (cases e; done) | skip
    rename_i ds
    obtain ⟨a, vs, ev, h1, h2⟩ := Rp.tupleInv r
    have go : ∀ (is : List Nat) (vs : List V) (ds : List D) (σ : L2.St) (ρ : Ev), SR K B mk Fb Fi Hi a0 ast F H σ ρ g → RpA K F vs ds → setAll ρ is ds = some ρ' → ds.length = is.length ∧ gNs is vs σ H Q := by
      intro is
      induction is with
      | nil =>
        intro vs ds σ ρ s r e
        cases ds with
        | nil => cases r; cases e; exact ⟨rfl, rfl, k σ s⟩
        | cons d ds => cases e
      | cons i is ih =>
        intro vs ds σ ρ s r e
        cases ds with
        | nil => cases e
        | cons d ds =>
          cases r with
          | cons r1 r2 =>
            obtain ⟨q1, q2⟩ := ih _ ds _ _ (s.setF r1) r2 e
            exact ⟨by rw [List.length_cons, List.length_cons, q1], _, _, rfl, q2⟩
    obtain ⟨q1, q2⟩ := go is vs ds σ ρ s h2 e
    exact ⟨a, vs, ev, Same.sqT s.c.fh h1, by rw [h2.length]; exact q1, q2⟩
theorem sndS_unpack {t : Tg} {tg : Expr} (hg : PG X tg (tgG X.K t)) (he : PE X e (TDm X.K B W .st we)) (hs : swapsWithSole [tg] e pos.line X.env = pure false) (hw : swappedStores [tg] e X.env = pure none) (h1 : (assignEach [tg] X.env).map (·.2) = [assign tg X.env]) :
    PS X (.Assign [tg] e pos) (TSm X.K B W mk (fun ρ g XX k => we ρ g XX fun d g1 => ∃ ρ', bindT t d ρ = some ρ' ∧ k.nx ρ' g1)) :=
  PS.imp (ps_asg he hg hs hw h1) fun N σ H ⟨Fb, Fi, Hi, a0, ast, F, ρ, g, XX, k, s, q, G⟩ => ⟨F, ast, ρ, g, XX, _, s.c, q, G.expr s fun v F' H' d g' s' _ vv q' => by
    obtain ⟨ρ', e, q'⟩ := q'
    exact tgS_ok s' vv e fun σ' s2 => G.nx σ' F' H' ast ρ' g' s2 q'⟩
/-! ### append -/
theorem sndS_append {i : Nat} {x : Str} {p apos cpos : Pos} (hN : X.N[i]? = some x) (hv : Vis X.env.scope x) (hd : (x == ("__debug__" : Str)) = false) (hcd : (x == ("__classdict__" : Str)) = false) (he : PE X e (TDm X.K B W .st we)) (hs : starEach [e] X.env = [(false, eval e X.env)])
    (hline : (apos.endLine == cpos.line) = true) :
    PS X (.Expr (.Call (.Attribute (.Name x p) "append" apos) [e] [] cpos) pos) (TSm X.K B W mk (fun ρ g XX k => onOw ρ[i]? fun o => onList o fun xs => we ρ g XX fun d g1 => xs.length < sizeLine ∧ k.nx (ρ.set i (.ow (.list (xs ++ [d])))) g1)) := by
  have hfew : ((backTo cpos (starEach [e] X.env)).all (fun x => !x.1) && (backToKw cpos (keywordEach [] X.env)).all (fun x => x.1.isSome) && decide ([e].length + ([] : List Keyword).length + (if ([] : List Keyword).isEmpty then 0 else 1) < 30)) = true := by rw [hs]; rfl
  refine PS.imp (ps_expr (pe_bm PySem.F.plainAttrs_list PySem.F.slot_list_append PySem.F.type_list_append mt_append (pe_var hN hv hd hcd) (pa_cons he pa_nil hs) rfl hfew hline hs rfl)) fun N σ H ⟨Fb, Fi, Hi, a0, ast, F, ρ, g, XX, k, s, q, G⟩ => ?_
  obtain ⟨o, hi, q⟩ := onOw_some q
  obtain ⟨xs, eo, q⟩ := onList_some q
  subst eo
  obtain ⟨y, q1, p, ey, n, own⟩ := s.c.sl.at_ i _ hi
  subst ey
  have lst : ∀ {F H : Hp}, OwnAt X.K F H p (.list xs) → ∃ vs, H p = some (.lst vs) ∧ RpA X.K F vs xs := fun {F H} o => by
    rcases o.2 with ⟨vs, ds, z1, z2, r⟩ | ⟨vs, ds, z1, z2, r⟩
    · cases z1; exact ⟨vs, z2, r⟩
    · cases z1
  obtain ⟨vs0, h0, _⟩ := lst own
  refine ⟨.ref p, q1, .inl ⟨rfl, vs0, SqL.of h0⟩, F, ast, ρ, g, XX, _, s.c, q, G.expr s fun v F' H' d g' s' t vv q' => ?_⟩
  have own1 := own.step n t
  obtain ⟨vs, h1, r1⟩ := lst own1
  refine ⟨p, vs, v, rfl, rfl, h1, by rw [r1.length]; exact q'.1, ?_⟩
  exact G.nx σ F' (upd H' p (.lst (vs ++ [v]))) ast _ g' (s'.mut hi q1 n own1 ⟨own1.1, .inl ⟨vs ++ [v], xs ++ [d], rfl, upd_same, r1.append (.cons vv .nil)⟩⟩) q'.2
/-! ### if, loops, return -/
theorem sndS_ifs {sa sb : List Stmt} (hc : PT X c (TTm X.K B W (tst wc))) (ha : PSs X sa (TSm X.K B W mk wa)) (hb : PSs X sb (TSm X.K B W mk wb)) :
    PS X (.If c sa sb pos) (TSm X.K B W mk (fun ρ g XX k => wc ρ g XX (onBool fun t g1 => if t = true then wa ρ g1 XX k else wb ρ g1 XX k))) :=
  PS.imp (ps_if hc ha hb) fun N σ H ⟨Fb, Fi, Hi, a0, ast, F, ρ, g, XX, k, s, q, G⟩ => ⟨F, ast, ρ, g, XX, _, s.c, q, G.exprB s fun b F' H' g' s' q' => by
    cases b with
    | true => exact ⟨Fb, Fi, Hi, a0, ast, F', ρ, g', XX, k, s', q', G⟩
    | false => exact ⟨Fb, Fi, Hi, a0, ast, F', ρ, g', XX, k, s', q', G⟩⟩
theorem sndS_ret (he : PE X e (TDm X.K B W .st we)) : PS X (.Return (some e) pos) (TSm X.K B W mk (fun ρ g XX k => we ρ g XX k.rt)) :=
  PS.imp (ps_ret he) fun N σ H ⟨Fb, Fi, Hi, a0, ast, F, ρ, g, XX, k, s, q, G⟩ => ⟨F, ast, ρ, g, XX, _, s.c, q, G.expr s fun v F' H' d g' s' t vv q' =>
    G.rt v d F' H' ast g' s'.i s'.c.fh s'.c.st s'.a vv q'⟩
theorem sndS_brk : PS X (.Break pos) (TSm X.K B W mk (fun ρ g _ k => k.bk ρ g)) :=
  PS.imp ps_break fun N σ H ⟨Fb, Fi, Hi, a0, ast, F, ρ, g, XX, k, s, q, G⟩ => G.bk σ F H ast ρ g s q
theorem sndS_cont : PS X (.Continue pos) (TSm X.K B W mk (fun ρ g _ k => k.ct ρ g)) :=
  PS.imp ps_continue fun N σ H ⟨Fb, Fi, Hi, a0, ast, F, ρ, g, XX, k, s, q, G⟩ => G.ct σ F H ast ρ g s q
theorem sndS_for {t : Tg} {tg it : Expr} {body : List Stmt} {wi : IW} {wb : SW} (hp : PassesOwn (model X.prog X.w) X.A X.env X.xe) (hc : X.calm = true) (hi : PI X tg it (TIm X.K B W wi)) (hg : PG X tg (tgG X.K t)) (hb : PSs X body (TSm X.K B W mk wb))
    (hs : ∀ x, foldedSetIterable it X.env x = pure x) : PS X (.For tg it body [] pos) (TSm X.K B W mk (fun ρ g XX k => wi ρ g XX fun ds g1 => loopF t (fun ρ g k => wb ρ g XX k) ds ρ g1 k)) :=
  PS.imp (ps_for hp hc hi hg hb hs) fun N σ H ⟨Fb, Fi, Hi, a0, ast, F, ρ, g, XX, k, s, q, G⟩ => by
    refine ⟨F, ast, ρ, g, XX, _, s.c, q, G.exprI s fun J F1 H1 ds g1 s1 wk q1 => ?_⟩
    obtain ⟨n, GG, Y, wa, hn, hG, hY⟩ := wk
    refine for_it wa (fun i σ H => ∃ F2 ast2 ρ2 g2, SR X.K B mk F1 Fi Hi a0 ast2 F2 H σ ρ2 g2 ∧ loopF t (fun ρ g k => wb ρ g XX k) (ds.drop i) ρ2 g2 k) ⟨F1, ast, ρ, g1, ⟨s1.c, s1.i, s1.a, s1.own, Same.refl _⟩, q1⟩
      (fun i σ H _ ⟨F2, ast2, ρ2, g2, s2, _⟩ => hG F2 H s2.b s2.c.fh) (fun i x σ H H' hi pv y => ?_) (fun σ H pv => ?_)
    · obtain ⟨F2, ast2, ρ2, g2, s2, lp⟩ := pv
      obtain ⟨F3, d, gr, fh3, ed, rd⟩ := hY i F2 H x H' hi s2.b s2.c.fh y
      have hlt : i < ds.length := hn ▸ hi
      have ed' : ds[i] = d := by
        rw [List.getElem?_eq_getElem hlt] at ed
        exact Option.some.inj ed
      rw [List.drop_eq_getElem_cons hlt, ed'] at lp
      obtain ⟨ρ', eb, lp⟩ := lp
      have s3 := s2.step (gr.step (ast := ast2)) (s2.c.step gr.step fh3 (gr.st s2.c.st))
      refine tgS_ok s3 rd eb fun σ' s4 => ⟨F1, Fi, Hi, a0, ast2, F3, ρ', g2, XX, _, s4, lp, ?_⟩
      have back : ∀ {F : Hp} {σ : L2.St} {H : Hp} {ast : Option Addr} {ρ : Ev} {g : Nat}, SR X.K B mk F1 Fi Hi a0 ast F H σ ρ g → SR X.K B mk Fb Fi Hi a0 ast F H σ ρ g := fun s => ⟨s.c, s.i, s.a, s.own, s1.b.trans s.b⟩
      exact ⟨fun σ F H ast ρ g s q => ⟨F, ast, ρ, g, s, q⟩, fun σ F H ast ρ g s q => G.nx σ F H ast ρ g (back s) q, fun σ F H ast ρ g s q => ⟨F, ast, ρ, g, s, q⟩, G.rt, G.ex⟩
    · obtain ⟨F2, ast2, ρ2, g2, s2, lp⟩ := pv
      rw [hn, List.drop_length] at lp
      exact G.nx σ F2 H ast2 ρ2 g2 ⟨s2.c, s2.i, s2.a, s2.own, s1.b.trans s2.b⟩ lp
theorem sndS_while {body : List Stmt} {wb : SW} (hp : PassesOwn (model X.prog X.w) X.A X.env X.xe) (hc : PT X c (TTm X.K B W (tst wc))) (hb : PSs X body (TSm X.K B W mk wb)) :
    PS X (.While c body [] pos) (TSm X.K B W mk (fun ρ g XX k => ∃ n, loopW (fun ρ g k => wc ρ g XX (onBool k)) (fun ρ g k => wb ρ g XX k) n ρ g k)) :=
  PS.imp (ps_while hp hc hb) fun N σ H ⟨Fb, Fi, Hi, a0, ast, F, ρ, g, XX, k, s, q, G⟩ => by
    obtain ⟨n, q⟩ := q
    refine ⟨fun m σ H => ∃ F2 ast2 ρ2 g2, SR X.K B mk Fb Fi Hi a0 ast2 F2 H σ ρ2 g2 ∧ loopW (fun ρ g k => wc ρ g XX (onBool k)) (fun ρ g k => wb ρ g XX k) m ρ2 g2 k, ⟨n, F, ast, ρ, g, s, q⟩, ?_⟩
    rintro m σ H ⟨F2, ast2, ρ2, g2, s2, lp⟩
    cases m with
    | zero => exact False.elim lp
    | succ m =>
      refine ⟨F2, ast2, ρ2, g2, XX, _, s2.c, lp, G.exprB s2 fun b F' H' g' s' q' => ?_⟩
      cases b with
      | false => exact G.nx σ F' H' ast2 ρ2 g' s' q'
      | true =>
        refine ⟨fun σ H => ∃ F2 ast2 ρ2 g2, SR X.K B mk Fb Fi Hi a0 ast2 F2 H σ ρ2 g2 ∧ loopW (fun ρ g k => wc ρ g XX (onBool k)) (fun ρ g k => wb ρ g XX k) m ρ2 g2 k, fun σ' H' q => ⟨m, Nat.lt_succ_self m, q⟩, Fb, Fi, Hi, a0, ast2, F', ρ2, g', XX, _, s', q', ?_⟩
        exact ⟨fun σ F H ast ρ g s q => ⟨F, ast, ρ, g, s, q⟩, fun σ F H ast ρ g s q => G.nx σ F H ast ρ g s q, fun σ F H ast ρ g s q => ⟨F, ast, ρ, g, s, q⟩, G.rt, G.ex⟩
/-! ### raise -/
theorem sndS_raise {n : Nat} {C : Addr} {t : L2.St → Hp → XK → Prop} (hc : X.calm = true) (tk : L2N.Takes X W) (he : L2N.PMk X e t) (ht : ∀ σ H Q, Q (.ref C) none H → t σ H Q) (hB : B.ok (.cls n) (.ref C)) : PS X (.Raise (some e) none pos) (TSm X.K B W mk (fun _ g XX _ => XX (.cls n) g)) :=
  PS.imp (L2N.ps_raise hc tk he) fun N σ H ⟨Fb, Fi, Hi, a0, ast, F, ρ, g, XX, k, s, q, G⟩ => ht σ H _ (G.ex (.cls n) (.ref C) F H ast σ g s.i s.c.fh s.c.st s.a q hB)
end
end Dz
set_option Elab.async false
set_option linter.all false
set_option maxRecDepth 100000
/-! Dz: calls as statements, pop, extend, names that get new lists at once. -/
namespace Dz
open PySem PySem.Spec PyProof.Rows L2
section
variable {X : Cx} {B : Wish} {W : WX} {mk : Bool} {e a b c : Expr} {es : List Expr} {we : Ev → Nat → XR → Rs → Prop} {pos : Pos}
theorem sndS_expr (he : PE X e (TDm X.K B W .st we)) (hs : swapsWith e none pos.line X.env = pure false) : PS X (.Expr e pos) (TSm X.K B W mk (fun ρ g XX k => we ρ g XX fun _ g1 => k.nx ρ g1)) :=
  PS.imp (ps_expr he hs) fun N σ H ⟨Fb, Fi, Hi, a0, ast, F, ρ, g, XX, k, s, q, G⟩ => ⟨F, ast, ρ, g, XX, _, s.c, q, G.expr s fun v F' H' d g' s' t vv q' => G.nx σ F' H' ast ρ g' s' q'⟩
theorem own_list {K : PySem.W.Frag} {F H : Hp} {p : Addr} {xs : List D} (o : OwnAt K F H p (.list xs)) : ∃ vs, H p = some (.lst vs) ∧ RpA K F vs xs := by
  rcases o.2 with ⟨vs, ds, z1, z2, r⟩ | ⟨vs, ds, z1, z2, r⟩
  · cases z1; exact ⟨vs, z2, r⟩
  · cases z1
theorem rpA_dropLast {K : PySem.W.Frag} {F : Hp} {vs : List V} {ds : List D} (r : RpA K F vs ds) : RpA K F vs.dropLast ds.dropLast := by
  rw [List.dropLast_eq_take, List.dropLast_eq_take, r.length]
  exact r.take _
theorem sndS_pop {t : Tg} {tg : Expr} {i : Nat} {x : Str} {p apos cpos : Pos} (hN : X.N[i]? = some x) (hv : Vis X.env.scope x) (hd : (x == ("__debug__" : Str)) = false) (hcd : (x == ("__classdict__" : Str)) = false) (hg : PG X tg (tgG X.K t))
    (hs : swapsWithSole [tg] (.Call (.Attribute (.Name x p) "pop" apos) [] [] cpos) pos.line X.env = pure false) (hw : swappedStores [tg] (.Call (.Attribute (.Name x p) "pop" apos) [] [] cpos) X.env = pure none) (h1 : (assignEach [tg] X.env).map (·.2) = [assign tg X.env]) (hline : (apos.endLine == cpos.line) = true) :
    PS X (.Assign [tg] (.Call (.Attribute (.Name x p) "pop" apos) [] [] cpos) pos) (TSm X.K B W mk (fun ρ g _ k => onOw ρ[i]? fun o => onList o fun xs => ∃ d ρ', xs.getLast? = some d ∧ bindT t d (ρ.set i (.ow (.list xs.dropLast))) = some ρ' ∧ k.nx ρ' g)) := by
  refine PS.imp (ps_asg (pe_bm0 PySem.F.plainAttrs_list PySem.F.slot_list_pop PySem.F.type_list_pop mt_pop (pe_var hN hv hd hcd) rfl hline) hg hs hw h1) fun N σ H ⟨Fb, Fi, Hi, a0, ast, F, ρ, g, XX, k, s, q, G⟩ => ?_
  obtain ⟨o, hi, q⟩ := onOw_some q
  obtain ⟨xs, eo, q⟩ := onList_some q
  subst eo
  obtain ⟨d, ρ', el, eb, q⟩ := q
  obtain ⟨y, q1, p, ey, n, own⟩ := s.c.sl.at_ i _ hi
  subst ey
  obtain ⟨vs, h0, r0⟩ := own_list own
  have hl : xs[xs.length - 1]? = some d := by rw [← List.getLast?_eq_getElem?]; exact el
  obtain ⟨v, ev, rv⟩ := r0.get hl
  rw [← r0.length] at ev
  refine ⟨.ref p, q1, .inl ⟨rfl, vs, SqL.of h0⟩, p, vs, v, rfl, rfl, h0, ev, ?_⟩
  have s2 := s.mut (o := .lst vs.dropLast) hi q1 n own ⟨own.1, .inl ⟨vs.dropLast, xs.dropLast, rfl, upd_same, rpA_dropLast r0⟩⟩
  exact tgS_ok s2 rv eb fun σ' s3 => G.nx σ' F _ ast ρ' g s3 q
theorem sndS_extend {i : Nat} {x : Str} {p apos cpos : Pos} (hN : X.N[i]? = some x) (hv : Vis X.env.scope x) (hd : (x == ("__debug__" : Str)) = false) (hcd : (x == ("__classdict__" : Str)) = false) (he : PE X e (TDm X.K B W .fr we)) (hs : starEach [e] X.env = [(false, eval e X.env)])
    (hline : (apos.endLine == cpos.line) = true) :
    PS X (.Expr (.Call (.Attribute (.Name x p) "extend" apos) [e] [] cpos) pos) (TSm X.K B W mk (fun ρ g XX k => onOw ρ[i]? fun o => onList o fun xs => we ρ g XX fun d g1 => onList d fun ys => xs.length + ys.length ≤ sizeLine ∧ k.nx (ρ.set i (.ow (.list (xs ++ ys)))) g1)) := by
  have hfew : ((backTo cpos (starEach [e] X.env)).all (fun x => !x.1) && (backToKw cpos (keywordEach [] X.env)).all (fun x => x.1.isSome) && decide ([e].length + ([] : List Keyword).length + (if ([] : List Keyword).isEmpty then 0 else 1) < 30)) = true := by rw [hs]; rfl
  refine PS.imp (ps_expr (pe_bm PySem.F.plainAttrs_list PySem.F.slot_list_extend PySem.F.type_list_extend mt_extend (pe_var hN hv hd hcd) (pa_cons he pa_nil hs) rfl hfew hline hs rfl)) fun N σ H ⟨Fb, Fi, Hi, a0, ast, F, ρ, g, XX, k, s, q, G⟩ => ?_
  obtain ⟨o, hi, q⟩ := onOw_some q
  obtain ⟨xs, eo, q⟩ := onList_some q
  subst eo
  obtain ⟨y, q1, p, ey, n, own⟩ := s.c.sl.at_ i _ hi
  subst ey
  obtain ⟨vs0, h0, _⟩ := own_list own
  refine ⟨.ref p, q1, .inl ⟨rfl, vs0, SqL.of h0⟩, F, ast, ρ, g, XX, _, s.c, q, G.expr s fun v F' H' d g' s' t vv q' => ?_⟩
  obtain ⟨ys, ed, q'⟩ := onList_some q'
  subst ed
  obtain ⟨b, ev, hb, nb, ob⟩ := vv
  subst ev
  have own1 := own.step n t
  obtain ⟨vs, h1, r1⟩ := own_list own1
  obtain ⟨us, h2, r2⟩ := own_list ob
  refine ⟨p, b, vs, us, rfl, rfl, h1, h2, by rw [r1.length, r2.length]; exact q'.1, ?_⟩
  exact G.nx σ F' (upd H' p (.lst (vs ++ us))) ast _ g' (s'.mut hi q1 n own1 ⟨own1.1, .inl ⟨vs ++ us, xs ++ ys, rfl, upd_same, r1.append r2⟩⟩) q'.2
/-! ### several names at once, some of them get new lists -/
def ValX (K : PySem.W.Frag) (ast : Option Addr) (H F' H' : Hp) : List Bool → List V → List D → Prop
  | [], [], [] => True
  | b :: bs, v :: vs, d :: ds => (if b = true then ∃ a, v = .ref a ∧ H a = none ∧ ast ≠ some a ∧ OwnAt K F' H' a d ∧ ∀ j : Nat, bs[j]? = some true → vs[j]? ≠ some (.ref a) else Rp K F' v d) ∧ ValX K ast H F' H' bs vs ds
  | _, _, _ => False
/-- the flagged ones are new -/
theorem ValX.new {K : PySem.W.Frag} {ast : Option Addr} {H F' H' : Hp} : ∀ {bs : List Bool} {vs : List V} {ds : List D}, ValX K ast H F' H' bs vs ds → ∀ (j : Nat) v, bs[j]? = some true → vs[j]? = some v → ∃ a, v = .ref a ∧ H a = none
  | [], [], [], _, j, v, e, _ => by simp at e
  | b :: bs, v :: vs, d :: ds, h, 0, u, e1, e2 => by
    simp at e1 e2
    subst e1 e2
    have q := h.1
    rw [if_pos rfl] at q
    obtain ⟨a, e, ha, _⟩ := q
    exact ⟨a, e, ha⟩
  | b :: bs, v :: vs, d :: ds, h, j + 1, u, e1, e2 => ValX.new h.2 j u (by simpa using e1) (by simpa using e2)
  | [], [], _ :: _, h, _, _, _, _ => h.elim
  | [], _ :: _, _, h, _, _, _, _ => h.elim
  | _ :: _, [], _, h, _, _, _, _ => h.elim
  | _ :: _, _ :: _, [], h, _, _, _, _ => h.elim
theorem ValX.back {K : PySem.W.Frag} {ast : Option Addr} {H H1 F F1 F' H' : Hp} (s : Step ast F H F1 H1) : ∀ {bs : List Bool} {vs : List V} {ds : List D}, ValX K ast H1 F' H' bs vs ds → ValX K ast H F' H' bs vs ds
  | [], [], [], _ => trivial
  | b :: bs, v :: vs, d :: ds, h => by
    refine ⟨?_, ValX.back s h.2⟩
    have q := h.1
    cases b with
    | false => exact q
    | true =>
      rw [if_pos rfl] at q ⊢
      obtain ⟨a, e, ha, na, r⟩ := q
      exact ⟨a, e, s.none_back na ha, na, r⟩
  | [], [], _ :: _, h => h.elim
  | [], _ :: _, _, h => h.elim
  | _ :: _, [], _, h => h.elim
  | _ :: _, _ :: _, [], h => h.elim
structure GoalX (K : PySem.W.Frag) (B : Wish) (W : WX) (fl : List Bool) (ast : Option Addr) (F H : Hp) (σ : L2.St) (X : XR) (R : List D → Nat → Prop) (Q : List V → Hp → Prop) : Prop where
  ok : ∀ vs F' H' ds g, Step ast F H F' H' → Same F' H' → StOk K B F' H' ast g → ValX K ast H F' H' fl vs ds → R ds g → Q vs H'
  ex : ∀ x c F' H' g, Step ast F H F' H' → Same F' H' → StOk K B F' H' ast g → X x g → B.ok x c → W c none σ H'
def TXm (K : PySem.W.Frag) (B : Wish) (W : WX) (fl : List Bool) (w : Ev → Nat → XR → (List D → Nat → Prop) → Prop) : TA := fun σ H Q =>
  ∃ F ast ρ g X R, SRc K B F H ast σ ρ g ∧ w ρ g X R ∧ GoalX K B W fl ast F H σ X R Q
theorem GoalX.later {K : PySem.W.Frag} {B : Wish} {W : WX} {fl : List Bool} {ast : Option Addr} {F H F1 H1 : Hp} {σ : L2.St} {X : XR} {R : List D → Nat → Prop} {Q : List V → Hp → Prop} (G : GoalX K B W fl ast F H σ X R Q) (s : Step ast F H F1 H1) : GoalX K B W fl ast F1 H1 σ X R Q :=
  ⟨fun v F' H' d g s' fh st vv r => G.ok v F' H' d g (s.trans s') fh st (ValX.back s vv) r, fun x c F' H' g s' fh st q b => G.ex x c F' H' g (s.trans s') fh st q b⟩
theorem sndX_nil : PA X [] (TXm X.K B W [] (fun _ g _ Q => Q [] g)) :=
  PA.imp pa_nil fun σ H Q ⟨F, ast, ρ, g, XX, R, s, q, G⟩ => G.ok [] F H [] g (Step.refl _ _ _) s.fh s.st trivial q
theorem sndX_cons {b : Bool} {fl : List Bool} {wl : Ev → Nat → XR → (List D → Nat → Prop) → Prop} (he : PE X e (TDm X.K B W (if b = true then .fr else .st) we)) (hr : PA X es (TXm X.K B W fl wl)) (hs : starEach (e :: es) X.env = (false, eval e X.env) :: starEach es X.env) :
    PA X (e :: es) (TXm X.K B W (b :: fl) (fun ρ g XX R => we ρ g XX fun d g1 => wl ρ g1 XX fun ds g2 => R (d :: ds) g2)) :=
  PA.imp (pa_cons he hr hs) fun σ H Q ⟨F, ast, ρ, g, XX, R, s, q, G⟩ => by
    refine ⟨F, ast, ρ, g, XX, _, s, q, ⟨fun v F1 H1 d g1 s1 fh1 st1 vv q1 => ?_, G.ex⟩⟩
    have G1 := G.later s1
    refine ⟨F1, ast, ρ, g1, XX, _, s.step s1 fh1 st1, q1, ⟨fun vs F2 H2 ds g2 s2 fh2 st2 vvs q2 => ?_, G1.ex⟩⟩
    refine G.ok (v :: vs) F2 H2 (d :: ds) g2 (s1.trans s2) fh2 st2 ⟨?_, ValX.back s1 vvs⟩ q2
    cases b with
    | false =>
      rw [if_neg Bool.false_ne_true] at vv ⊢
      exact Rp.mono s2.same _ _ vv
    | true =>
      rw [if_pos rfl] at vv ⊢
      obtain ⟨a, ev, ha, na, o⟩ := vv
      refine ⟨a, ev, ha, na, o.step na s2, fun j e1 e2 => ?_⟩
      obtain ⟨a', ea, h1⟩ := vvs.new j _ e1 e2
      cases ea
      obtain ⟨ob, eo⟩ := o.there
      rw [h1] at eo
      cases eo
/-- no own name holds one of the new lists -/
def NewX (σ : L2.St) (ρ : Ev) (fl : List Bool) (vs : List V) : Prop := ∀ (j : Nat) a, fl[j]? = some true → vs[j]? = some (V.ref a) → ∀ (m : Nat) e, ρ[m]? = some (.ow e) → σ[m]? ≠ some (some (V.ref a))
theorem setAllX_ok {K : PySem.W.Frag} {mk : Bool} {Fb Fi Hi F H Hs : Hp} {a0 ast : Option Addr} {g : Nat} (hi : ∀ a, Hs a = none → Hi a = none) : ∀ (is : List Nat) (fl : List Bool) (vs : List V) (ds : List D) (σ : L2.St) (ρ ρ' : Ev), SR K B mk Fb Fi Hi a0 ast F H σ ρ g → ValX K ast Hs F H fl vs ds → NewX σ ρ fl vs → setAllX ρ is fl ds = some ρ' →
    vs.length = is.length ∧ SR K B mk Fb Fi Hi a0 ast F H ((is.zip vs).foldl (fun σ p => σ.set p.1 (some p.2)) σ) ρ' g
  | [], [], [], [], σ, ρ, ρ', s, v, n, e => by cases e; exact ⟨rfl, s⟩
  | i :: is, b :: bs, v :: vs, d :: ds, σ, ρ, ρ', s, h, n, e => by
    have h1 := h.1
    cases b with
    | false =>
      rw [if_neg Bool.false_ne_true] at h1
      have e' : setAllX (setD ρ i d) is bs ds = some ρ' := e
      have nw : NewX (σ.set i (some v)) (setD ρ i d) bs vs := fun j a f1 f2 m ee z => by
        unfold setD at z
        by_cases hm : i = m
        · subst hm
          by_cases hl : i < ρ.length
          · rw [List.getElem?_set_self hl] at z; cases z
          · rw [List.getElem?_eq_none (by rw [List.length_set]; omega)] at z; cases z
        · rw [List.getElem?_set_ne hm] at z ⊢
          exact n (j + 1) a (by simpa using f1) (by simpa using f2) m ee z
      obtain ⟨q1, q2⟩ := setAllX_ok hi is bs vs ds _ _ ρ' (s.setF h1) h.2 nw e'
      exact ⟨by rw [List.length_cons, List.length_cons, q1], q2⟩
    | true =>
      rw [if_pos rfl] at h1
      obtain ⟨a, ev, ha, na, o, nx⟩ := h1
      subst ev
      have e' : setAllX (ρ.set i (.ow d)) is bs ds = some ρ' := e
      have s2 := s.setO (i := i) na o (hi a ha) (n 0 a rfl rfl)
      have nw : NewX (σ.set i (some (.ref a))) (ρ.set i (.ow d)) bs vs := fun j a' f1 f2 m ee z => by
        by_cases hm : i = m
        · subst hm
          by_cases hl : i < σ.length
          · rw [List.getElem?_set_self hl]
            intro y
            cases y
            exact nx j f1 f2
          · rw [List.getElem?_eq_none (by rw [List.length_set]; omega)]
            exact fun y => nomatch y
        · rw [List.getElem?_set_ne hm] at z ⊢
          exact n (j + 1) a' (by simpa using f1) (by simpa using f2) m ee z
      obtain ⟨q1, q2⟩ := setAllX_ok hi is bs vs ds _ _ ρ' s2 h.2 nw e'
      exact ⟨by rw [List.length_cons, List.length_cons, q1], q2⟩
  | [], [], [], _ :: _, _, _, _, _, v, _, _ => v.elim
  | [], [], _ :: _, _, _, _, _, _, v, _, _ => v.elim
  | [], _ :: _, _, _, _, _, _, _, _, _, e => by cases e
  | _ :: _, [], _, _, _, _, _, _, _, _, e => by cases e
  | _ :: _, _ :: _, [], _, _, _, _, _, v, _, _ => v.elim
  | _ :: _, _ :: _, _ :: _, [], _, _, _, _, v, _, _ => v.elim
abbrev parXW (is : List Nat) (fl : List Bool) (wl : Ev → Nat → XR → (List D → Nat → Prop) → Prop) : SW := fun ρ g XX k => wl ρ g XX fun ds g1 => ∃ ρ', setAllX ρ is fl ds = some ρ' ∧ k.nx ρ' g1
theorem GoalS.exprX {K : PySem.W.Frag} {Fb Fi Hi F H : Hp} {a0 ast : Option Addr} {XX : XR} {k : Kt} {N : Ends} {σ : L2.St} {ρ : Ev} {g : Nat} (G : GoalS K B W mk Fb Fi Hi a0 XX k N) (s : SR K B mk Fb Fi Hi a0 ast F H σ ρ g) {fl : List Bool} {R : List D → Nat → Prop} {Q : List V → Hp → Prop} (ok : ∀ v F' H' d g', SR K B mk Fb Fi Hi a0 ast F' H' σ ρ g' → ValX K ast H F' H' fl v d → NewX σ ρ fl v → R d g' → Q v H') : GoalX K B W fl ast F H σ XX R Q :=
  ⟨fun v F' H' d g' t fh st vv r => ok v F' H' d g' (s.step t (s.c.step t fh st)) vv (fun j a f1 f2 m e z1 z2 => by
    obtain ⟨a', ea, ha⟩ := vv.new j _ f1 f2
    cases ea
    obtain ⟨x, q1, b, eb, nb, o⟩ := s.c.sl.at_ m _ z1
    rw [z2] at q1
    cases q1
    cases eb
    obtain ⟨ob, eo⟩ := o.there
    rw [ha] at eo
    cases eo) r, fun x c F' H' g' t fh st q b => G.ex x c F' H' ast σ g' (s.later (g' := g') t) fh st s.a q b⟩
theorem sndS_parX2 {i j : Nat} {fl : List Bool} {x y : Str} {px py pt pt2 : Pos} {kt k2} {wl : Ev → Nat → XR → (List D → Nat → Prop) → Prop} (hc : X.calm = true) (nd : X.N.Nodup) (hi : X.N[i]? = some x) (hj : X.N[j]? = some y) (hij : i ≠ j) (hx : X.env.scope.names.lookup x = some .local) (hy : X.env.scope.names.lookup y = some .local)
    (ha : PA X [a, b] (TXm X.K B W fl wl)) (hw : swappedStores [.Tuple [.Name x px, .Name y py] kt pt] (.Tuple [a, b] k2 pt2) X.env = pure (some [x, y])) :
    PS X (.Assign [.Tuple [.Name x px, .Name y py] kt pt] (.Tuple [a, b] k2 pt2) pos) (TSm X.K B W mk (parXW [i, j] fl wl)) :=
  PS.imp (ps_par hc nd hi hj hij hx hy ha hw) fun N σ H ⟨Fb, Fi, Hi, a0, ast, F, ρ, g, XX, k, s, q, G⟩ => ⟨F, ast, ρ, g, XX, _, s.c, q, G.exprX s fun vs F' H' ds g' s' vv nn q' => by
    obtain ⟨ρ', e, q'⟩ := q'
    obtain ⟨h1, h2⟩ := setAllX_ok (fun a h => s.was h) [i, j] fl vs ds σ ρ ρ' s' vv nn e
    match vs, h1, h2 with
    | [v, u], _, h2 => exact ⟨v, u, rfl, G.nx _ F' H' ast ρ' g' h2 q'⟩⟩
theorem sndS_parX3 {i j l : Nat} {fl : List Bool} {x y z : Str} {px py pz pt pt2 : Pos} {kt k2} {wl : Ev → Nat → XR → (List D → Nat → Prop) → Prop} (hc : X.calm = true) (nd : X.N.Nodup) (hi : X.N[i]? = some x) (hj : X.N[j]? = some y) (hl : X.N[l]? = some z) (hij : i ≠ j) (hil : i ≠ l) (hjl : j ≠ l)
    (hx : X.env.scope.names.lookup x = some .local) (hy : X.env.scope.names.lookup y = some .local) (hz : X.env.scope.names.lookup z = some .local)
    (ha : PA X [a, b, c] (TXm X.K B W fl wl)) (hw : swappedStores [.Tuple [.Name x px, .Name y py, .Name z pz] kt pt] (.Tuple [a, b, c] k2 pt2) X.env = pure (some [x, y, z])) :
    PS X (.Assign [.Tuple [.Name x px, .Name y py, .Name z pz] kt pt] (.Tuple [a, b, c] k2 pt2) pos) (TSm X.K B W mk (parXW [i, j, l] fl wl)) :=
  PS.imp (ps_par3 hc nd hi hj hl hij hil hjl hx hy hz ha hw) fun N σ H ⟨Fb, Fi, Hi, a0, ast, F, ρ, g, XX, k, s, q, G⟩ => ⟨F, ast, ρ, g, XX, _, s.c, q, G.exprX s fun vs F' H' ds g' s' vv nn q' => by
    obtain ⟨ρ', e, q'⟩ := q'
    obtain ⟨h1, h2⟩ := setAllX_ok (fun a h => s.was h) [i, j, l] fl vs ds σ ρ ρ' s' vv nn e
    match vs, h1, h2 with
    | [v, u, w], _, h2 => exact ⟨v, u, w, rfl, G.nx _ F' H' ast ρ' g' h2 q'⟩⟩
end
end Dz
set_option Elab.async false
set_option linter.all false
set_option maxRecDepth 100000
set_option maxHeartbeats 2000000
/-! Dz: a lambda, without a parameter or with one that has a default, handed to a def. -/
namespace Dz
open PySem PySem.Spec PyProof PyProof.Rows L2 LamX
def lamP0 : Arguments := { posonlyargs := [], args := [], vararg := none, kwonlyargs := [], kw_defaults := [], kwarg := none, defaults := [] }
def lamP1 (x : Str) (xp : Pos) (i : Int) (j : Nat) (cp : Pos) : Arguments := { posonlyargs := [], args := [{ arg := x, annotation := none, pos := xp }], vararg := none, kwonlyargs := [], kw_defaults := [], kwarg := none, defaults := [.Constant (.int i) j cp] }
/-- a lambda's parameters: none, or one with a whole number for its default -/
inductive LamPs : Arguments → Option Str → Prop
  | no : LamPs lamP0 none
  | one (x : Str) (xp : Pos) (i : Int) (j : Nat) (cp : Pos) (hx : x ∈ ([("a" : Str), ("b" : Str), ("c" : Str), ("d" : Str), ("e" : Str)] : List Str)) : LamPs (lamP1 x xp i j cp) (some x)
/-- the function object of a lambda, at f of a heap in which H tells of nothing at f and at its default's tuple -/
structure LamFn (h : Heap) (H : Hp) (fs : List Addr) (qual : Str) (params : Arguments) (p : Option Str) (body : Expr) (scope : Scope) (clos : List (Str × Addr)) (f c' : Addr) : Prop where
  ex : ∃ (dV doc pm ctv : Value), h.get? f = some (PySem.W.kdv_obj "<lambda>" qual params (.expr body) scope clos dV doc pm c' ctv) ∧ H f = none ∧ f ∉ fs ∧
    ((p = none ∧ dV = .none) ∨ ∃ (t : Addr) (i : Int) (tk : Tok), dV = .ref t ∧ h.get? t = some (PySem.W.kdv_tup [.int i tk]) ∧ H t = none ∧ t ∉ fs)
def lamBinds (p : Option Str) (v : Value) : List (Str × Value) := match p with
  | none => []
  | some x => [(x, v)]
theorem lam_bind {s : Shared} {params : Arguments} {p : Option Str} (P : LamPs params p) {qual : Str} {body : Expr} {scope : Scope} {cl : List (Str × Addr)} {dV doc pm cdv ct : Value}
    (hd : (p = none ∧ dV = .none) ∨ ∃ (t : Addr) (i : Int) (tk : Tok), dV = .ref t ∧ s.heap.get? t = some (PySem.W.kdv_tup [.int i tk])) :
    ∃ v, BindsTo s (PySem.W.kdv_fn "<lambda>" qual params (.expr body) scope cl dV doc pm cdv ct) ⟨[], []⟩ (lamBinds p v) := by
  cases P with
  | no =>
    rcases hd with ⟨_, e⟩ | ⟨t, i, tk, e, ht⟩
    · subst e
      exact ⟨.none, .of_eq rfl⟩
    · subst e
      exact ⟨.none, BindsTo.of_defaults rfl ht rfl rfl rfl⟩
  | one x xp i j cp hx =>
    rcases hd with ⟨e, _⟩ | ⟨t, i, tk, e, ht⟩
    · cases e
    · subst e
      refine ⟨.int i tk, ?_⟩
      simp only [List.mem_cons, List.not_mem_nil, or_false] at hx
      rcases hx with rfl | rfl | rfl | rfl | rfl <;> exact BindsTo.of_defaults rfl ht rfl rfl rfl
section
variable {X : Cx} {pins : List (Addr × Obj)} {σ : L2.St} {H : Hp} {s : Shared}
/-- what the making of a lambda leaves -/
structure LamMade (T : List (Addr × Str)) (H H1 : Hp) : Prop where
  ext : ExtN H H1
  tabs : Tabs T H1
  notb : ∀ b ps, H1 b = some (.tbl ps) → ∃ ps', H b = some (.tbl ps')
  dom : ∀ b, H b ≠ none → H1 b ≠ none
theorem lam_tail {T : List (Addr × Str)} {c P : Addr} {params : Arguments} {p : Option Str} {body : Expr} {scope : Scope} {pos : Pos} {dV : Value} {E : Value → Shared → Prop} {Q : Value → Shared → Prop} (I : Inv X pins σ H s) (TB : TabB X.base X.mg c P) (hcode : X.env.code = .ref c)
    (hm : (P, X.env.qual ++ "<lambda>") ∈ T) (hu : ∀ p ∈ T, p.1 = P → p.2 = X.env.qual ++ "<lambda>") (hT : Tabs T H) (hfree : ∀ y ∈ scope.names, y.2 = .free → ∃ c, X.env.cells.lookup y.1 = some c)
    (hdv : (p = none ∧ dV = .none) ∨ ∃ (t : Addr) (i : Int) (tk : Tok), dV = .ref t ∧ s.heap.get? t = some (PySem.W.kdv_tup [.int i tk]) ∧ H t = none ∧ t ∉ frs X.stack)
    (h : ∀ (f c' : Addr) (H1 : Hp) (s' : Shared), Inv X pins σ H1 s' → LamMade T H H1 → LamFn s'.heap H1 (frs X.stack) (X.env.qual ++ "<lambda>") params p body scope (cloFrom X.env.cells scope.names []) f c' → H1 c' = some (CodeO c' (X.env.qual ++ "<lambda>")) → Q (.ref f) s') :
    wpAny (model X.prog X.w) X.A (makeTail "<lambda>" (X.env.qual ++ "<lambda>") params (.expr body) scope X.env dV .none none pos pos.line) Q E s := by
  obtain ⟨ps, hP, ht, ha⟩ := hT _ hm
  have bP : s.heap.BuiltinsAt X.mg P := TB.bm.keeps I.bk
  have hP' : s.heap.get? P = some { cls := .none, data := .fields ps } := I.hok P _ hP
  have notFr : ∀ f, s.heap.objs.size ≤ f → f ∉ frs X.stack := fun f hf z => by
    rcases List.mem_cons.mp (I.stkSub _ z) with e | e
    · have h1 := I.lt
      rw [← e] at h1
      exact absurd (Nat.lt_of_lt_of_le h1 hf) (Nat.lt_irrefl _)
    · exact I.nofs hf e
  cases hc : codeAmong pos ps.toList with
  | none =>
    refine PySem.W.kdv_makeTail (mg := X.mg) (c := c) (P := P) (ps := ps) (closure_ok hfree) I.ok.glob (I.mod.glob.keeps I.bk) hcode (TB.code.keeps I.bk) hP' ht hc TB.gP bP fun c' ctv doc h' tk hx hge hlt hrec htb => ?_
    obtain ⟨c2, oc, vs, t, e2, hoc, hd, hv⟩ := hrec
    cases e2
    have hsz : s.heap.objs.size ≤ h'.objs.size := Nat.le_trans hge (Nat.le_of_lt hlt)
    have nC : H c' = none := I.hok.fresh hge
    have J := LamX.inv_table (t' := tk) (more := #[rawInt pos.line, rawInt pos.col, .ref c']) (h' := h'.push (PySem.W.kdv_obj "<lambda>" (X.env.qual ++ "<lambda>") params (.expr body) scope (cloFrom X.env.cells scope.names []) dV doc ((X.mg "__name__").getD .none) c' ctv)) I hP
      (fun b o hb e => Heap.get?_push_of_some _ (hx b o hb e)) (Heap.get?_push_of_some _ htb) hge ⟨oc, vs, t, Heap.get?_push_of_some _ hoc, hd, hv⟩
    have hE : ExtN H (upd (upd H P (.tbl (ps ++ #[rawInt pos.line, rawInt pos.col, .ref c']))) c' (CodeO c' (X.env.qual ++ "<lambda>"))) := fun b o e n => by
      rw [upd_ne (ne_of_none e nC), upd_ne (fun z => n ps (Option.some.inj (e.symm.trans (by rw [z]; exact hP))))]
      exact e
    have eL : (ps ++ #[rawInt pos.line, rawInt pos.col, .ref c']).toList = ps.toList ++ [rawInt pos.line, rawInt pos.col, .ref c'] := by simp
    have keep' : ∀ b, b ≠ P → s.heap.objs.size > b → ∀ o, s.heap.get? b = some o → (h'.push (PySem.W.kdv_obj "<lambda>" (X.env.qual ++ "<lambda>") params (.expr body) scope (cloFrom X.env.cells scope.names []) dV doc ((X.mg "__name__").getD .none) c' ctv)).get? b = some o := fun b nb _ o e => Heap.get?_push_of_some _ (hx b o nb e)
    have nUp : ∀ b, b ≠ P → b ≠ c' → upd (upd H P (.tbl (ps ++ #[rawInt pos.line, rawInt pos.col, .ref c']))) c' (CodeO c' (X.env.qual ++ "<lambda>")) b = H b := fun b h1 h2 => by rw [upd_ne h2, upd_ne h1]
    refine h h'.objs.size c' _ _ J ⟨hE, fun p hp => ?_, fun b qs e => ?_, fun b hb => ?_⟩ ⟨dV, doc, (X.mg "__name__").getD .none, ctv, Heap.get?_push_size _ rfl, ?_, notFr _ hsz, ?_⟩ upd_same
    · by_cases hb : p.1 = P
      · rw [hu p hp hb, hb]
        refine ⟨_, by rw [upd_ne (ne_of_none hP nC), upd_same], by rw [eL]; exact PySem.TriplesOk_snoc _ _ _ _ ht, fun p' cv hcv => ?_⟩
        rw [eL] at hcv
        rcases LamX.among_app _ ht hcv with z | z
        · obtain ⟨c0, e1, e2⟩ := ha p' cv z
          exact ⟨c0, e1, hE _ _ e2 LamX.codeO_ne⟩
        · exact ⟨c', z, upd_same⟩
      · obtain ⟨ps', a1, a2, a3⟩ := hT p hp
        refine ⟨ps', by rw [upd_ne (ne_of_none a1 nC), upd_ne hb]; exact a1, a2, fun p' cv hcv => ?_⟩
        obtain ⟨c0, e1, e2⟩ := a3 p' cv hcv
        exact ⟨c0, e1, hE _ _ e2 LamX.codeO_ne⟩
    · by_cases h1 : b = c'
      · rw [h1, upd_same] at e
        exact absurd (Option.some.inj e) (LamX.codeO_ne qs)
      · by_cases h2 : b = P
        · exact ⟨ps, by rw [h2]; exact hP⟩
        · rw [nUp b h2 h1] at e
          exact ⟨qs, e⟩
    · by_cases h1 : b = c'
      · rw [h1, upd_same]; exact fun z => nomatch z
      · by_cases h2 : b = P
        · rw [h2, upd_ne (ne_of_none hP nC), upd_same]; exact fun z => nomatch z
        · rw [nUp b h2 h1]; exact hb
    · have n1 : h'.objs.size ≠ c' := Nat.ne_of_gt hlt
      have n2 : h'.objs.size ≠ P := Nat.ne_of_gt (Nat.lt_of_lt_of_le (Heap.lt_size hP') hsz)
      rw [nUp _ n2 n1]
      exact I.hok.fresh hsz
    · rcases hdv with hdv | ⟨t, i, tk, e1, e2, e3, e4⟩
      · exact .inl hdv
      · have tP : t ≠ P := fun z => by rw [z, hP'] at e2; cases e2
        have tc : t ≠ c' := fun z => by
          have := Heap.lt_size e2
          rw [z] at this
          exact absurd (Nat.lt_of_lt_of_le this hge) (Nat.lt_irrefl _)
        exact .inr ⟨t, i, tk, e1, keep' t tP (Heap.lt_size e2) _ e2, by rw [nUp t tP tc]; exact e3, e4⟩
  | some cv =>
    obtain ⟨c', e, hco⟩ := ha pos cv hc
    subst e
    refine PySem.W.kdv_makeTailHit (mg := X.mg) (c := c) (P := P) (ps := ps) (closure_ok hfree) I.ok.glob (I.mod.glob.keeps I.bk) hcode (TB.code.keeps I.bk) hP' ht hc bP fun ctv doc h' tk hx hsz => ?_
    have J : Inv X pins σ H { s with heap := h'.push (PySem.W.kdv_obj "<lambda>" (X.env.qual ++ "<lambda>") params (.expr body) scope (cloFrom X.env.cells scope.names []) dV doc ((X.mg "__name__").getD .none) c' ctv), toks := tk } := I.kept fun b o e => Heap.get?_push_of_some _ (hx b o e)
    refine h h'.objs.size c' H _ J ⟨ExtN.refl H, hT, fun b qs e => ⟨qs, e⟩, fun _ hb => hb⟩ ⟨dV, doc, (X.mg "__name__").getD .none, ctv, Heap.get?_push_size _ rfl, I.hok.fresh hsz, notFr _ hsz, ?_⟩ hco
    rcases hdv with hdv | ⟨t, i, tk, e1, e2, e3, e4⟩
    · exact .inl hdv
    · exact .inr ⟨t, i, tk, e1, Heap.get?_push_of_some _ (hx _ _ e2), e3, e4⟩
theorem lam_makeD {T : List (Addr × Str)} {c P : Addr} {params : Arguments} {p : Option Str} {body : Expr} {scope : Scope} {pos : Pos} {Q : Value → Shared → Prop} (LP : LamPs params p) (I : Inv X pins σ H s) (TB : TabB X.base X.mg c P) (hcode : X.env.code = .ref c)
    (hm : (P, X.env.qual ++ "<lambda>") ∈ T) (hu : ∀ p ∈ T, p.1 = P → p.2 = X.env.qual ++ "<lambda>") (hT : Tabs T H) (hfree : ∀ y ∈ scope.names, y.2 = .free → ∃ c, X.env.cells.lookup y.1 = some c)
    (h : ∀ (f c' : Addr) (H1 : Hp) (s' : Shared), Inv X pins σ H1 s' → LamMade T H H1 → LamFn s'.heap H1 (frs X.stack) (X.env.qual ++ "<lambda>") params p body scope (cloFrom X.env.cells scope.names []) f c' → H1 c' = some (CodeO c' (X.env.qual ++ "<lambda>")) → Q (.ref f) s') :
    wpAny (model X.prog X.w) X.A (eval (.Lambda params body scope pos) X.env) Q X.xe s := by
  have notFr : ∀ {s : Shared} (_ : Inv X pins σ H s) f, s.heap.objs.size ≤ f → f ∉ frs X.stack := fun {s} I f hf z => by
    rcases List.mem_cons.mp (I.stkSub _ z) with e | e
    · have h1 := I.lt
      rw [← e] at h1
      exact absurd (Nat.lt_of_lt_of_le h1 hf) (Nat.lt_irrefl _)
    · exact I.nofs hf e
  cases LP with
  | no =>
    refine PySem.W.kla_eval rfl ?_
    rw [makeFunction_eq]
    simp only [List.zip_nil_right, List.filterMap_nil, List.isEmpty_nil, if_true, pure_bind]
    exact lam_tail I TB hcode hm hu hT hfree (.inl ⟨rfl, rfl⟩) h
  | one x xp i j cp hx =>
    refine PySem.W.kdv_lam rfl rfl ?_
    refine PySem.W.kdv_all1 (wpAny_Constant_int ?_)
    refine PySem.W.kdv_all0 ?_
    rw [makeFunction_eq]
    simp only [List.zip_nil_right, List.filterMap_nil, List.isEmpty_nil, if_true, pure_bind, List.isEmpty_cons, Bool.false_eq_true, if_false]
    have I1 := I.tok (s.toks + 1)
    refine wpAny_bind (wpAny_newTextTuple ?_)
    have J : Inv X pins σ H { s with heap := s.heap.push (PySem.W.kdv_tup [.int i s.toks]), toks := s.toks + 1 } := I1.kept fun b o e => Heap.get?_push_of_some _ e
    exact lam_tail J TB hcode hm hu hT hfree (.inr ⟨_, i, s.toks, rfl, Heap.get?_push_size _ rfl, I.hok.fresh (Nat.le_refl _), notFr I _ (Nat.le_refl _)⟩) h
end
end Dz
set_option Elab.async false
set_option linter.all false
set_option maxRecDepth 100000
set_option maxHeartbeats 2000000
/-! Dz: a list comprehension over range(n) where an exception is handled. -/
namespace Dz
open PySem PySem.Spec PyProof PyProof.Rows L2 L2H HotX
section
variable {X : Cx}
/-- [elt for tg in range(n) if ..] with a handled exception: W by the turn, Nx what a turn is to reach -/
def tLcZ (n : Nat) (g : TG) (tt : TT) (te : TE) (vs : List Nat) : TE := fun σ H Q => ∀ D, H D = none → ∃ W : Nat → Hp → Prop, W 0 (upd H D (.lst [])) ∧ (∀ H', W n H' → Q (.ref D) H') ∧
  ∀ i H', i < n → W i H' → g (.int (0 + (i : Int))) (wipe σ vs) H' fun σ2 H2 => wipe σ2 vs = wipe σ vs ∧ tt σ2 H2 fun b H3 => if b = true then te σ2 H3 fun y H4 => ∃ acc, H4 D = some (.lst acc) ∧ acc.length < sizeLine ∧ W (i + 1) (upd H4 D (.lst (acc ++ [y]))) else W (i + 1) H3
theorem lcz_core {pins : List (Addr × Obj)} {s : Shared} {σ : L2.St} {H : Hp} {Q : VK} {elt tg : Expr} {ifs : List Expr} {scope : Scope} {own : List (Str × Nat)} {pos rp np cp pos' : Pos} {n : Nat} {j : Nat} {g : TG} {tt : TT} {te : TE} {use : Option (Value → Sem Unit)} {Qf : Value → Shared → Prop} (hot : HotC X) (hN : X.N.Nodup) (hg' : Gl X "range") (hm : X.mg "range" = none) (hn : n < 1000) (ok : BlkOk X.N X.env.scope scope own) (I : Inv X pins σ H s)
    (hg : ∀ (s : Shared) (H : Hp) (C : Addr) (cl : List (Str × Addr)) (fp : List Addr), PG (X.blk s H scope (compEnvC scope cl C X.env) fp) tg g) (ht : ∀ (s : Shared) (H : Hp) (C : Addr) (cl : List (Str × Addr)) (fp : List Addr), PTs (X.blk s H scope (compEnvC scope cl C X.env) fp) ifs tt)
    (he : ∀ (s : Shared) (H : Hp) (C : Addr) (cl : List (Str × Addr)) (fp : List Addr), PE (X.blk s H scope (compEnvC scope cl C X.env) fp) elt te) (h : tLcZ n g tt te (own.map (·.2)) σ H Q)
    (post : ∀ D C s' m H', Inv X pins σ H' s' → Q (.ref D) H' → s'.heap.Ns C m → FpOk X pins H' C → compPost (model X.prog X.w) X.A X.xe use Qf (.ref D) C (.ok .next) s') :
    wpAny (model X.prog X.w) X.A (comprehension (.ListComp elt [⟨tg, .Call (.Name "range" rp) [.Constant (.int (n : Int)) j np] [] cp, ifs, 0⟩] scope pos) scope X.env pos' (newList []) false (eval (.Call (.Name "range" rp) [.Constant (.int (n : Int)) j np] [] cp) X.env) use) Qf X.xe s := by
  have closed : ∀ y ∈ scope.names, y.2 = .free → ∃ c, X.env.cells.lookup y.1 = some c := fun y hy e => by
    rcases ok.free y hy e with k | k
    · exact I.ok.has _ (.inl k)
    · exact I.ok.has _ (.inr k)
  obtain ⟨⟨xa, xo⟩, hot1, hpn⟩ := hot
  obtain ⟨hh, xvs, xd, x2⟩ := hot1
  refine wpAny_comprehension_free (use := use) rfl (fun _ => rfl) (closure_ok closed) ok.kind (fun y hy e => by rw [ok.uniq y hy, e]) ?_
  -- range(n)
  refine Call_ (ld_blt I hg' hm boot_range (PyProof.Rows.callWith_type1 (thn ((pa_cons (pe_int (X := X) (i := (n : Int)) (j := j) (pos := np)) pa_nil).run cp pins s σ H (fun vs H1 => vs = [.int (n : Int)] ∧ H1 = H) I ⟨rfl, rfl⟩) fun us s1 ⟨vs, H1, I1, r1, ev, eH⟩ => ?_) rfl rfl))
  subst ev eH
  cases r1 with
  | cons r rr =>
  cases rr
  obtain ⟨t, rfl⟩ := r
  refine call_range_1 ?_
  refine wpAny_pyIter_range (IsRange.new ..) (small_one (by omega) (by omega) (by omega) (by omega)) ?_
  generalize ho1 : s1.heap.push { cls := .type "range", data := .fields #[.int 0 s1.toks, .int (n : Int) t, .int 1 (s1.toks + 1)] } = hp1
  have k1 : ∀ b o, s1.heap.get? b = some o → hp1.get? b = some o := fun b o e => by rw [← ho1]; exact Heap.get?_push_of_some _ e
  have I2 : Inv X pins σ H1 { s1 with heap := hp1, toks := s1.toks + 1 + 1 } := I1.kept fun b o e => k1 b o e
  obtain ⟨it, eit⟩ : ∃ it, hp1.objs.size = it := ⟨_, rfl⟩
  have nIt : H1 it = none := I2.hok.fresh (Nat.le_of_eq eit)
  have fIt : FpOk X pins H1 it := I2.fpOk (Nat.le_of_eq eit) nIt
  generalize ho2 : hp1.push { cls := .type "range_iterator", data := .fields #[rawInt 0, rawInt (Builtin.Range.rangeSize 0 (n : Int) 1), rawInt 1] } = hp2
  have k2 : ∀ b o, hp1.get? b = some o → hp2.get? b = some o := fun b o e => by rw [← ho2]; exact Heap.get?_push_of_some _ e
  have hIt : IsRangeIter hp2 it (0 + ((0 : Nat) : Int) * 1) ((n : Int) - ((0 : Nat) : Int)) 1 := by
    have e1 : (n : Int) - ((0 : Nat) : Int) = Builtin.Range.rangeSize 0 (n : Int) 1 := by rw [rangeSize_one]; split <;> omega
    rw [e1, ← ho2, ← eit]
    exact Heap.get?_push_size _ rfl
  have I3 : Inv X pins σ H1 { s1 with heap := hp2, toks := s1.toks + 1 + 1 } := I2.kept fun b o e => k2 b o e
  generalize hs2 : ({ s1 with heap := hp2, toks := s1.toks + 1 + 1 } : Shared) = s2 at I3 ⊢
  have hIt2 : IsRangeIter s2.heap it (0 + ((0 : Nat) : Int) * 1) ((n : Int) - ((0 : Nat) : Int)) 1 := by rw [← hs2]; exact hIt
  rw [eit]
  -- the new list, the block
  refine wpAny_newObj_type (newEnv_comp ?_) (by show 0 ≤ sizeLine; decide)
  obtain ⟨D, eD⟩ : ∃ D, s2.heap.objs.size = D := ⟨_, rfl⟩
  have nD : H1 D = none := I3.hok.fresh (Nat.le_of_eq eD)
  obtain ⟨W, w0, wEnd, turn⟩ := h D nD
  have itD : it ≠ D := fun z => by
    have q := Heap.lt_size hIt2
    rw [eD, z] at q
    exact absurd q (Nat.lt_irrefl _)
  rw [eD]
  generalize hs3 : ({ s2 with heap := s2.heap.push { cls := .type "list", data := .seq ([] : List Value).toArray } } : Shared) = s3
  have I4 : Inv X pins σ (upd H1 D (.lst [])) s3 := by
    rw [← hs3]
    refine I3.laid (t' := s2.toks) (fun b o e => Heap.get?_push_of_some _ e) (Nat.le_of_eq eD) ⟨Nat.zero_le _, [], 0, .nil, ?_⟩
    rw [← eD]
    exact Heap.get?_push_size _ rfl
  have h3 : s3.heap = s2.heap.push { cls := .type "list", data := .seq ([] : List Value).toArray } := by rw [← hs3]
  have k3 : ∀ b o, s2.heap.get? b = some o → s3.heap.get? b = some o := fun b o e => by rw [h3]; exact Heap.get?_push_of_some _ e
  have hIt3 := k3 _ _ hIt2
  have f3 : ∀ b ∈ [it], FpOk X pins (upd H1 D (.lst [])) b ∧ b < s3.heap.objs.size := fun b hb => by
    have eb : b = it := by simpa using hb
    rw [eb]
    exact ⟨⟨by rw [upd_ne itD]; exact nIt, fIt.2⟩, Heap.lt_size hIt3⟩
  have I5 := block_start I4 ok hN f3
  have pg := hg s3 (upd H1 D (.lst [])) s3.heap.objs.size (cellsFrom (s3.heap.objs.size + 1) scope.names (cloFrom X.env.cells scope.names [])) [it]
  have pt := ht s3 (upd H1 D (.lst [])) s3.heap.objs.size (cellsFrom (s3.heap.objs.size + 1) scope.names (cloFrom X.env.cells scope.names [])) [it]
  have pe := he s3 (upd H1 D (.lst [])) s3.heap.objs.size (cellsFrom (s3.heap.objs.size + 1) scope.names (cloFrom X.env.cells scope.names [])) [it]
  obtain ⟨hx1, hx2, hx3⟩ := (I4.pin (xa, xo) (List.mem_append.mpr (.inl hpn)))
  show codeAny _ _ (.compStart (.ListComp elt [⟨tg, .Call (.Name "range" rp) [.Constant (.int (n : Int)) j np] [] cp, ifs, 0⟩] scope pos) 0 (.ref it) (.ref D) (compEnvC scope (cellsFrom (s3.heap.objs.size + 1) scope.names (cloFrom X.env.cells scope.names [])) s3.heap.objs.size X.env)) (compPost (model X.prog X.w) X.A X.xe use Qf (.ref D) s3.heap.objs.size) { s3 with heap := pushCells (s3.heap.push { cls := .type "dict", data := .dict #[] }) scope.names }
  generalize hce : compEnvC scope (cellsFrom (s3.heap.objs.size + 1) scope.names (cloFrom X.env.cells scope.names [])) s3.heap.objs.size X.env = ce at I5 pg pt pe ⊢
  have cL : ce.locals = s3.heap.objs.size := by subst hce; rfl
  generalize hH3 : upd H1 D (.lst []) = H3 at I4 I5 pg pt pe w0 f3 hx2
  have nIt3 : H3 it = none := (f3 it (by simp)).1.1
  generalize hs4 : ({ s3 with heap := pushCells (s3.heap.push { cls := .type "dict", data := .dict #[] }) scope.names } : Shared) = s4 at I5 ⊢
  have hIt4 : IsRangeIter s4.heap it (0 + ((0 : Nat) : Int) * 1) ((n : Int) - ((0 : Nat) : Int)) 1 := by rw [← hs4]; exact pushCells_keeps _ _ _ _ (Heap.get?_push_of_some _ hIt3)
  have fpB : ∀ {σ' : L2.St} {H' : Hp} {s' : Shared}, Inv (X.blk s3 H3 scope ce [it]) [] σ' H' s' → H' it = none → FpOk (X.blk s3 H3 scope ce [it]) [] H' it := fun {σ' H' s'} I' hn =>
    ⟨hn, (I'.ok.exf it (by simp)).1, I'.ok.exfs it (by simp), .inl (by simp), fun x c e => (I'.ok.exf it (by simp)).2 x c e, fun p hp => absurd (show p ∈ ([] : List (Addr × Obj)) ++ [] from hp) (by simp)⟩
  have loop : codeAny (model X.prog X.w) X.A (.compLoop (.ListComp elt [⟨tg, .Call (.Name "range" rp) [.Constant (.int (n : Int)) j np] [] cp, ifs, 0⟩] scope pos) 0 (.ref it) (.ref D) ce) (compPost (model X.prog X.w) X.A X.xe use Qf (.ref D) s3.heap.objs.size) s4 := by
    refine compLoop_any (fun m s' => ∃ i H', m + i = n ∧ Inv (X.blk s3 H3 scope ce [it]) [] (wipe σ (own.map (·.2))) H' s' ∧ IsRangeIter s'.heap it (0 + (i : Int) * 1) ((n : Int) - (i : Int)) 1 ∧ H' it = none ∧ W i H') ?_ n ⟨0, H3, by omega, I5, hIt4, nIt3, w0⟩
    rintro m s5 ⟨i, H5, hmi, J5, st5, n5, w5⟩
    have F5 := fpB J5 n5
    obtain ⟨f0, f1, f2, f3', f4, f5⟩ := F5
    by_cases hlt : i < n
    · refine wpAny_pyNext_range_item st5 (by omega) fun h' st' sb => ?_
      have stN : IsRangeIter h' it (0 + ((i + 1 : Nat) : Int) * 1) ((n : Int) - ((i + 1 : Nat) : Int)) 1 := by
        rw [show (0 : Int) + ((i + 1 : Nat) : Int) * 1 = 0 + (i : Int) * 1 + 1 by omega, show (n : Int) - ((i + 1 : Nat) : Int) = (n : Int) - (i : Int) - 1 by omega]
        exact st'
      have J6 : Inv (X.blk s3 H3 scope ce [it]) [] (wipe σ (own.map (·.2))) H5 { s5 with heap := h', toks := s5.toks + 1 } := J5.turned (fun b o hb e => (sb.2 b hb).trans e) f0 f1 f3' f4 f5
      refine go_of (s := { s5 with heap := h', toks := s5.toks + 1 }) (n := "range_iterator") stN rfl rfl (by decide) ?_
      have objIt : ∀ b ∈ [it], ∃ o, ({ s5 with heap := h', toks := s5.toks + 1 } : Shared).heap.get? b = some o ∧ ∀ v, o.data ≠ .cell v := fun b hb => by
        have eb : b = it := by simpa using hb
        rw [eb]; exact ⟨_, stN, fun v z => by cases (show Data.fields _ = Data.cell v from z)⟩
      have J6p := J6.pinned (fp := [it]) (fun b hb => by
        have eb : b = it := by simpa using hb
        rw [eb]; exact fpB J6 n5) objIt
      have rv : RelV (V.int (0 + (i : Int))) (Value.int (0 + (i : Int) * 1) s5.toks) := ⟨s5.toks, by rw [Int.mul_one]⟩
      refine thnF (pg.run _ _ _ H5 _ _ _ J6p rv (turn i H5 hlt w5)) fun _ s8 ⟨σ8, H8, J8, hw8, q8⟩ => ?_
      refine thnF (pt.run _ s8 σ8 H8 _ J8 q8) fun b s9 ⟨H9, J9, q9⟩ => ?_
      have fin : ∀ {s' : Shared} {H' : Hp}, Inv (X.blk s3 H3 scope ce [it]) ([] ++ pinsAt [it] h') σ8 H' s' → W (i + 1) H' → ∃ m', m' < m ∧ ∃ i H', m' + i = n ∧ Inv (X.blk s3 H3 scope ce [it]) [] (wipe σ (own.map (·.2))) H' s' ∧ IsRangeIter s'.heap it (0 + (i : Int) * 1) ((n : Int) - (i : Int)) 1 ∧ H' it = none ∧ W i H' := fun {s' H'} I' w' => by
        obtain ⟨o, eo, _⟩ := objIt it (by simp)
        have pin := I'.pin (it, o) (List.mem_append_right _ (List.mem_append_right _ (mem_pinsAt (by simp) eo)))
        have hl : (wipe σ (own.map (·.2))).length = σ8.length := by rw [← hw8, wipe_length]
        refine ⟨m - 1, by omega, i + 1, H', by omega, (I'.unpinned (pins := [])).weak hl (fun j v e => ?_), ?_, pin.2.1, w'⟩
        · rw [← hw8] at e
          exact (wipe_some e).1
        · have e1 : s'.heap.get? it = some o := pin.1
          have e2 : h'.get? it = some o := eo
          rw [stN] at e2
          cases e2
          exact e1
      cases b with
      | false =>
        simp only [Bool.false_eq_true, if_false] at q9 ⊢
        exact fin J9 q9
      | true =>
        simp only [if_true] at q9 ⊢
        refine thnF (pe.run _ s9 σ8 H9 _ J9 q9) fun z s10 ⟨yv, H10, J10, r10, acc, hD10, hz10, w10⟩ => ?_
        exact app_ok (X := X.blk s3 H3 scope ce [it]) J10 hD10 hz10 r10 fun s11 J11 => fin J11 w10
    · have ei : i = n := by omega
      subst ei
      have nit : xa ≠ it := fun z => by
        have e : s3.heap.get? xa = some xo := hx1
        rw [z, show s3.heap.get? it = _ from hIt3] at e
        cases e
        cases (show Data.fields _ = Data.fields xvs from xd)
        cases x2
      have get5 : s5.heap.get? xa = some xo := J5.base.keep xa xo hx1 hx2 (fun z => by
        rcases List.mem_cons.mp (I4.stkSub _ z) with e | e
        · exact hx3.1 e
        · exact hx3.2.1 e) (fun z => nit (by simpa using z))
      have ha5 : HotAt X.A xa s5.heap := ⟨hh, xo, xvs, get5, xd, x2⟩
      refine pyNext_range_end_hot ha5 st5 (by omega) fun h' eb => ?_
      have J6 : Inv (X.blk s3 H3 scope ce [it]) [] (wipe σ (own.map (·.2))) H5 { s5 with heap := h' } := J5.turned (t' := s5.toks) (fun b o _ e => eb b o e) f0 f1 f3' f4 f5
      have I7 : Inv X pins σ H5 { s5 with heap := h' } := I4.call' (ch := [it]) J6.os J6.base J6.hok J6.bare fun b hb => ⟨(f3 b hb).1.2.2.2.1, (f3 b hb).1.2.1, (f3 b hb).1.2.2.2.2.1, (f3 b hb).1.2.2.2.2.2⟩
      have nC : H5 s3.heap.objs.size = none := by
        have z : H5 ce.locals = none := J6.free
        rw [cL] at z
        exact z
      obtain ⟨m', hn', _⟩ := J6.loc
      have hn' : h'.Ns ce.locals m' := hn'
      rw [cL] at hn'
      exact post D s3.heap.objs.size _ m' H5 I7 (wEnd H5 w5) hn' (I4.fpOk (Nat.le_refl _) nC)
  exact codeAny_compStart_list loop (wpAny_pyIter_rangeiter hIt4 loop)
theorem pe_lcZ {elt tg : Expr} {ifs : List Expr} {scope : Scope} {own : List (Str × Nat)} {pos rp np cp : Pos} {n : Nat} {j : Nat} {g : TG} {tt : TT} {te : TE} (hot : HotC X) (hN : X.N.Nodup) (hg' : Gl X "range") (hm : X.mg "range" = none) (hn : n < 1000) (ok : BlkOk X.N X.env.scope scope own)
    (hg : ∀ (s : Shared) (H : Hp) (C : Addr) (cl : List (Str × Addr)) (fp : List Addr), PG (X.blk s H scope (compEnvC scope cl C X.env) fp) tg g) (ht : ∀ (s : Shared) (H : Hp) (C : Addr) (cl : List (Str × Addr)) (fp : List Addr), PTs (X.blk s H scope (compEnvC scope cl C X.env) fp) ifs tt)
    (he : ∀ (s : Shared) (H : Hp) (C : Addr) (cl : List (Str × Addr)) (fp : List Addr), PE (X.blk s H scope (compEnvC scope cl C X.env) fp) elt te) :
    PE X (.ListComp elt [⟨tg, .Call (.Name "range" rp) [.Constant (.int (n : Int)) j np] [] cp, ifs, 0⟩] scope pos) (tLcZ n g tt te (own.map (·.2))) := by
  refine ⟨fun pins s σ H Q I h => ?_⟩
  rw [eval_ListComp]
  refine lcz_core hot hN hg' hm hn ok I hg ht he h fun D C s' m H' I' q hn' fo => ⟨m, hn', fun h'' sb => ?_⟩
  obtain ⟨g0, g1, g2, g3, g4, g5⟩ := fo
  exact ⟨.ref D, H', I'.turned (t' := s'.toks) (fun b o hb e => (sb.2 b hb).trans e) g0 g1 g3 g4 g5, rfl, q⟩
/-- name = [..] on one line, the name a local -/
theorem ps_setLcZ {i : Nat} {y : Str} {py : Pos} {elt tg : Expr} {ifs : List Expr} {scope : Scope} {own : List (Str × Nat)} {pos rp np cp spos : Pos} {n : Nat} {j : Nat} {g : TG} {tt : TT} {te : TE} (hot : HotC X) (hN : X.N.Nodup) (hg' : Gl X "range") (hm : X.mg "range" = none) (hn : n < 1000) (ok : BlkOk X.N X.env.scope scope own)
    (hy : X.N[i]? = some y) (hyl : X.env.scope.names.lookup y = some .local) (hsw : swapsWith (.ListComp elt [⟨tg, .Call (.Name "range" rp) [.Constant (.int (n : Int)) j np] [] cp, ifs, 0⟩] scope pos) (some (.Name y py)) spos.line X.env = pure true)
    (hg : ∀ (s : Shared) (H : Hp) (C : Addr) (cl : List (Str × Addr)) (fp : List Addr), PG (X.blk s H scope (compEnvC scope cl C X.env) fp) tg g) (ht : ∀ (s : Shared) (H : Hp) (C : Addr) (cl : List (Str × Addr)) (fp : List Addr), PTs (X.blk s H scope (compEnvC scope cl C X.env) fp) ifs tt)
    (he : ∀ (s : Shared) (H : Hp) (C : Addr) (cl : List (Str × Addr)) (fp : List Addr), PE (X.blk s H scope (compEnvC scope cl C X.env) fp) elt te) :
    PS X (.Assign [.Name y py] (.ListComp elt [⟨tg, .Call (.Name "range" rp) [.Constant (.int (n : Int)) j np] [] cp, ifs, 0⟩] scope pos) spos) (tAsg (tLcZ n g tt te (own.map (·.2))) (gName i)) := by
  refine ⟨fun pins s σ H N I h => ?_⟩
  rw [exec_Assign_Name_used _ _ _ _ hsw]
  refine wpAny_bind (wpAny_standAt (wpAny_bind ?_))
  have h : tLcZ n g tt te (own.map (·.2)) σ H (fun x H1 => gName i x σ H1 N.nx) := h
  refine wpAny_bind (thn (lcz_core (use := some (assign (.Name y py) X.env)) (Qf := fun _ s' => SP X pins N .next s') (pos' := firstIterPos [⟨tg, .Call (.Name "range" rp) [.Constant (.int (n : Int)) j np] [] cp, ifs, 0⟩] pos) hot hN hg' hm hn ok I hg ht he h fun L C s' m H' I' q hn' fo => ?_) fun _ s' hq => wpAny_pure (wpAny_pure hq))
  show wpAny _ _ (assign (.Name y py) X.env (.ref L)) _ _ _
  refine wpAny_assign_Name (store_ok2 (v := V.ref L) I' hN hy (.inl hyl) rfl (fun s2 I2 ⟨a, sb, ha⟩ => ?_) (.inr hyl))
  obtain ⟨g0, g1, g2, g3, g4, g5⟩ := fo
  have ne : C ≠ a := by
    rcases ha with z | z
    · rw [z]; exact g1
    · exact fun e => g4 y a z e.symm
  exact ⟨m, hn'.sameBut sb ne, fun h3 sb3 => ⟨_, H', I2.turned (t' := s2.toks) (fun b o hb e => (sb3.2 b hb).trans e) g0 g1 g3 g4 g5, q⟩⟩
end
end Dz
set_option Elab.async false
set_option linter.all false
set_option maxRecDepth 100000
set_option maxHeartbeats 2000000
/-! Dz: what a law is told of a call (_law_told): its body. -/
namespace Dz
open PySem PySem.Spec PyProof PyProof.Rows L2 L2H HotX
def toldSc : Scope := { kind := .function, names := [(PySem.Str.ofString "call", .local), (PySem.Str.ofString "e", .local), (PySem.Str.ofString "kinds", .cell), (PySem.Str.ofString "names", .local), (PySem.Str.ofString "AddError", .globalImplicit), (PySem.Str.ofString "isinstance", .globalImplicit), (PySem.Str.ofString "NotAllowed", .globalImplicit), (PySem.Str.ofString "TooLarge", .globalImplicit), (PySem.Str.ofString "Missing", .globalImplicit), (PySem.Str.ofString "BadForm", .globalImplicit), (PySem.Str.ofString "Broken", .globalImplicit), (PySem.Str.ofString "range", .globalImplicit), (PySem.Str.ofString "int", .globalImplicit), (PySem.Str.ofString "len", .globalImplicit)], isGenerator := false, isCoroutine := false, more := [(PySem.Str.ofString "fast", .str "call"), (PySem.Str.ofString "fast", .str "e"), (PySem.Str.ofString "fast", .str "kinds"), (PySem.Str.ofString "fast", .str "k"), (PySem.Str.ofString "fast", .str "names")] }
def toldN : List Str := ["call", "e", "kinds", "names", "k"]
theorem toldScope : FnScope toldN ["call"] toldSc := ⟨rfl, rfl, rfl, by decide +kernel, rfl, by decide +kernel, by decide +kernel⟩
def compSc : Scope := { kind := .function, names := [(PySem.Str.ofString ".0", .local), (PySem.Str.ofString "k", .local), (PySem.Str.ofString "kinds", .free)], isGenerator := false, isCoroutine := false, more := [] }
def isiE (C : Str) (p q r s : Pos) : Expr := .Call (.Name "isinstance" p) [.Name "e" q, .Name C r] [] s
def toldK (a b c : Pos) (e0 e1 e2 e3 e4 : Expr) : Stmt := .Assign [.Name "kinds" a] (.List [e0, e1, e2, e3, e4] b) c
def namesL (p0 p1 p2 p3 p4 p5 : Pos) : Expr := .List [.Constant (.str "refused") 0 p0, .Constant (.str "large") 0 p1, .Constant (.str "missing") 0 p2, .Constant (.str "form") 0 p3, .Constant (.str "broken") 0 p4] p5
def toldNm (l : Expr) (a b c d e f g h i j k m n : Pos) : Stmt := .Assign [.Name "names" a] (.ListComp (.Subscript l (.Name "k" b) c) [⟨.Name "k" d, .Call (.Name "range" e) [.Constant (.int ((5 : Nat) : Int)) 0 f] [] g, [.Subscript (.Name "kinds" h) (.Name "k" i) j], 0⟩] compSc k) m
def toldR (p0 p1 p2 p3 p4 p5 p6 p7 p8 p9 p10 p11 p12 p13 p14 p15 p16 p17 : Pos) : Stmt := .Return (some (.Tuple [.Subscript (.List [.Constant (.str "odd") 0 p0, .Subscript (.BinOp (.Name "names" p1) .Add (.List [.Constant (.str "") 0 p2] p3) p4) (.Constant (.int 0) 0 p5) p6] p7)
  (.Call (.Name "int" p8) [.Compare (.Call (.Name "len" p9) [.Name "names" p10] [] p11) [.Eq] [.Constant (.int 1) 0 p12] p13] [] p14) p15] 0 p16)) p17
/-- the classes of the errors, as _law_told looks at them -/
structure ToldTxt (K : PySem.W.Frag) (mg : Str → Option Value) (A : Addr) (c : Nat → Addr) : Prop where
  gA : mg "AddError" = some (.ref A)
  g0 : mg "NotAllowed" = some (.ref (c 0))
  g1 : mg "TooLarge" = some (.ref (c 1))
  g2 : mg "Missing" = some (.ref (c 2))
  g3 : mg "BadForm" = some (.ref (c 3))
  g4 : mg "Broken" = some (.ref (c 4))
  blt : mg "isinstance" = none ∧ mg "range" = none ∧ mg "int" = none ∧ mg "len" = none
  ex : ∀ m < 3, ExcC K (c m) ∧ PySem.W.exmOne K (.ref (c m)) (.ref A) = some true ∧ ∀ j < 5, PySem.W.kitOne K (.ref (c m)) (.ref (c j)) = some (decide (m = j))
/-- new objects alone, no table among them -/
structure GrowH (H H' : Hp) : Prop where
  pres : Same H H'
  notb : ∀ b ps, H' b = some (.tbl ps) → H b = some (.tbl ps)
theorem GrowH.refl (H : Hp) : GrowH H H := ⟨Same.refl H, fun _ _ h => h⟩
theorem GrowH.upd {H H' : Hp} (g : GrowH H H') {a : Addr} {o : HO} (h : H a = none) (no : ∀ ps, o ≠ .tbl ps := by intro _ z; cases z) : GrowH H (upd H' a o) :=
  ⟨fun b x e => by
    rw [upd_ne fun z => by rw [z, h] at e; cases e]
    exact g.pres b x e, fun b ps e => g.notb b ps (notb_upd no b ps e)⟩
theorem GrowH.back {H H' : Hp} (g : GrowH H H') {a : Addr} (h : H' a = none) : H a = none := by
  cases e : H a with
  | none => rfl
  | some o => rw [g.pres a o e] at h; cases h
theorem GrowH.grow {F H H' : Hp} (g : GrowH H H') : Grow F H F H' := ⟨Same.refl F, g.pres, fun _ _ h => h, g.notb⟩
/-- what the suite comes to for an exception of the m-th class at a -/
def tSuite (K : PySem.W.Frag) (mg : Str → Option Value) (c : Nat → Addr) : Addr → Value → Option Addr → TS := fun a cls d N σ H =>
  ∃ m, m < 3 ∧ cls = .ref (c m) ∧ d = none ∧ σ.length = 5 ∧ σ[1]? = some (some (.ref a)) ∧ ∀ H2 p, GrowH H H2 → H2 p = none → N.rt (.ref p) (upd H2 p (.tup [.str (kname m)]))
theorem ifT {b : Bool} {A B : Prop} (e : b = true) (h : A) : if b = true then A else B := by rw [if_pos e]; exact h
theorem ifF {b : Bool} {A B : Prop} (e : b = false) (h : B) : if b = true then A else B := by rw [if_neg (by rw [e]; exact Bool.false_ne_true)]; exact h
section
variable {P : Program} {w : World} {K : PySem.W.Frag} {mg : Str → Option Value} {base : Heap} {A : Addr} {c : Nat → Addr} {f : Addr} {cd : Value} {A0 : Around} {outer : List PySem.Env} {s0 : Shared} {H0 : Hp} {E0 : XK}
abbrev toldCx (P : Program) (w : World) (K : PySem.W.Frag) (mg : Str → Option Value) (base : Heap) (f : Addr) (cd : Value) (A0 : Around) (outer : List PySem.Env) (s0 : Shared) (H0 : Hp) (E0 : XK) : Cx := cxOf (L2N.CX P w) P w K mg base toldN "_law_told" toldSc f cd A0 outer s0 H0 E0
def tNames : TA := tCons (tC (.str "refused")) (tCons (tC (.str "large")) (tCons (tC (.str "missing")) (tCons (tC (.str "form")) (tCons (tC (.str "broken")) tNil))))
theorem blkK : BlkOk toldN toldSc compSc [("k", 4)] := blkOk_by (by decide +kernel)
theorem told_suite (T : ToldTxt K mg A c) {a : Addr} {oe : Obj} {cls : Value} {d : Option Addr} {pn : List (Addr × Obj)} (hz : L2N.Zn cls d oe) (hf : ∃ vs, oe.data = .fields vs)
    {k1 k2 k3 : Pos} {i0 i1 i2 i3 i4 : Pos × Pos × Pos × Pos} {n0 n1 n2 n3 n4 n5 : Pos} {a0 a1 a2 a3 a4 a5 a6 a7 a8 a9 a10 a11 a12 : Pos} {r0 r1 r2 r3 r4 r5 r6 r7 r8 r9 r10 r11 r12 r13 r14 r15 r16 r17 : Pos} (hln : (a0.line == a10.line) = true) :
    PSs ((toldCx P w K mg base f cd A0 outer s0 H0 E0).suite a ((a, oe) :: pn)) [toldK k1 k2 k3 (isiE "NotAllowed" i0.1 i0.2.1 i0.2.2.1 i0.2.2.2) (isiE "TooLarge" i1.1 i1.2.1 i1.2.2.1 i1.2.2.2) (isiE "Missing" i2.1 i2.2.1 i2.2.2.1 i2.2.2.2) (isiE "BadForm" i3.1 i3.2.1 i3.2.2.1 i3.2.2.2) (isiE "Broken" i4.1 i4.2.1 i4.2.2.1 i4.2.2.2),
      toldNm (namesL n0 n1 n2 n3 n4 n5) a0 a1 a2 a3 a4 a5 a6 a7 a8 a9 a10 a11 a12, toldR r0 r1 r2 r3 r4 r5 r6 r7 r8 r9 r10 r11 r12 r13 r14 r15 r16 r17] (tSuite K mg c a cls d) := by
  refine ⟨fun pins s σ H N I h => ?_⟩
  obtain ⟨m, hm, rfl, rfl, hl, h1, fin⟩ := h
  obtain ⟨ec, _, kit⟩ := T.ex m hm
  obtain ⟨b1, b2, b3, b4⟩ := T.blt
  have hot : HotC ((toldCx P w K mg base f cd A0 outer s0 H0 E0).suite a ((a, oe) :: pn)) := by
    obtain ⟨vs, hd⟩ := hf
    exact ⟨(a, oe), ⟨rfl, vs, hd, hz.2.2 vs hd⟩, List.mem_cons_self⟩
  have isi : ∀ (C : Str) (p q r t : Pos) (cj : Addr), mg C = some (.ref cj) → toldSc.names.lookup C = some .globalImplicit → (C == ("__debug__" : Str)) = false →
      PE ((toldCx P w K mg base f cd A0 outer s0 H0 E0).suite a ((a, oe) :: pn)) (isiE C p q r t) (tCB (rIsE K (c m) a) (tCons (tVar 1) (tCons (tC (.ref cj)) tNil))) := fun C p q r t cj g1 g2 g3 =>
    pe_callB (call_isE ec ⟨hz.1, hz.2.1⟩ hf) (by rfl) b1 (by decide +kernel) (pa_cons (pv 1) (pa_cons (pe_glob g2 g1 rfl g3) pa_nil))
  have walk : PSs ((toldCx P w K mg base f cd A0 outer s0 H0 E0).suite a ((a, oe) :: pn)) [toldK k1 k2 k3 (isiE "NotAllowed" i0.1 i0.2.1 i0.2.2.1 i0.2.2.2) (isiE "TooLarge" i1.1 i1.2.1 i1.2.2.1 i1.2.2.2) (isiE "Missing" i2.1 i2.2.1 i2.2.2.1 i2.2.2.2) (isiE "BadForm" i3.1 i3.2.1 i3.2.2.1 i3.2.2.2) (isiE "Broken" i4.1 i4.2.1 i4.2.2.1 i4.2.2.2),
      toldNm (namesL n0 n1 n2 n3 n4 n5) a0 a1 a2 a3 a4 a5 a6 a7 a8 a9 a10 a11 a12, toldR r0 r1 r2 r3 r4 r5 r6 r7 r8 r9 r10 r11 r12 r13 r14 r15 r16 r17] _ :=
    pss_cons (ps_set (i := 2) (pos := k3) (pos' := k1) toldScope.nd rfl (Or.inr rfl) (pe_lst (pos := k2) (pa_cons (isi "NotAllowed" i0.1 i0.2.1 i0.2.2.1 i0.2.2.2 _ T.g0 (by decide +kernel) (by decide)) (pa_cons (isi "TooLarge" i1.1 i1.2.1 i1.2.2.1 i1.2.2.2 _ T.g1 (by decide +kernel) (by decide)) (pa_cons (isi "Missing" i2.1 i2.2.1 i2.2.2.1 i2.2.2.2 _ T.g2 (by decide +kernel) (by decide)) (pa_cons (isi "BadForm" i3.1 i3.2.1 i3.2.2.1 i3.2.2.2 _ T.g3 (by decide +kernel) (by decide)) (pa_cons (isi "Broken" i4.1 i4.2.1 i4.2.2.1 i4.2.2.2 _ T.g4 (by decide +kernel) (by decide)) pa_nil)))))))
    (pss_cons (ps_setLcZ (i := 3) (n := 5) (own := [("k", 4)]) (scope := compSc) (pos := a10) (py := a0) (spos := a11) (g := gName 4) (tt := tB (tOp (rIxL K) (tVar 2) (tVar 4))) (te := tOp (rIxL K) (tLst tNames) (tVar 4)) hot toldScope.nd (by rfl) b2 (by decide) blkK rfl rfl (sw_true rfl rfl hln (by decide +kernel)) (fun _ _ _ _ _ => pg_name (i := 4) (pos := a3) toldScope.nd rfl (Or.inl rfl)) (fun _ _ _ _ _ => pts_one (pt_val (pe_ix (pos := a9) ix_list (pv 2 (pos := a7)) (pv 4 (pos := a8)) fun _ _ => rfl)))
        (fun _ _ _ _ _ => pe_ix (pos := a2) ix_list (pe_lst (pos := n5) (pa_cons (pe_str (pos := n0)) (pa_cons (pe_str (pos := n1)) (pa_cons (pe_str (pos := n2)) (pa_cons (pe_str (pos := n3)) (pa_cons (pe_str (pos := n4)) pa_nil)))))) (pv 4 (pos := a1)) fun _ _ => rfl))
    (pss_one (ps_ret (pos := r17) (pe_tup (pos := r16) (pa_cons (pe_ix (pos := r15) ix_list (pe_lst (pos := r7) (pa_cons (pe_str (pos := r0)) (pa_cons (pe_ix (pos := r6) ix_list (pe_op (pos := r4) op_cat (pv 3 (pos := r1)) (pe_lst (pos := r3) (pa_cons (pe_str (pos := r2)) pa_nil))) (pe_int (pos := r5)) fun _ _ => rfl) pa_nil)))
      (pe_callTy call_int1 (by rfl) b3 (by rfl) (pa_cons (pe_cmpR op_eq (pe_callB call_len_seq (by rfl) b4 PySem.boot_len (pa_cons (pv 3 (pos := r10)) pa_nil)) (pe_int (pos := r12)) (nomark _)) pa_nil)) fun _ _ => rfl) pa_nil)))))
  refine walk.run pins s σ H N I ?_
  match σ, hl, h1 with
  | [s0', s1', s2', s3', s4'], _, h1 =>
  have h1' : s1' = some (V.ref a) := Option.some.inj h1
  subst h1'
  refine ⟨_, rfl, .ref (c 0), .ref (c 0), _, rfl, fun u r => r, kit 0 (by decide), ?_⟩
  refine ⟨_, rfl, .ref (c 1), .ref (c 1), _, rfl, fun u r => r, kit 1 (by decide), ?_⟩
  refine ⟨_, rfl, .ref (c 2), .ref (c 2), _, rfl, fun u r => r, kit 2 (by decide), ?_⟩
  refine ⟨_, rfl, .ref (c 3), .ref (c 3), _, rfl, fun u r => r, kit 3 (by decide), ?_⟩
  refine ⟨_, rfl, .ref (c 4), .ref (c 4), _, rfl, fun u r => r, kit 4 (by decide), ?_⟩
  refine ⟨by show 5 ≤ sizeLine; decide, fun p1 hp1 => ?_⟩
  intro D hD
  have hDp : D ≠ p1 := fun z => by rw [z, upd_same] at hD; cases hD
  have nD : H D = none := by rw [upd_ne hDp] at hD; exact hD
  have l5 : ([V.str "refused", V.str "large", V.str "missing", V.str "form", V.str "broken"] : List V).length ≤ sizeLine := by show 5 ≤ sizeLine; decide
  refine ⟨fun i H' => GrowH H H' ∧ H' p1 = some (.lst [V.bl (decide (m = 0)), V.bl (decide (m = 1)), V.bl (decide (m = 2)), V.bl (decide (m = 3)), V.bl (decide (m = 4))]) ∧ H' D = some (.lst (if m < i then [V.str (kname m)] else [])), ⟨((GrowH.refl H).upd hp1).upd nD, by rw [upd_ne (Ne.symm hDp), upd_same], by rw [upd_same]; rfl⟩, ?_, ?_⟩
  · rintro H' ⟨gr, hk, hn⟩
    rw [if_pos (by omega)] at hn
    refine ⟨_, rfl, by show 1 ≤ sizeLine; decide, fun q1 hq1 => ?_⟩
    have nq1 := gr.back hq1
    have gr1 := gr.upd (o := .lst [V.str ""]) nq1
    have hn1 : upd H' q1 (.lst [V.str ""]) D = some (.lst [V.str (kname m)]) := by rw [upd_ne (ne_of_none hn hq1)]; exact hn
    refine ⟨D, q1, _, _, rfl, rfl, hn1, upd_same, by show 2 ≤ sizeLine; decide, fun q2 hq2 => ?_⟩
    have gr2 := gr1.upd (o := .lst [V.str (kname m), V.str ""]) (gr1.back hq2)
    have hn2 : upd (upd H' q1 (.lst [V.str ""])) q2 (.lst [V.str (kname m), V.str ""]) D = some (.lst [V.str (kname m)]) := by rw [upd_ne (ne_of_none hn1 hq2)]; exact hn1
    refine ⟨q2, _, 0, _, rfl, rfl, SqL.of upd_same, rfl, ?_⟩
    refine ⟨by show 2 ≤ sizeLine; decide, fun q3 hq3 => ?_⟩
    have gr3 := gr2.upd (o := .lst [V.str "odd", V.str (kname m)]) (gr2.back hq3)
    have hn3 : upd (upd (upd H' q1 (.lst [V.str ""])) q2 (.lst [V.str (kname m), V.str ""])) q3 (.lst [V.str "odd", V.str (kname m)]) D = some (.lst [V.str (kname m)]) := by rw [upd_ne (ne_of_none hn2 hq3)]; exact hn2
    refine ⟨_, rfl, D, _, rfl, .inl (SqL.of hn3), rfl, ?_⟩
    refine .inr ⟨true, rfl, ?_⟩
    refine ⟨q3, _, 1, _, rfl, rfl, SqL.of upd_same, rfl, ?_⟩
    exact ⟨by show 1 ≤ sizeLine; decide, fun p hp => fin _ p gr3 hp⟩
  · rintro i H' hi ⟨gr, hk, hn⟩
    refine ⟨rfl, ?_⟩
    have hat : atI [V.bl (decide (m = 0)), V.bl (decide (m = 1)), V.bl (decide (m = 2)), V.bl (decide (m = 3)), V.bl (decide (m = 4))] (0 + (i : Int)) = some (V.bl (decide (m = i))) ∧ atI ([V.str "refused", V.str "large", V.str "missing", V.str "form", V.str "broken"] : List V) (0 + (i : Int)) = some (V.str (kname i)) := by
      have : i = 0 ∨ i = 1 ∨ i = 2 ∨ i = 3 ∨ i = 4 := by omega
      rcases this with rfl | rfl | rfl | rfl | rfl <;> exact ⟨rfl, rfl⟩
    refine ⟨_, rfl, _, rfl, p1, _, _, _, rfl, rfl, SqL.of hk, hat.1, _, rfl, ?_⟩
    by_cases e : m = i
    · refine ifT (decide_eq_true e) ?_
      refine ⟨l5, fun l hl => ?_⟩
      have gr1 := gr.upd (o := .lst [V.str "refused", V.str "large", V.str "missing", V.str "form", V.str "broken"]) (gr.back hl)
      refine ⟨_, rfl, l, _, _, _, rfl, rfl, SqL.of upd_same, hat.2, [], ?_, by show 0 < sizeLine; decide, gr1.upd nD, ?_, ?_⟩
      · rw [upd_ne (ne_of_none hn hl), hn, if_neg (by omega)]
      · rw [upd_ne (Ne.symm hDp), upd_ne (ne_of_none hk hl)]; exact hk
      · rw [upd_same, if_pos (by omega), e]; rfl
    · refine ifF (decide_eq_false e) ?_
      refine ⟨gr, hk, ?_⟩
      rw [hn]
      by_cases lt : m < i
      · rw [if_pos lt, if_pos (by omega)]
      · rw [if_neg lt, if_neg (by omega)]
end
end Dz
set_option Elab.async false
set_option linter.all false
set_option maxRecDepth 100000
set_option maxHeartbeats 2000000
/-! Dz: the lambda is called in the def that it was handed to. -/
namespace Dz
open PySem PySem.Spec PyProof PyProof.Rows L2 LamX
/-- a lambda's names: its parameter, what it captures, globals -/
structure LamN (sc scope : Scope) (p : Option Str) : Prop where
  kind : scope.kind = .function
  co : scope.isCoroutine = false
  gen : scope.isGenerator = false
  own : ∀ y ∈ scope.names, y.2 ≠ .cell ∧ (y.2 = .local → p = some y.1)
  par : ∀ x, p = some x → scope.names.lookup x = some .local
  free : ∀ y ∈ scope.names, y.2 = .free → sc.names.lookup y.1 = some .cell ∨ sc.names.lookup y.1 = some .free
def lamNB (sc scope : Scope) (p : Option Str) : Bool :=
  decide (scope.kind = .function) && !scope.isCoroutine && !scope.isGenerator && (scope.names.all fun y => !decide (y.2 = .cell) && (!decide (y.2 = .local) || decide (p = some y.1)) && (!decide (y.2 = .free) || decide (sc.names.lookup y.1 = some .cell) || decide (sc.names.lookup y.1 = some .free))) &&
    (match p with | none => true | some x => decide (scope.names.lookup x = some .local))
theorem lamN_by {sc scope : Scope} {p : Option Str} (h : lamNB sc scope p = true) : LamN sc scope p := by
  unfold lamNB at h
  simp only [Bool.and_eq_true, Bool.or_eq_true, Bool.not_eq_true', decide_eq_true_eq, decide_eq_false_iff_not, List.all_eq_true] at h
  obtain ⟨⟨⟨⟨h1, h2⟩, h3⟩, h4⟩, h5⟩ := h
  refine ⟨h1, h2, h3, fun y hy => ⟨(h4 y hy).1.1, fun e => ?_⟩, fun x e => ?_, fun y hy e => ?_⟩
  · rcases (h4 y hy).1.2 with z | z
    · exact absurd e z
    · exact z
  · subst e
    simpa using h5
  · rcases (h4 y hy).2 with (z | z) | z
    · exact absurd e z
    · exact .inl z
    · exact .inr z
theorem LamN.has {X : Cx} {scope : Scope} {p : Option Str} (L : LamN X.env.scope scope p) (ok : X.Ok) : ∀ y ∈ scope.names, y.2 = .free → ∃ c, X.env.cells.lookup y.1 = some c := fun y hy e => by
  rcases L.free y hy e with k | k
  · exact ok.has _ (.inl k)
  · exact ok.has _ (.inr k)
/-- the context of the lambda's body, entered at s from the frames outer -/
def lamCxN (X : Cx) (A : Around) (outer : List PySem.Env) (s : Shared) (H : Hp) (E : XK) (scope : Scope) (f c' : Addr) : Cx where
  prog := X.prog
  w := X.w
  K := X.K
  mg := X.mg
  base := X.base
  A := A.deeper (lamEnv X scope s.heap.objs.size f c')
  N := X.N
  s_0 := s
  H_0 := H
  env := lamEnv X scope s.heap.objs.size f c'
  outer := outer
  stack := lamEnv X scope s.heap.objs.size f c' :: outer
  ex := []
  fn := fun _ => false
  calm := true
  pn := []
  xe := fun e s' => wpAny (model X.prog X.w) (A.deeper (lamEnv X scope s.heap.objs.size f c')) (leaving (lamEnv X scope s.heap.objs.size f c') e) (fun _ s'' => L2N.CX X.prog X.w outer H s E e s'') (fun e' s'' => L2N.CX X.prog X.w outer H s E e' s'') s'
section
variable {X : Cx} {pins : List (Addr × Obj)} {σ : L2.St} {H HZ : Hp} {s s1 : Shared}
theorem lam_startN {A : Around} {outer : List PySem.Env} {E : XK} {scope : Scope} {p : Option Str} {own : List Nat} {f c' : Addr} {h₁ : Heap} {tk : Nat} {v : Value} (I : Inv X pins σ H s) (L : LamN X.env.scope scope p) (hown : ∀ i x, p = some x → X.N[i]? = some x → i ∈ own) (e0 : Env0 X.prog X.w X.K X.mg X.base A outer s1 HZ) (hd : A.handled = none)
    (un : Un (frs X.stack) [] H HZ s.heap s1.heap) (hns : h₁.Ns s1.heap.objs.size fun y => (lamBinds p v).reverse.lookup y) (kp : ∀ b o, s1.heap.get? b = some o → h₁.get? b = some o) :
    Inv (lamCxN X A outer s1 HZ E scope f c') [] (wipe σ own) HZ { s1 with heap := h₁, toks := tk } := by
  have caps := L.has I.ok
  have back : ∀ {y c}, (cloFrom X.env.cells scope.names []).lookup y = some c → X.env.cells.lookup y = some c := fun {y c} e => by
    rcases cloFrom_mem (PySem.mem_of_lookup e) with hm | ⟨h1, h2⟩
    · cases hm
    · obtain ⟨c1, hc⟩ := caps _ h1 rfl
      have hc : X.env.cells.lookup y = some c1 := hc
      rw [h2, hc] <;> rfl
  have fwd : ∀ {y}, scope.names.lookup y = some .free → ∃ c, (cloFrom X.env.cells scope.names []).lookup y = some c := fun {y} hl => by
    have hy : (y, NameKind.free) ∈ scope.names := PySem.mem_of_lookup hl
    exact mem_lookup (cloFrom_has (cells := X.env.cells) (acc := []) hy)
  have cellK : ∀ {c : Addr} {v : Option Value}, H c = none → s.heap.IsCell c v → h₁.IsCell c v := fun {c v} n ⟨o, ho, hd⟩ => by
    obtain ⟨sl, q⟩ := un.any ho n (by simp)
    exact ⟨_, kp _ _ q, hd⟩
  have noEx : ∀ b : Addr, b ∉ (lamCxN X A outer s1 HZ E scope f c').ex := fun b z => absurd (show b ∈ ([] : List Addr) from z) (by simp)
  refine ⟨⟨e0.mod, L.kind, rfl, rfl, Nat.le_refl _, fun y z c e1 e2 => I.ok.inj y z c (back e1) (back e2), fun y hy => ?_, fun y c z _ => ?_, fun _ => hd, Around.frames_deeper e0.frames, .inr ⟨rfl, rfl⟩, fun b z => absurd z (noEx b), e0.bs, e0.bsz, fun b _ _ => noEx b,
      fun b z => absurd z (noEx b), e0.funs, e0.frf⟩,
    rfl, e0.bare, Un.kept kp, ⟨_, hns, fun i y v e1 e2 e3 => ?_⟩, fun y c e => ?_, e0.hok.fresh (Nat.le_refl _), fun y c e => ?_, fun q hq => absurd (show q ∈ ([] : List (Addr × Obj)) ++ [] from hq) (by simp), e0.hok.kept kp, by show (wipe σ own).length = X.N.length; rw [wipe_length]; exact I.len⟩
  · have hy : scope.names.lookup y = some .cell ∨ scope.names.lookup y = some .free := hy
    rcases hy with hy | hy
    · exact absurd rfl (L.own _ (PySem.mem_of_lookup hy)).1
    · exact fwd hy
  · have z : false = true := z
    cases z
  · have e3 : Vis scope y := e3
    obtain ⟨e2, hni⟩ := wipe_some (show (wipe σ own)[i]? = some (some v) from e2)
    rcases e3 with k | k | k
    · exact absurd (hown i y ((L.own _ (PySem.mem_of_lookup k)).2 rfl) e1) hni
    · exact absurd rfl (L.own _ (PySem.mem_of_lookup k)).1
    · obtain ⟨m, hn, hl⟩ := I.loc
      have hvis : Vis X.env.scope y := (L.free _ (PySem.mem_of_lookup k) rfl).elim (fun k => .inr (.inl k)) (fun k => .inr (.inr k))
      obtain ⟨w', r, q⟩ := hl i y v e1 e2 hvis
      obtain ⟨c2, h2⟩ := fwd k
      refine ⟨w', r, .inr ⟨.inr k, c2, h2, ?_⟩⟩
      have c1 := back h2
      rcases q with ⟨k', _⟩ | ⟨_, c3, e', z⟩
      · have k' : X.env.scope.names.lookup y = some .local := k'
        rcases L.free _ (PySem.mem_of_lookup k) rfl with k2 | k2 <;> rw [show X.env.scope.names.lookup y = _ from k2] at k' <;> cases k'
      · rw [c1] at e'
        cases e'
        exact cellK (I.freeC y _ c1) z
  · obtain ⟨w', z⟩ := I.cell y c (back e)
    exact ⟨w', cellK (I.freeC y c (back e)) z⟩
  · obtain ⟨v, o, ho, hd⟩ := I.cell y c (back e)
    exact un.free c o ho (I.freeC y c (back e)) (by simp)
/-- x(), in the def that got the lambda: that def's context is cxOf .., entered at s -/
theorem pe_actN {Ng : List Str} {qg : Str} {sg : Scope} {g f c' : Addr} {cdg : Value} {params : Arguments} {body : Expr} {scope : Scope} {p : Option Str} {own : List Nat} {k i : Nat} {a : Str} {pn : List (Addr × Obj)} {xe : Value → Shared → Prop} {W : WX} {Eg : XK} {tb : XK → TE} {p1 p2 : Pos}
    (I : Inv X pins σ H s) (LP : LamPs params p) (L : LamN X.env.scope scope p) (hown : ∀ i x, p = some x → X.N[i]? = some x → i ∈ own) (lf : LamFn s.heap H (frs X.stack) (X.env.qual ++ "<lambda>") params p body scope (cloFrom X.env.cells scope.names []) f c')
    (tk : L2N.Takes ((cxOf (L2N.CX X.prog X.w) X.prog X.w X.K X.mg X.base Ng qg sg g cdg X.A X.stack s H Eg).tr pn xe) W) (hr : Room (k + 1) (X.A.deeper (envOfC qg sg s.heap.objs.size g cdg)))
    (hbody : ∀ (A : Around) (outer : List PySem.Env) (s : Shared) (H : Hp) (E : XK), A.guards = X.A.guards → Room k (A.deeper (lamEnv X scope s.heap.objs.size f c')) → PE (lamCxN X A outer s H E scope f c') body (tb E))
    (hN : Ng[i]? = some a) (hv : Vis sg a) (hd : (a == ("__debug__" : Str)) = false := by decide) (hcd : (a == ("__classdict__" : Str)) = false := by decide) :
    PE ((cxOf (L2N.CX X.prog X.w) X.prog X.w X.K X.mg X.base Ng qg sg g cdg X.A X.stack s H Eg).tr pn xe) (.Call (.Name a p1) [] [] p2)
      (fun σZ HZ Q => σZ[i]? = some (some (.ref f)) ∧ HZ c' = some (CodeO c' (X.env.qual ++ "<lambda>")) ∧ tb (WE W σZ) (wipe σ own) HZ Q) := by
  refine ⟨fun pinsZ sZ σZ HZ Q IZ h => ?_⟩
  obtain ⟨hs, hc, ht⟩ := h
  refine wpAny_Call_Name_kw (thn ((pe_var (pos := p1) (i := i) hN hv hd hcd).run pinsZ sZ σZ HZ (fun v H1 => v = .ref f ∧ H1 = HZ) IZ ⟨.ref f, hs, rfl, rfl⟩) fun u s1 ⟨v, H1, I1, r1, q1⟩ => ?_)
  obtain ⟨ev, eH⟩ := q1
  subst ev
  rw [eH] at I1
  obtain rfl : u = Value.ref f := r1
  obtain ⟨dV, doc, pm, ctv, lf1, lf2, lf3, lf4⟩ := lf.ex
  have stays : ∀ b o, s.heap.get? b = some o → H b = none → b ∉ frs X.stack → s1.heap.get? b = some o := fun b o e n nf => I1.base.keep b o e n nf (fun z => nomatch (show b ∈ ([] : List Addr) from z))
  have of1 := stays f _ lf1 lf2 lf3
  refine PySem.W.callWith_F0 ⟨_, _, _, _, of1⟩ ?_
  have un : Un (frs X.stack) [] H HZ s.heap s1.heap := I1.base
  obtain ⟨⟨oc, vs, t, hoc, hdc, hvc⟩, _, _⟩ := I1.hok c' _ hc
  obtain ⟨v, hbind⟩ := lam_bind (s := s1) LP (qual := X.env.qual ++ "<lambda>") (body := body) (scope := scope) (cl := cloFrom X.env.cells scope.names []) (dV := dV) (doc := doc) (pm := pm) (cdv := .ref c') (ct := ctv) (by
    rcases lf4 with z | ⟨t, i, tk, e1, e2, e3, e4⟩
    · exact .inl z
    · exact .inr ⟨t, i, tk, e1, stays t _ e2 e3 e4⟩)
  have rc : codeAny (model X.prog X.w) (X.A.deeper (envOfC qg sg s.heap.objs.size g cdg)) (.call (.ref f) ⟨[], []⟩) (CR (L2N.CX X.prog X.w) (envOfC qg sg s.heap.objs.size g cdg :: X.stack) X.prog X.w HZ s1 Q (WE W σZ)) s1 := by
    refine PySem.W.kla_callFunE hr.depth of1 rfl L.co L.gen rfl ⟨c', oc, vs, t, rfl, hoc, hdc, hvc⟩ ?_
    refine hbind _ _ _ _ ?_
    refine wpAny_newFunctionEnv (fun y hy => (L.own y hy).1) (fun y hy => ?_) (fun h₁ hns hsb => ⟨I1.nolimit.fresh _ hsb, ?_⟩) L.kind
    · cases p with
      | none => exact absurd hy (by simp [lamBinds])
      | some x =>
        have e : y = (x, v) := by simpa [lamBinds] using hy
        rw [e]
        exact L.par x rfl
    show codeAny _ _ (.expr body (lamEnv X scope s1.heap.objs.size f c')) _ _
    have kp : ∀ b o, s1.heap.get? b = some o → h₁.get? b = some o := fun b o e => hsb.extBut b o (Nat.ne_of_lt (Heap.lt_size e)) (Heap.get?_push_of_some _ e)
    have J := lam_startN (A := X.A.deeper (envOfC qg sg s.heap.objs.size g cdg)) (outer := envOfC qg sg s.heap.objs.size g cdg :: X.stack) (E := WE W σZ) (f := f) (c' := c') (tk := s1.toks + (lamBinds p v).length) I L hown I1.env0 hr.hd un hns kp
    refine PySem.W.kla_codeExpr (wpAny_mono ((hbody (X.A.deeper (envOfC qg sg s.heap.objs.size g cdg)) (envOfC qg sg s.heap.objs.size g cdg :: X.stack) s1 HZ (WE W σZ) rfl (hr.deeper _)).run [] _ _ HZ Q J ht) (fun v s' hq => ?_) fun e s' hq => hq)
    obtain ⟨w', H', J', rv, q⟩ := hq
    exact ⟨w', H', J'.os, J'.bare, J'.base, J'.hok, rv, q⟩
  have hx := L2N.passAt tk σZ
  refine wpAny_call (codeAny_mono rc fun r s' hq => ?_)
  cases r with
  | error e => exact hx pinsZ HZ s1 e s' I1 hq
  | ok fl =>
    cases fl with
    | ret u => exact I1.after hq
    | next => exact hq.elim
    | brk => exact hq.elim
    | cont => exact hq.elim
end
end Dz
set_option Elab.async false
set_option linter.all false
set_option maxRecDepth 100000
set_option maxHeartbeats 2000000
/-! Dz: _law_told(lambda: e). -/
namespace Dz
open PySem PySem.Spec PyProof PyProof.Rows L2 LamX
/-- the shape of _law_told's body -/
structure ToldBody (b : List Stmt) : Prop where
  ex : ∃ (p1 p2 p3 p4 p5 p6 p7 p8 : Pos) (k1 k2 k3 : Pos) (i0 i1 i2 i3 i4 : Pos × Pos × Pos × Pos) (n0 n1 n2 n3 n4 n5 : Pos) (a0 a1 a2 a3 a4 a5 a6 a7 a8 a9 a10 a11 a12 : Pos) (r0 r1 r2 r3 r4 r5 r6 r7 r8 r9 r10 r11 r12 r13 r14 r15 r16 r17 : Pos), (a0.line == a10.line) = true ∧
    b = [.Try [.Return (some (.Tuple [.Constant (.str "told") 0 p1, .Call (.Name "call" p2) [] [] p3] 0 p4)) p5] [.ExceptHandler (some (.Name "AddError" p6)) (some "e")
      [toldK k1 k2 k3 (isiE "NotAllowed" i0.1 i0.2.1 i0.2.2.1 i0.2.2.2) (isiE "TooLarge" i1.1 i1.2.1 i1.2.2.1 i1.2.2.2) (isiE "Missing" i2.1 i2.2.1 i2.2.2.1 i2.2.2.2) (isiE "BadForm" i3.1 i3.2.1 i3.2.2.1 i3.2.2.2) (isiE "Broken" i4.1 i4.2.1 i4.2.2.1 i4.2.2.2),
        toldNm (namesL n0 n1 n2 n3 n4 n5) a0 a1 a2 a3 a4 a5 a6 a7 a8 a9 a10 a11 a12, toldR r0 r1 r2 r3 r4 r5 r6 r7 r8 r9 r10 r11 r12 r13 r14 r15 r16 r17] p7] [] [] p8]
/-- _law_told as the top has written it -/
structure ToldFn (K : PySem.W.Frag) (B : Wish) (mg : Str → Option Value) : Prop where
  ex : ∃ (g : Addr) (oc : Value) (od : Option Addr) (ag : Arguments) (bg : List Stmt) (kV doc pm cdv ct : Value) (an : Option Addr) (osl : Array (Option Value)) (A : Addr) (c : Nat → Addr), mg "_law_told" = some (.ref g) ∧ PySem.W.keepIn K (.ref g) = true ∧
    K.lookup g = some ⟨oc, od, .func (PySem.W.fnOf "_law_told" "_law_told" ag bg toldSc .none kV doc pm an cdv ct), osl⟩ ∧ PySem.W.codeIn K cdv "_law_told" = true ∧ L2.Binds K (PySem.W.fnOf "_law_told" "_law_told" ag bg toldSc .none kV doc pm an cdv ct) ["call"] [] ∧ ToldBody bg ∧ ToldTxt K mg A c ∧
    ∀ x v, B.ok x v → ∃ m, m < 3 ∧ x = .cls m ∧ v = .ref (c m)
/-- the table of the lambdas of the def that runs -/
def TabX (T : List (Addr × Str)) (X : Cx) : Prop := ∃ cc P, TabB X.base X.mg cc P ∧ X.env.code = .ref cc ∧ (P, X.env.qual ++ "<lambda>") ∈ T ∧ ∀ p ∈ T, p.1 = P → p.2 = X.env.qual ++ "<lambda>"
theorem StOk.made {K : PySem.W.Frag} {B : Wish} {F H H1 : Hp} {ast : Option Addr} {g : Nat} (s : StOk K B F H ast g) (fh : Same F H) (m : LamMade B.T H H1) : StOk K B F H1 ast g ∧ Same F H1 ∧ Step ast F H F H1 := by
  have nt : ∀ b o, F b = some o → ∀ ps, o ≠ .tbl ps := fun b o e ps z => by
    subst z
    obtain ⟨q, hq⟩ := s.2.all b ps (fh b _ e)
    have := s.2.frz _ hq
    rw [e] at this
    cases this
  refine ⟨⟨?_, m.tabs, fun b ps e => ?_, s.2.frz⟩, fun b o e => m.ext b o (fh b o e) (nt b o e), ⟨Same.refl F, fun b o e _ n => m.ext b o e n, m.dom, fun b _ f _ => f⟩⟩
  · have s1 := s.1
    cases ast with
    | none => exact s1
    | some x =>
      obtain ⟨f, b, c, y, ys, h1, h2, h3⟩ := s1
      exact ⟨f, b, c, y, ys, m.ext _ _ h1 (fun _ z => nomatch z), h2, h3⟩
  · obtain ⟨ps', e'⟩ := m.notb b ps e
    exact s.2.all b ps' e'
abbrev toldW (own : List Nat) (w : Ev → Nat → XR → Rs → Prop) : Ev → Nat → XR → Rs → Prop := fun ρ g _ R => w (wipeE ρ own) g (fun x g1 => ∃ m, m < 3 ∧ x = .cls m ∧ R (.tuple [.str (kname m)]) g1) fun d g1 => R (.tuple [.str "told", d]) g1
section
variable {X : Cx} {B : Wish} {W : WX}
theorem snd_told {k : Nat} {params : Arguments} {pa : Option Str} {body : Expr} {scope : Scope} {own : List Nat} {p lpos pos : Pos} {w : Ev → Nat → XR → Rs → Prop} (TF : ToldFn X.K B X.mg) (TX : TabX B.T X) (hg : Gl X "_law_told") (LP : LamPs params pa) (L : LamN X.env.scope scope pa) (hown : ∀ i x, pa = some x → X.N[i]? = some x → i ∈ own)
    (hr : Room (k + 2) X.A)
    (hbody : ∀ (A : Around) (outer : List PySem.Env) (s : Shared) (H : Hp) (E : XK) (f c' : Addr), A.guards = X.A.guards → Room k (A.deeper (lamEnv X scope s.heap.objs.size f c')) → PE (lamCxN X A outer s H E scope f c') body (TDm X.K B (fun cls dd _ H => E cls dd H) .st w)) :
    PE X (.Call (.Name "_law_told" p) [.Lambda params body scope lpos] [] pos) (TDm X.K B W .st (toldW own w)) := by
  obtain ⟨g0, oc, od, ag, bg, kV, doc, pm, cdv, ct, an, osl, A, c, hm, hk, lk, hcg, hb, tbody, T, hB⟩ := TF.ex
  obtain ⟨cc, P, TB, hcode, hmT, hu⟩ := TX
  refine ⟨fun pins s σ H Q I h => ?_⟩
  obtain ⟨F, ast, ρ, g, XX, R, sr, q, G⟩ := h
  refine wpAny_Call_Name_kw (ld_glob I hg hm ?_ (by decide))
  refine PySem.W.callWith_K (h₀ := X.base) I.ok.mod.kin hk ?_ (by rfl) (by rfl)
  show wpAny _ _ (spliced ((false, eval (.Lambda params body scope lpos) X.env) :: backTo pos (starEach [] X.env))) _ _ s
  refine Calls.spliced_cons (lam_makeD LP I TB hcode hmT hu sr.st.2.tab (L.has I.ok) fun f c' H1 s' I1 made lf hco => ?_)
  refine Calls.spliced_nil ⟨I1.kIn, ?_⟩
  obtain ⟨so1, fh1, step1⟩ := sr.st.made sr.fh made
  have rc : codeAny (model X.prog X.w) X.A (.call (.ref g0) ⟨[.ref f], []⟩) (CR (L2N.CX X.prog X.w) X.stack X.prog X.w H1 s' Q fun _ _ _ => False) s' := by
    refine LamX.run_ofS (N := toldN) (ps := ["call"]) (us := [.ref f]) (vs := [.ref f]) lk hcg toldScope hr I1.env0 (hb s' [.ref f] I1.kIn rfl) (.cons rfl .nil) rfl fun hr' => ?_
    obtain ⟨p1, p2, p3, p4, p5, p6, p7, p8, k1, k2, k3, i0, i1, i2, i3, i4, n0, n1, n2, n3, n4, n5, a0, a1, a2, a3, a4, a5, a6, a7, a8, a9, a10, a11, a12, r0, r1, r2, r3, r4, r5, r6, r7, r8, r9, r10, r11, r12, r13, r14, r15, r16, r17, hln, eb⟩ := tbody.ex
    subst eb
    refine ⟨_, pss_one (L2N.ps_try_as (X := toldCx X.prog X.w X.K X.mg X.base g0 cdv X.A X.stack s' H1 fun _ _ _ => False) (i := 1) (c := .ref A) (tb := fun W => tRet (tTup (tCons (tC (.str "told")) (tCons (fun σZ HZ Q => σZ[0]? = some (some (.ref f)) ∧ HZ c' = some (CodeO c' (X.env.qual ++ "<lambda>")) ∧ TDm X.K B (fun cls dd _ H => WE W σZ cls dd H) .st w (wipe σ own) HZ Q) tNil))))
      (ts := tSuite X.K X.mg c) (Wout := fun _ _ _ _ => False) rfl rfl toldScope.nd rfl rfl ⟨rfl, by decide, .inl T.gA⟩ takesN0
      (fun W pn xe tk _ => pss_one (ps_ret (pe_tup (pa_cons pe_str (pa_cons (pe_actN (i := 0) (tb := fun E => TDm X.K B (fun cls dd _ H => E cls dd H) .st w) I1 LP L hown lf tk hr' (fun A outer s H E hg hr2 => hbody A outer s H E f c' hg hr2) rfl (.inl rfl)) pa_nil)))))
      (fun a oe cls d pn hz hf => told_suite T hz hf hln)), ?_⟩
    have sr2 : SRc X.K B F H1 ast (wipe σ own) (wipeE ρ own) g := ⟨fh1, so1, (sr.sl.step step1).wiped own⟩
    refine ⟨rfl, hco, F, ast, wipeE ρ own, g, _, _, sr2, q, fun v F' H' d g' st fh so vv q' => ?_, fun x cv F' H' g' st fh so q' b => ?_⟩
    · refine ⟨by show 2 ≤ sizeLine; decide, fun pp hp => ?_⟩
      have gr := Grow.laid (o := .tup [V.str "told", v]) fh hp
      exact G.ok (.ref pp) _ _ _ g' ((step1.trans st).trans gr.step) (Same.upd2 fh) (gr.st so) (Rp.tup (SqT.of upd_same) (.cons (.str _) (.cons (Rp.mono gr.same _ _ vv) .nil))) q'
    · obtain ⟨m, hm3, rfl, q'⟩ := q'
      obtain ⟨m', _, em, rfl⟩ := hB _ _ b
      cases em
      refine ⟨true, (T.ex m hm3).2.1, fun _ a ha => ⟨m, hm3, rfl, rfl, rfl, rfl, fun H2 pp grH hp => ?_⟩, fun z => by cases z⟩
      have gr1 : Grow F' H' F' H2 := grH.grow
      have fh2 : Same F' H2 := fun b o e => grH.pres b o (fh b o e)
      have gr := Grow.laid (o := .tup [V.str (kname m)]) fh2 hp
      exact G.ok (.ref pp) _ _ _ g' (((step1.trans st).trans gr1.step).trans gr.step) (Same.upd2 fh2) (gr.st (gr1.st so)) (Rp.tup (SqT.of upd_same) (.cons (.str _) .nil)) q'
  refine wpAny_call (codeAny_mono rc fun r s2 hq => ?_)
  cases r with
  | error e =>
    obtain ⟨_, _, _, _, _, _, _, _, _, _, _, _, z⟩ := hq
    exact z.elim
  | ok fl =>
    cases fl with
    | ret u => exact I1.after hq
    | next => exact hq.elim
    | brk => exact hq.elim
    | cont => exact hq.elim
end
end Dz
set_option Elab.async false
set_option linter.all false
set_option maxRecDepth 100000
/-! Dz: a written def against a text of the small language: the looks, and what they give. -/
namespace Dz
open PySem PySem.Spec PyProof.Rows L2
/-! ### the looks -/
def visB (sc : Scope) (x : Str) : Bool := sc.names.lookup x == some .local || sc.names.lookup x == some .cell || sc.names.lookup x == some .free
def slotB (N : List Str) (sc : Scope) (i : Nat) (x : Str) : Bool := N[i]? == some x && visB sc x && !(x == ("__debug__" : Str)) && !(x == ("__classdict__" : Str))
def glB (sc : Scope) (x : Str) : Bool := sc.names.lookup x == some .globalImplicit && !(x == ("__debug__" : Str)) && !(x == ("__name__" : Str))
def plainB : Expr → Bool
  | .Starred .. => false
  | _ => true
def ixB : Expr → Bool
  | .Slice .. => false
  | _ => true
def isBin : Bin → Operator → Bool
  | .add, .Add => true
  | .sub, .Sub => true
  | .mul, .Mult => true
  | .fdiv, .FloorDiv => true
  | .mod, .Mod => true
  | .pow, .Pow => true
  | _, _ => false
def isCmp : Cmp → CmpOp → Bool
  | .eq, .Eq => true
  | .ne, .NotEq => true
  | .lt, .Lt => true
  | .le, .LtE => true
  | .gt, .Gt => true
  | .ge, .GtE => true
  | _, _ => false
def fnName : Fn → Str
  | .len => "len"
  | .abs => "abs"
  | .int => "int"
  | .str => "str"
  | .repr => "repr"
  | .max => "max"
  | .min => "min"
  | .sum => "sum"
  | .sorted => "sorted"
  | .list => "list"
  | .tuple => "tuple"
  | .any => "any"
  | .all => "all"
/-- tests that are told by their value or by their parts -/
def tOk : E → Bool
  | .ite .. => false
  | .and a b => tOk a && tOk b
  | .or a b => tOk a && tOk b
  | .not a => tOk a
  | _ => true
def ownNames (N : List Str) (own : List Nat) : List (Str × Nat) := own.map fun i => (N.getD i Str.empty, i)
def blkFn (scope : Scope) : Str → Bool := fun x => scope.names.lookup x == some .cell
/-- a lambda's parameters, as they are looked at -/
def lamPar (a : Arguments) : Option (Option Str) :=
  match a with
  | ⟨[], [], none, [], [], none, []⟩ => some none
  | ⟨[], [⟨x, none, _⟩], none, [], [], none, [.Constant (.int _) _ _]⟩ => if x ∈ ([("a" : Str), ("b" : Str), ("c" : Str), ("d" : Str), ("e" : Str)] : List Str) then some (some x) else none
  | _ => none
theorem lamPar_ok {a : Arguments} {p : Option Str} (h : lamPar a = some p) : LamPs a p := by
  unfold lamPar at h
  split at h
  · cases h; exact .no
  · split at h
    · next hx => cases h; exact .one _ _ _ _ _ hx
    · cases h
  · cases h
def ownB (N : List Str) (p : Option Str) (own : List Nat) : Bool :=
  match p with
  | none => true
  | some x => (List.range N.length).all fun i => !(N[i]? == some x) || own.contains i
theorem ownB_ok {N : List Str} {p : Option Str} {own : List Nat} (h : ownB N p own = true) : ∀ i x, p = some x → N[i]? = some x → i ∈ own := fun i x e hi => by
  subst e
  have hl : i < N.length := (List.getElem?_eq_some_iff.mp hi).1
  have q := List.all_eq_true.mp h i (List.mem_range.mpr hl)
  rw [hi] at q
  simpa using q
def notTold (sc : Scope) : Bool := !(sc.names.lookup ("_law_told" : Str) == some NameKind.globalImplicit)
def lamB (N : List Str) (sc scope : Scope) (own : List Nat) (a : Arguments) : Bool :=
  match lamPar a with
  | some p => lamNB sc scope p && ownB N p own && notTold scope
  | none => false
theorem lamB_ok {N : List Str} {sc scope : Scope} {own : List Nat} {a : Arguments} (h : lamB N sc scope own a = true) : ∃ p, LamPs a p ∧ LamN sc scope p ∧ (∀ i x, p = some x → N[i]? = some x → i ∈ own) ∧ notTold scope = true := by
  unfold lamB at h
  split at h
  · next p e =>
    rw [Bool.and_eq_true, Bool.and_eq_true] at h
    exact ⟨p, lamPar_ok e, lamN_by h.1.1, ownB_ok h.1.2, h.2⟩
  · cases h
def isIs (neg : Bool) : CmpOp → Bool
  | .Is => !neg
  | .IsNot => neg
  | _ => false
def isIn (neg : Bool) : CmpOp → Bool
  | .In => !neg
  | .NotIn => neg
  | _ => false
def noneB : Expr → Bool
  | .Constant .none _ _ => true
  | _ => false
def zeroE : E → Bool
  | .int i => i == 0
  | _ => false
def seqName (tup : Bool) : Str := if tup = true then "tuple" else "list"
/-- -1 -/
def negOne : Expr → Bool
  | .UnaryOp .USub (.Constant (.int c) _ _) _ => c == 1
  | _ => false
section
variable (tb : Tab) (N : List Str)
mutual
def isE : E → Bool → Scope → Expr → Bool
  | .var i, _, sc, .Name x _ => slotB N sc i x
  | .own i, pk, sc, .Name x _ => pk && slotB N sc i x
  | .int i, _, _, .Constant (.int j) _ _ => i == j
  | .int i, _, sc, .Name x _ => tb.cs.contains (x, i) && glB sc x
  | .bl i, _, _, .Constant (.bool j) _ _ => i == j
  | .non, _, _, .Constant .none _ _ => true
  | .str i, _, _, .Constant (.str j) _ _ => i == j
  | .bin o a b, _, sc, .BinOp a' o' b' _ => isBin o o' && isE a true sc a' && isE b true sc b'
  | .neg a, _, sc, .UnaryOp .USub a' _ => isE a true sc a'
  | .cmp o a b, _, sc, .Compare a' [o'] [b'] _ => isCmp o o' && isE a true sc a' && isE b true sc b'
  | .and a b, _, sc, .BoolOp .And (x :: y :: r) p => isE a true sc x && (match r with | [] => isE b true sc y | z :: r' => isE b true sc (.BoolOp .And (y :: z :: r') p))
  | .or a b, _, sc, .BoolOp .Or (x :: y :: r) p => isE a true sc x && (match r with | [] => isE b true sc y | z :: r' => isE b true sc (.BoolOp .Or (y :: z :: r') p))
  | .not a, _, sc, .UnaryOp .Not a' _ => isE a true sc a'
  | .ite c a b, _, sc, .IfExp c' a' b' _ => tOk c && isE c true sc c' && isE a false sc a' && isE b false sc b'
  | .tup es, _, sc, .Tuple es' _ _ => isL es false sc es'
  | .lst es, _, sc, .List es' _ => isL es false sc es'
  | .ix a i, _, sc, .Subscript a' i' _ => isE a true sc a' && isE i true sc i' && ixB i'
  | .slice a lo hi, _, sc, .Subscript a' (.Slice lo' hi' none _) _ => isE a true sc a' && isO lo sc lo' && isO hi sc hi'
  | .call f as, _, sc, .Call (.Name x _) es [] _ => (match tb.defs[f]? with | some d => x == d.name | none => false) && glB sc x && isA as sc es
  | .draw i m, _, sc, .Call (.Name x _) [.Name y _, m'] [] _ => x == ("_law_next" : Str) && glB sc x && slotB N sc i y && plainB m' && isE m true sc m'
  | .fn b as, _, sc, .Call (.Name x _) (e :: es) [] _ => x == fnName b && glB sc x && isL as true sc (e :: es)
  | .comp elt tg it ifs own, _, sc, .ListComp elt' [⟨tg', it', ifs', 0⟩] scope _ => isE elt false (relS scope sc) elt' && isTg (blkFn scope) N (relS scope sc) tg tg' && isI it sc tg' it' && isC ifs (relS scope sc) ifs' &&
      blkC N sc scope (ownNames N own) && notTold (relS scope sc) && tg.has.all fun i => own.contains i
  | .fmt es, _, sc, .JoinedStr (v1 :: v2 :: r) _ => isJ es sc (v1 :: v2 :: r)
  | .chain o1 o2 a b c, _, sc, .Compare a' [p, q] [b', c'] _ => isCmp o1 p && isCmp o2 q && isE a true sc a' && isE b true sc b' && isE c true sc c'
  | .told e own, _, sc, .Call (.Name x _) [.Lambda a b scope _] [] _ => x == ("_law_told" : Str) && glB sc x && lamB N sc scope own a && isE e false scope b
  | .ctup ls, _, sc, .Name x _ => tb.ts.contains (x, ls) && glB sc x
  | .isn neg a, _, sc, .Compare a' [o'] [b'] _ => isIs neg o' && isE a true sc a' && noneB b'
  | .mem neg a b, _, sc, .Compare a' [o'] [b'] _ => isIn neg o' && isE a true sc a' && isE b true sc b' && !(behindInMarks o' b')
  | .sset a, _, sc, .Call (.Name x _) [.Call (.Name y _) [a'] [] _] [] _ => x == ("sorted" : Str) && glB sc x && y == ("set" : Str) && glB sc y && plainB a' && isE a true sc a'
  | .lset a, _, sc, .Call (.Name x _) [.Call (.Name y _) [a'] [] _] [] _ => x == ("len" : Str) && glB sc x && y == ("set" : Str) && glB sc y && plainB a' && isE a true sc a'
  | .rngL t a b, _, sc, .Call (.Name x _) [.Call (.Name y _) [b'] [] _] [] _ => x == seqName t && glB sc x && y == ("range" : Str) && glB sc y && zeroE a && plainB b' && isE b true sc b'
  | .rngL t a b, _, sc, .Call (.Name x _) [.Call (.Name y _) [a', b'] [] _] [] _ => x == seqName t && glB sc x && y == ("range" : Str) && glB sc y && plainB a' && isE a true sc a' && plainB b' && isE b true sc b'
  | .comp2 elt tg1 it1 ifs1 tg2 it2 ifs2 own own2, _, sc, .ListComp elt' [⟨tg1', it1', ifs1', 0⟩, ⟨tg2', it2', ifs2', 0⟩] scope _ => isE elt false (relS scope sc) elt' && isTg (blkFn scope) N (relS scope sc) tg1 tg1' && isI it1 sc tg1' it1' && isC ifs1 (relS scope sc) ifs1' &&
      isTg (blkFn scope) N (relS scope sc) tg2 tg2' && isI it2 (relS scope sc) tg2' it2' && isC ifs2 (relS scope sc) ifs2' && blkC N sc scope (ownNames N own) && notTold (relS scope sc) && (tg1.has.all fun i => own.contains i) && (tg2.has.all fun i => own2.contains i) && own2.all fun i => own.contains i
  | .rev a, _, sc, .Subscript a' (.Slice none none (some m) _) _ => negOne m && isE a true sc a'
  | _, _, _, _ => false
def isL : L → Bool → Scope → List Expr → Bool
  | .nil, _, _, [] => true
  | .cons e r, pk, sc, e' :: r' => plainB e' && isE e pk sc e' && isL r pk sc r'
  | .star e r, pk, sc, .Starred e' _ :: r' => !pk && isE e false sc e' && isL r pk sc r'
  | _, _, _, _ => false
def isC : L → Scope → List Expr → Bool
  | .nil, _, [] => true
  | .cons e .nil, sc, [e'] => tOk e && isE e true sc e'
  | _, _, _ => false
def isJ : L → Scope → List Expr → Bool
  | .nil, _, [] => true
  | .cons e r, sc, v :: r' => (match v with
      | .Constant (.str t) _ _ => (match e with | .str s => s == t | _ => false)
      | .FormattedValue e' c none _ => c == -1 && isE e true sc e'
      | _ => false) && isJ r sc r'
  | _, _, _ => false
def isA : A → Scope → List Expr → Bool
  | .nil, _, [] => true
  | .cons e r, sc, e' :: r' => plainB e' && isE e false sc e' && isA r sc r'
  | .st i r, sc, .Name y _ :: r' => slotB N sc i y && isA r sc r'
  | _, _, _ => false
def isO : O → Scope → Option Expr → Bool
  | .no, _, none => true
  | .ye e, sc, some e' => isE e true sc e'
  | _, _, _ => false
def isI : It → Scope → Expr → Expr → Bool
  | .of e, sc, _, e' => isE e false sc e' && foldB e'
  | .range1 b, sc, _, .Call (.Name x _) [b'] [] _ => x == ("range" : Str) && glB sc x && plainB b' && isE b true sc b'
  | .range a b, sc, _, .Call (.Name x _) [a', b'] [] _ => x == ("range" : Str) && glB sc x && plainB a' && isE a true sc a' && plainB b' && isE b true sc b'
  | .zip a b, sc, .Tuple .., .Call (.Name x _) [a', b'] [] _ => x == ("zip" : Str) && glB sc x && plainB a' && isE a false sc a' && plainB b' && isE b false sc b'
  | .enum a, sc, .Tuple .., .Call (.Name x _) [a'] [] _ => x == ("enumerate" : Str) && glB sc x && plainB a' && isE a false sc a'
  | .down a b, sc, _, .Call (.Name x _) [a', b', m] [] _ => x == ("range" : Str) && glB sc x && plainB a' && isE a true sc a' && plainB b' && isE b true sc b' && negOne m
  | _, _, _, _ => false
where foldB : Expr → Bool
  | .Set .. => false
  | _ => true
end
end
end Dz
set_option Elab.async false
set_option linter.all false
set_option maxRecDepth 100000
set_option maxHeartbeats 1000000
namespace Dz
open PySem PySem.Spec PyProof.Rows L2
def blts : List Str := ["len", "abs", "int", "str", "repr", "max", "min", "sum", "sorted", "list", "tuple", "range", "zip", "enumerate", "set", "any", "all", "dict", "isinstance"]
/-- the room that calls at level n ask -/
def rm (n : Nat) : Nat := 3 * n + 3
structure Good (tb : Tab) (B : Wish) (n : Nat) (X : Cx) : Prop where
  calm : X.calm = true
  nd : X.N.Nodup
  room : Room (rm n) X.A
  gd : X.A.guards = some []
  blt : ∀ x ∈ blts, X.mg x = none
  fn : ∀ (f : Nat) d, tb.defs[f]? = some d → ∃ (a : Addr) (fd : FuncData), X.mg d.name = some (.ref a) ∧ PySem.W.keepIn X.K (.ref a) = true ∧ Binds X.K fd d.ps [] ∧ FnG X.prog X.w X.K X.mg X.base (rm n) a fd d.ps (spD X.K B d.ps.length (Phi tb n f))
  draw : ∃ (a : Addr) (fd : FuncData) (ps : List Str), X.mg "_law_next" = some (.ref a) ∧ PySem.W.keepIn X.K (.ref a) = true ∧ Binds X.K fd ps [] ∧ FnG X.prog X.w X.K X.mg X.base (rm n) a fd ps (spNext X.K B)
  cst : ∀ x i, (x, i) ∈ tb.cs → ∃ t, X.mg x = some (.int i t)
  tup : ∀ x ls, (x, ls) ∈ tb.ts → ∃ a : Addr, X.mg x = some (.ref a) ∧ ∀ F, Rp X.K F (.ref a) (.tuple (ls.map litD))
  td : X.env.scope.names.lookup ("_law_told" : Str) = some NameKind.globalImplicit → ToldFn X.K B X.mg ∧ TabX B.T X ∧ Room (rm n + 2) X.A
theorem Good.blk {tb : Tab} {B : Wish} {n : Nat} {X : Cx} (G : Good tb B n X) (s : Shared) (H : Hp) (scope : Scope) (cenv : PySem.Env) (fp : List Addr) (nt : notTold cenv.scope = true) : Good tb B n (X.blk s H scope cenv fp) :=
  ⟨G.calm, G.nd, G.room, G.gd, G.blt, G.fn, G.draw, G.cst, G.tup, fun h => by
    have h' : cenv.scope.names.lookup ("_law_told" : Str) = some NameKind.globalImplicit := h
    unfold notTold at nt
    rw [h'] at nt
    cases nt⟩
def mdOf : Bool → Md
  | true => .tp
  | false => .st
theorem up {X : Cx} {B : Wish} {W : WX} {e : Expr} {w : Ev → Nat → XR → Rs → Prop} (pk : Bool) (h : PE X e (TDm X.K B W .st w)) : PE X e (TDm X.K B W (mdOf pk) w) := by
  cases pk with
  | true => exact PE.tp h
  | false => exact h
theorem keeps_md (pk : Bool) : Keeps (mdOf pk) := by cases pk <;> trivial
theorem and_of {a b : Bool} (h : (a && b) = true) : a = true ∧ b = true := by rwa [Bool.and_eq_true] at h
theorem beqS {a b : Str} (h : (a == b) = true) : a = b := eq_of_beq h
theorem not_of' {a : Bool} (h : (!a) = true) : a = false := by cases a <;> first | rfl | cases h
theorem slot_of {N : List Str} {sc : Scope} {i : Nat} {x : Str} (h : slotB N sc i x = true) : N[i]? = some x ∧ Vis sc x ∧ (x == ("__debug__" : Str)) = false ∧ (x == ("__classdict__" : Str)) = false := by
  unfold slotB at h
  obtain ⟨h, h4⟩ := and_of h
  obtain ⟨h, h3⟩ := and_of h
  obtain ⟨h1, h2⟩ := and_of h
  refine ⟨eqO_of h1, ?_, not_of' h3, not_of' h4⟩
  unfold visB at h2
  rw [Bool.or_eq_true, Bool.or_eq_true] at h2
  rcases h2 with (h2 | h2) | h2
  · exact .inl (eqO_of h2)
  · exact .inr (.inl (eqO_of h2))
  · exact .inr (.inr (eqO_of h2))
theorem gl_of {X : Cx} {x : Str} (h : glB X.env.scope x = true) : Gl X x ∧ (x == ("__debug__" : Str)) = false ∧ x ≠ "__name__" := by
  unfold glB at h
  obtain ⟨h, h3⟩ := and_of h
  obtain ⟨h1, h2⟩ := and_of h
  exact ⟨eqO_of h1, not_of' h2, fun e => by rw [e] at h3; cases h3⟩
theorem star_of {X : Cx} {e : Expr} {es : List Expr} (h : plainB e = true) : starEach (e :: es) X.env = (false, eval e X.env) :: starEach es X.env := by
  cases e <;> first | rfl | cases h
theorem ix_of {e : Expr} (h : ixB e = true) : PlainIx e := by
  cases e <;> first | (intro o i; rfl) | cases h
theorem nb_of {op : CmpOp} {b : Expr} (h : op ≠ .In) (h2 : op ≠ .NotIn) : behindInMarks op b = false := nomark b h h2
theorem phi_len {tb : Tab} {f : Nat} {d : Def} (hd : tb.defs[f]? = some d) : ∀ (n : Nat) svs g XX R, Phi tb n f svs g XX R → svs.length = d.ps.length
  | 0, _, _, _, _, h => False.elim h
  | n + 1, svs, g, XX, R, h => by
    have h' : (match tb.defs[f]? with
      | some d => svs.length = d.ps.length ∧ wpSL (Phi tb n) d.body (startE d svs) g XX ⟨fun _ g => R .none g, R, fun _ _ => False, fun _ _ => False⟩
      | none => False) := h
    rw [hd] at h'
    exact h'.1
theorem own_fst (N : List Str) : ∀ own : List Nat, (ownNames N own).map (·.2) = own
  | [] => rfl
  | i :: is => by
    show i :: (ownNames N is).map (·.2) = i :: is
    rw [own_fst N is]
theorem PT.pw {X : Cx} {op : BoolOp} {vs : List Expr} {p : Pos} {t : TT} (h : PT X (.BoolOp op vs p) t) : PW X (.BoolOp op vs p) t := ⟨fun _ pins s σ H Q I q => h.run pins s σ H Q I q⟩
theorem cf_fn {X : Cx} (hc : X.calm = true) (hr : X.A.units + 100 < cLine) (hg : X.A.guards = some []) {es : List Expr} {e : Expr} {x : Str} {p pos : Pos} {B : Wish} {W : WX} {wl : Ev → Nat → XR → (List D → Nat → Prop) → Prop} (b : Fn) (hx : x = fnName b) (gx : Gl X x) (hm : X.mg x = none) (hdb : (x == ("__debug__" : Str)) = false)
    (hn : x ≠ "__name__") (ha : PA X (e :: es) (TAm X.K B W .tp wl)) (he : starEach (e :: es) X.env = (false, eval e X.env) :: starEach es X.env) (hpl : (backTo pos (starEach es X.env)).any (·.1) = false) :
    PE X (.Call (.Name x p) (e :: es) [] pos) (TDm X.K B W .st (fun ρ g XX R => wl ρ g XX fun ds g1 => fnD b ds fun z => R z g1)) := by
  subst hx
  cases b
  · exact snd_fnB cf_len gx hm (by decide +kernel) ha hn hdb he hpl
  · exact snd_fnB cf_abs gx hm (by decide +kernel) ha hn hdb he hpl
  · exact snd_fnT cf_int gx hm (by decide +kernel) ha hn hdb he hpl
  · exact snd_fnT cf_str gx hm (by decide +kernel) ha hn hdb he hpl
  · exact snd_fnB (cf_repr hr hg) gx hm (by decide +kernel) ha hn hdb he hpl
  · exact snd_fnB (cf_max hc) gx hm (by decide +kernel) ha hn hdb he hpl
  · exact snd_fnB (cf_min hc (by omega)) gx hm (by decide +kernel) ha hn hdb he hpl
  · exact snd_fnB (cf_sum hc) gx hm (by decide +kernel) ha hn hdb he hpl
  · exact snd_fnB cf_sorted gx hm (by decide +kernel) ha hn hdb he hpl
  · exact snd_fnT cf_list gx hm (by decide +kernel) ha hn hdb he hpl
  · exact snd_fnT cf_tuple gx hm (by decide +kernel) ha hn hdb he hpl
  · exact snd_fnB (cf_any hc) gx hm (by decide +kernel) ha hn hdb he hpl
  · exact snd_fnB (cf_all hc) gx hm (by decide +kernel) ha hn hdb he hpl
theorem blt_fn (b : Fn) : fnName b ∈ blts := by cases b <;> decide +kernel
theorem isL_star {tb : Tab} {X : Cx} : ∀ (es : L) (pes : List Expr) (pos : Pos), isL tb X.N es true X.env.scope pes = true → (backTo pos (starEach pes X.env)).any (·.1) = false
  | .nil, [], pos, _ => rfl
  | .nil, _ :: _, pos, h => by cases h
  | .cons e r, [], pos, h => by cases h
  | .star e r, [], pos, h => by cases h
  | .star e r, pe :: pr, pos, h => by
    cases pe <;> cases h
  | .cons e r, pe :: pr, pos, h => by
    unfold isL at h
    obtain ⟨h, h2⟩ := and_of h
    obtain ⟨h0, h1⟩ := and_of h
    rw [star_of h0]
    show (false || (backTo pos (starEach pr X.env)).any (·.1)) = false
    rw [isL_star r pr pos h2]
    rfl
theorem isA_star {tb : Tab} {X : Cx} : ∀ (es : A) (pes : List Expr) (pos : Pos), isA tb X.N es X.env.scope pes = true → (backTo pos (starEach pes X.env)).any (·.1) = false
  | .nil, [], pos, _ => rfl
  | .nil, _ :: _, pos, h => by cases h
  | .cons e r, [], pos, h => by cases h
  | .st i r, [], pos, h => by cases h
  | .cons e r, pe :: pr, pos, h => by
    unfold isA at h
    obtain ⟨h, h2⟩ := and_of h
    obtain ⟨h0, h1⟩ := and_of h
    rw [star_of h0]
    show (false || (backTo pos (starEach pr X.env)).any (·.1)) = false
    rw [isA_star r pr pos h2]
    rfl
  | .st i r, pe :: pr, pos, h => by
    cases pe <;> first | (cases h; done) | skip
    unfold isA at h
    obtain ⟨h1, h2⟩ := and_of h
    show (false || (backTo pos (starEach pr X.env)).any (·.1)) = false
    rw [isA_star r pr pos h2]
    rfl
theorem fold_any {e : Expr} (h : isI.foldB e = true) (env : PySem.Env) (x : Value) : foldedSetIterable e env x = pure x := by
  cases e <;> first | rfl | cases h
theorem isI_fold {tb : Tab} {N : List Str} {i : It} {sc : Scope} {tg pe : Expr} (h : isI tb N i sc tg pe = true) : isI.foldB pe = true := by
  cases pe <;> first | rfl | skip
  cases i <;> first | (cases h; done) | (cases tg <;> cases h; done) | skip
  unfold isI at h
  exact (and_of h).2
theorem fold_of {X : Cx} {e : Expr} (h : isI.foldB e = true) (x : Value) : foldedSetIterable e X.env x = pure x := by
  cases e <;> first | rfl | cases h
theorem isBin_ok {X : Cx} {o : Bin} {op : Operator} (h : isBin o op = true) : OpR X (binaryOp op) (rD X.K (binD o)) := by
  cases o <;> cases op <;> first | (cases h; done) | skip
  · exact or_add
  · exact or_sub
  · exact or_mul
  · exact or_fdiv
  · exact or_mod
  · exact or_pow
theorem isCmp_ok {X : Cx} (hu : X.A.units + 64 < cLine) {o : Cmp} {op : CmpOp} (h : isCmp o op = true) : OpR X (compareOp op) (rD X.K (cmpD o)) ∧ op ≠ .In ∧ op ≠ .NotIn := by
  cases o <;> cases op <;> first | (cases h; done) | skip
  · exact ⟨or_eq hu, by decide, by decide⟩
  · exact ⟨or_ne hu, by decide, by decide⟩
  · exact ⟨or_lt (by omega), by decide, by decide⟩
  · exact ⟨or_le, by decide, by decide⟩
  · exact ⟨or_gt, by decide, by decide⟩
  · exact ⟨or_ge, by decide, by decide⟩
theorem isIs_ok {X : Cx} {neg : Bool} {op : CmpOp} (h : isIs neg op = true) : OpR X (compareOp op) (rD X.K (isnF neg)) ∧ op ≠ .In ∧ op ≠ .NotIn := by
  cases op <;> first | (cases h; done) | skip
  · have e : neg = false := not_of' h
    subst e
    exact ⟨or_is, by decide, by decide⟩
  · have e : neg = true := h
    subst e
    exact ⟨or_isnot, by decide, by decide⟩
theorem isIn_ok {X : Cx} (hu : X.A.units + 65 < cLine) {neg : Bool} {op : CmpOp} (h : isIn neg op = true) : OpR X (compareOp op) (rD X.K (memF neg)) := by
  cases op <;> first | (cases h; done) | skip
  · have e : neg = false := not_of' h
    subst e
    exact or_in hu
  · have e : neg = true := h
    subst e
    exact or_notin hu
theorem none_of {b : Expr} (h : noneB b = true) : ∃ j p, b = .Constant .none j p := by
  cases b <;> first | (cases h; done) | skip
  rename_i c j p
  cases c <;> first | (cases h; done) | exact ⟨j, p, rfl⟩
theorem negOne_of {m : Expr} (h : negOne m = true) : ∃ k p1 p2, m = .UnaryOp .USub (.Constant (.int 1) k p1) p2 := by
  cases m <;> first | (cases h; done) | skip
  rename_i op e p2
  cases op <;> first | (cases h; done) | skip
  cases e <;> first | (cases h; done) | skip
  rename_i c k p1
  cases c <;> first | (cases h; done) | skip
  have e := eq_of_beq h
  subst e
  exact ⟨k, p1, p2, rfl⟩
theorem zeroE_of {e : E} (h : zeroE e = true) : e = .int 0 := by
  cases e <;> first | (cases h; done) | skip
  have e := eq_of_beq h
  rw [e]
end Dz
set_option Elab.async false
set_option linter.all false
set_option maxRecDepth 100000
set_option maxHeartbeats 4000000
namespace Dz
open PySem PySem.Spec PyProof.Rows L2
section
variable {tb : Tab} {B : Wish} {n : Nat}
/-- a comprehension by its parts -/
theorem comp_parts {X : Cx} (G : Good tb B n X) {W : WX} {elt : E} {tg : Tg} {it : It} {ifs : L} {own : List Nat} {pelt ptg pit : Expr} {pifs : List Expr} {scope : Scope} {wi : IW} {wc : CW} {we : Ev → Nat → XR → Rs → Prop}
    (hI : PI X ptg pit (TIm X.K B W wi))
    (hE : ∀ (s : Shared) (H : Hp) (C : Addr) (cl : List (Str × Addr)) (fp : List Addr), PE (X.blk s H scope (compEnvC scope cl C X.env) fp) pelt (TDm X.K B noW .st we))
    (hC : ∀ (s : Shared) (H : Hp) (C : Addr) (cl : List (Str × Addr)) (fp : List Addr), PTs (X.blk s H scope (compEnvC scope cl C X.env) fp) pifs (TTm X.K B noW wc))
    (h2 : isTg (blkFn scope) X.N (relS scope X.env.scope) tg ptg = true) (h5 : blkC X.N X.env.scope scope (ownNames X.N own) = true) (h6 : (tg.has.all fun i => own.contains i) = true) (hf : isI.foldB pit = true) (pos : Pos) :
    PE X (.ListComp pelt [⟨ptg, pit, pifs, 0⟩] scope pos) (TDm X.K B W .fr (fun ρ g XX R => wi ρ g XX fun ds g0 => loopC (stepC tg wc we (wipeE ρ own)) ds [] g0 fun r g1 => R (.list r) g1)) ∧
    ∀ (i : Nat) (y : Str) (py spos : Pos), X.N[i]? = some y → X.env.scope.names.lookup y = some .local → swapsWith (.ListComp pelt [⟨ptg, pit, pifs, 0⟩] scope pos) (some (.Name y py)) spos.line X.env = pure true →
      PS X (.Assign [.Name y py] (.ListComp pelt [⟨ptg, pit, pifs, 0⟩] scope pos) spos) (tAsg (tLc (TIm X.K B W wi) (tgG X.K tg) (TTm X.K B noW wc) (TDm X.K B noW .st we) own) (gName i)) := by
  have htg : ∀ i ∈ tg.has, i ∈ own := fun i hi => by
    have q := List.all_eq_true.mp h6 i hi
    simpa using q
  have hG : ∀ (s : Shared) (H : Hp) (C : Addr) (cl : List (Str × Addr)) (fp : List Addr), PG (X.blk s H scope (compEnvC scope cl C X.env) fp) ptg (tgG X.K tg) := fun s H C cl fp =>
    tg_ok (X := X.blk s H scope (compEnvC scope cl C X.env) fp) (fnb := blkFn scope) (fun _ h => h) G.nd G.calm h2
  have e : (ownNames X.N own).map (·.2) = own := own_fst X.N own
  constructor
  · refine PE.imp (pe_lc G.calm G.nd hI (blkOk_by h5) hG hC hE (fun x => fold_of hf x)) fun σ H Q q => ?_
    rw [e]
    exact comp_ok htg q
  · intro i y py spos hy hyl hsw
    have r := ps_setLc (i := i) (y := y) (py := py) (spos := spos) G.calm G.nd hy hyl hsw hI (blkOk_by h5) hG hC hE (fun x => fold_of hf x)
    rw [e] at r
    exact r
/-- a comprehension of two clauses by its parts -/
theorem comp2_parts {X : Cx} (G : Good tb B n X) {W : WX} {tg1 tg2 : Tg} {own own2 : List Nat} {pelt ptg pit ptg2 pit2 : Expr} {pifs pifs2 : List Expr} {scope : Scope} {wi wi2 : IW} {wc wc2 : CW} {we : Ev → Nat → XR → Rs → Prop}
    (hI : PI X ptg pit (TIm X.K B W wi))
    (hE : ∀ (s : Shared) (H : Hp) (C : Addr) (cl : List (Str × Addr)) (fp : List Addr), PE (X.blk s H scope (compEnvC scope cl C X.env) fp) pelt (TDm X.K B noW .st we))
    (hC : ∀ (s : Shared) (H : Hp) (C : Addr) (cl : List (Str × Addr)) (fp : List Addr), PTs (X.blk s H scope (compEnvC scope cl C X.env) fp) pifs (TTm X.K B noW wc))
    (hI2 : ∀ (s : Shared) (H : Hp) (C : Addr) (cl : List (Str × Addr)) (fp : List Addr), PI (X.blk s H scope (compEnvC scope cl C X.env) fp) ptg2 pit2 (TIm X.K B noW wi2))
    (hC2 : ∀ (s : Shared) (H : Hp) (C : Addr) (cl : List (Str × Addr)) (fp : List Addr), PTs (X.blk s H scope (compEnvC scope cl C X.env) fp) pifs2 (TTm X.K B noW wc2))
    (h2 : isTg (blkFn scope) X.N (relS scope X.env.scope) tg1 ptg = true) (h3 : isTg (blkFn scope) X.N (relS scope X.env.scope) tg2 ptg2 = true) (h5 : blkC X.N X.env.scope scope (ownNames X.N own) = true) (h6 : (tg1.has.all fun i => own.contains i) = true) (h7 : (tg2.has.all fun i => own2.contains i) = true) (h8 : (own2.all fun i => own.contains i) = true)
    (hf : isI.foldB pit = true) (hf2 : isI.foldB pit2 = true) (pos : Pos) :
    PE X (.ListComp pelt [⟨ptg, pit, pifs, 0⟩, ⟨ptg2, pit2, pifs2, 0⟩] scope pos) (TDm X.K B W .fr (comp2W wi tg1 wc wi2 tg2 wc2 we own own2)) ∧
    ∀ (i : Nat) (y : Str) (py spos : Pos), X.N[i]? = some y → X.env.scope.names.lookup y = some .local → swapsWith (.ListComp pelt [⟨ptg, pit, pifs, 0⟩, ⟨ptg2, pit2, pifs2, 0⟩] scope pos) (some (.Name y py)) spos.line X.env = pure true →
      PS X (.Assign [.Name y py] (.ListComp pelt [⟨ptg, pit, pifs, 0⟩, ⟨ptg2, pit2, pifs2, 0⟩] scope pos) spos) (tAsg (tLc2 (TIm X.K B W wi) (tgG X.K tg1) (TTm X.K B noW wc) (TIm X.K B noW wi2) (tgG X.K tg2) (TTm X.K B noW wc2) (TDm X.K B noW .st we) own own2) (gName i)) := by
  have cont : ∀ {is js : List Nat}, (is.all fun i => js.contains i) = true → ∀ i ∈ is, i ∈ js := fun h i hi => by
    have q := List.all_eq_true.mp h i hi
    simpa using q
  have hG : ∀ {t : Tg} {p : Expr}, isTg (blkFn scope) X.N (relS scope X.env.scope) t p = true → ∀ (s : Shared) (H : Hp) (C : Addr) (cl : List (Str × Addr)) (fp : List Addr), PG (X.blk s H scope (compEnvC scope cl C X.env) fp) p (tgG X.K t) := fun h s H C cl fp =>
    tg_ok (X := X.blk s H scope (compEnvC scope cl C X.env) fp) (fnb := blkFn scope) (fun _ h => h) G.nd G.calm h
  have e : (ownNames X.N own).map (·.2) = own := own_fst X.N own
  have hv : ∀ i ∈ own2, i ∈ (ownNames X.N own).map (·.2) := fun i hi => by rw [e]; exact cont h8 i hi
  constructor
  · refine PE.imp (pe_lc2 G.calm G.nd hI (blkOk_by h5) hv (hG h2) hC hI2 (hG h3) hC2 hE (fun x => fold_of hf x) (fun env x => fold_any hf2 env x)) fun σ H Q q => ?_
    rw [e]
    exact comp2_ok (cont h6) (cont h7) q
  · intro i y py spos hy hyl hsw
    have r := ps_setLc2 (i := i) (y := y) (py := py) (spos := spos) G.calm G.nd hy hyl hsw hI (blkOk_by h5) hv (hG h2) hC hI2 (hG h3) hC2 hE (fun x => fold_of hf x) (fun env x => fold_any hf2 env x)
    rw [e] at r
    exact r
theorem fin {X : Cx} {W : WX} {e : E} {pe : Expr} (pk : Bool) (h : PE X pe (TDm X.K B W .st (wpE (Phi tb n) e))) (he : ∀ whole, isTrue pe X.env whole = (do let v ← whole; standAt pe.pos; holding [v] (truthy v))) :
    PE X pe (TDm X.K B W (mdOf pk) (wpE (Phi tb n) e)) ∧ (tOk e = true → PT X pe (TTm X.K B W (tst (wpE (Phi tb n) e)))) := ⟨up pk h, fun _ => sndT_val (PE.tp h) he⟩
mutual
theorem sndE : ∀ (e : E) (pk : Bool) (X : Cx) (W : WX) (pe : Expr), Good tb B n X → L2N.Takes X W → isE tb X.N e pk X.env.scope pe = true → PE X pe (TDm X.K B W (mdOf pk) (wpE (Phi tb n) e)) ∧ (tOk e = true → PT X pe (TTm X.K B W (tst (wpE (Phi tb n) e))))
  | .var i, pk, X, W, pe, G, tk, h => by
    cases pe <;> first | (cases h; done) | skip
    unfold isE at h
    obtain ⟨h1, h2, h3, h4⟩ := slot_of h
    exact fin pk (snd_var h1 h2 h3 h4) (fun _ => rfl)
  | .own i, pk, X, W, pe, G, tk, h => by
    cases pe <;> first | (cases h; done) | skip
    rename_i x p
    unfold isE at h
    obtain ⟨h0, h⟩ := and_of h
    subst h0
    obtain ⟨h1, h2, h3, h4⟩ := slot_of h
    have q := snd_own (pos := p) (X := X) (B := B) (W := W) h1 h2 h3 h4
    exact ⟨q, fun _ => sndT_val q (fun _ => rfl)⟩
  | .int i, pk, X, W, pe, G, tk, h => by
    cases pe <;> first | (cases h; done) | skip
    case Constant c j p =>
      cases c <;> first | (cases h; done) | skip
      unfold isE at h
      obtain rfl := eq_of_beq h
      exact fin pk snd_int (fun _ => rfl)
    case Name x p =>
      unfold isE at h
      obtain ⟨h1, h2⟩ := and_of h
      obtain ⟨g1, g2, g3⟩ := gl_of h2
      obtain ⟨t, e⟩ := G.cst x i (List.contains_iff_mem.mp h1)
      exact fin pk (snd_cst (pos := p) g1 e g2) (fun _ => rfl)
  | .bl i, pk, X, W, pe, G, tk, h => by
    cases pe <;> first | (cases h; done) | skip
    rename_i c _ _
    cases c <;> first | (cases h; done) | skip
    unfold isE at h
    obtain rfl := eq_of_beq h
    exact fin pk snd_bl (fun _ => rfl)
  | .non, pk, X, W, pe, G, tk, h => by
    cases pe <;> first | (cases h; done) | skip
    rename_i c _ _
    cases c <;> first | (cases h; done) | skip
    exact fin pk snd_non (fun _ => rfl)
  | .str i, pk, X, W, pe, G, tk, h => by
    cases pe <;> first | (cases h; done) | skip
    rename_i c _ _
    cases c <;> first | (cases h; done) | skip
    unfold isE at h
    obtain rfl := eq_of_beq h
    exact fin pk snd_str (fun _ => rfl)
  | .bin o a b, pk, X, W, pe, G, tk, h => by
    cases pe <;> first | (cases h; done) | skip
    unfold isE at h
    obtain ⟨h, h3⟩ := and_of h
    obtain ⟨h1, h2⟩ := and_of h
    exact fin pk (snd_op (isBin_ok h1) (sndE a true X W _ G tk h2).1 (sndE b true X W _ G tk h3).1) (fun _ => rfl)
  | .neg a, pk, X, W, pe, G, tk, h => by
    cases pe <;> first | (cases h; done) | skip
    rename_i op _ _
    cases op <;> first | (cases h; done) | skip
    unfold isE at h
    exact fin pk (snd_neg (sndE a true X W _ G tk h).1) (fun _ => rfl)
  | .cmp o a b, pk, X, W, pe, G, tk, h => by
    cases pe <;> first | (cases h; done) | skip
    rename_i a' ops cs p
    match ops, cs, h with
    | [op], [b'], h =>
      unfold isE at h
      obtain ⟨h, h3⟩ := and_of h
      obtain ⟨h1, h2⟩ := and_of h
      obtain ⟨q1, q2, q3⟩ := isCmp_ok (X := X) G.room.units h1
      have ha := (sndE a true X W _ G tk h2).1
      have hb := (sndE b true X W _ G tk h3).1
      exact ⟨up pk (snd_cmp q1 ha hb (nb_of q2 q3)), fun _ => sndT_cmp q1 ha hb (nb_of q2 q3)⟩
  | .and a b, pk, X, W, pe, G, tk, h => by
    cases pe <;> first | (cases h; done) | skip
    rename_i op vs p
    cases op <;> first | (cases h; done) | skip
    match vs, h with
    | [x, y], h =>
      unfold isE at h
      obtain ⟨h1, h2⟩ := and_of h
      have ha := sndE a true X W _ G tk h1
      have hb := sndE b true X W _ G tk h2
      refine ⟨up pk (snd_and ha.1 (pe_one hb.1)), fun ht => ?_⟩
      unfold tOk at ht
      obtain ⟨t1, t2⟩ := and_of ht
      exact PW.pt (sndW_and (ha.2 t1) (pw_and1 (hb.2 t2)))
    | x :: y :: z :: r, h =>
      unfold isE at h
      obtain ⟨h1, h2⟩ := and_of h
      have ha := sndE a true X W _ G tk h1
      have hb := sndE b true X W _ G tk h2
      refine ⟨up pk (snd_and ha.1 hb.1), fun ht => ?_⟩
      unfold tOk at ht
      obtain ⟨t1, t2⟩ := and_of ht
      exact PW.pt (sndW_and (ha.2 t1) (PT.pw (hb.2 t2)))
  | .or a b, pk, X, W, pe, G, tk, h => by
    cases pe <;> first | (cases h; done) | skip
    rename_i op vs p
    cases op <;> first | (cases h; done) | skip
    match vs, h with
    | [x, y], h =>
      unfold isE at h
      obtain ⟨h1, h2⟩ := and_of h
      have ha := sndE a true X W _ G tk h1
      have hb := sndE b true X W _ G tk h2
      refine ⟨up pk (snd_or ha.1 (pe_one hb.1)), fun ht => ?_⟩
      unfold tOk at ht
      obtain ⟨t1, t2⟩ := and_of ht
      exact PW.pt (sndW_or (ha.2 t1) (pw_or1 (hb.2 t2)))
    | x :: y :: z :: r, h =>
      unfold isE at h
      obtain ⟨h1, h2⟩ := and_of h
      have ha := sndE a true X W _ G tk h1
      have hb := sndE b true X W _ G tk h2
      refine ⟨up pk (snd_or ha.1 hb.1), fun ht => ?_⟩
      unfold tOk at ht
      obtain ⟨t1, t2⟩ := and_of ht
      exact PW.pt (sndW_or (ha.2 t1) (PT.pw (hb.2 t2)))
  | .not a, pk, X, W, pe, G, tk, h => by
    cases pe <;> first | (cases h; done) | skip
    rename_i op _ _
    cases op <;> first | (cases h; done) | skip
    unfold isE at h
    have ha := sndE a true X W _ G tk h
    refine ⟨up pk (snd_not ha.1), fun ht => ?_⟩
    unfold tOk at ht
    exact sndT_not (ha.2 ht)
  | .ite c a b, pk, X, W, pe, G, tk, h => by
    cases pe <;> first | (cases h; done) | skip
    unfold isE at h
    obtain ⟨h, h3⟩ := and_of h
    obtain ⟨h, h2⟩ := and_of h
    obtain ⟨h0, h1⟩ := and_of h
    exact ⟨up pk (snd_ite ((sndE c true X W _ G tk h1).2 h0) (sndE a false X W _ G tk h2).1 (sndE b false X W _ G tk h3).1), fun ht => by cases ht⟩
  | .tup es, pk, X, W, pe, G, tk, h => by
    cases pe <;> first | (cases h; done) | skip
    unfold isE at h
    exact fin pk (snd_tup (sndL es false X W _ G tk h)) (fun _ => rfl)
  | .lst es, pk, X, W, pe, G, tk, h => by
    cases pe <;> first | (cases h; done) | skip
    unfold isE at h
    exact fin pk (PE.thaw (snd_lst (sndL es false X W _ G tk h))) (fun _ => rfl)
  | .ix a i, pk, X, W, pe, G, tk, h => by
    cases pe <;> first | (cases h; done) | skip
    rename_i a' i' p
    have h' : (isE tb X.N a true X.env.scope a' && isE tb X.N i true X.env.scope i' && ixB i') = true := by
      cases i' <;> first | (cases h; done) | exact h
    obtain ⟨h, h3⟩ := and_of h'
    obtain ⟨h1, h2⟩ := and_of h
    exact fin pk (snd_ix (sndE a true X W _ G tk h1).1 (sndE i true X W _ G tk h2).1 (ix_of h3)) (fun _ => rfl)
  | .slice a lo hi, pk, X, W, pe, G, tk, h => by
    cases pe <;> first | (cases h; done) | skip
    rename_i a' i' p
    cases i' <;> first | (cases h; done) | skip
    rename_i lo' hi' st p'
    cases st <;> first | (cases h; done) | skip
    unfold isE at h
    obtain ⟨h, h3⟩ := and_of h
    obtain ⟨h1, h2⟩ := and_of h
    exact fin pk (snd_slice (sndE a true X W _ G tk h1).1 (sndO lo X W _ G tk h2) (sndO hi X W _ G tk h3)) (fun _ => rfl)
  | .call f as, pk, X, W, pe, G, tk, h => by
    cases pe <;> first | (cases h; done) | skip
    rename_i fe es kws pos
    cases fe <;> first | (cases h; done) | skip
    rename_i x p
    cases kws <;> first | (cases h; done) | skip
    unfold isE at h
    obtain ⟨h, h3⟩ := and_of h
    obtain ⟨h1, h2⟩ := and_of h
    obtain ⟨g1, g2, g3⟩ := gl_of h2
    cases hd : tb.defs[f]? with
    | none => rw [hd] at h1; cases h1
    | some d =>
      rw [hd] at h1
      have ex : x = d.name := beqS h1
      subst ex
      obtain ⟨ad, fd, q1, q2, q3, q4⟩ := G.fn f d hd
      cases es with
      | nil =>
        cases as <;> first | (cases h3; done) | skip
        exact fin pk (snd_call0 (φ := Phi tb n f) (phi_len hd n) q4 G.room G.gd g1 q1 q2 q3 tk g2) (fun _ => rfl)
      | cons e0 er =>
        have hs := isA_star as (e0 :: er) pos h3
        have hp : plainB e0 = true := by
          cases as with
          | nil => cases h3
          | cons _ _ =>
            unfold isA at h3
            exact (and_of (and_of h3).1).1
          | st _ _ => cases e0 <;> first | (cases h3; done) | rfl
        refine fin pk (snd_call (φ := Phi tb n f) (phi_len hd n) q4 G.room G.gd g1 q1 q2 q3 tk (sndA as X W _ G tk h3) g2 (star_of hp) ?_) (fun _ => rfl)
        rw [star_of hp] at hs
        have hs' : (false || (backTo pos (starEach er X.env)).any (·.1)) = false := hs
        rwa [Bool.false_or] at hs'
  | .draw i m, pk, X, W, pe, G, tk, h => by
    cases pe <;> first | (cases h; done) | skip
    rename_i fe es kws pos
    cases fe <;> first | (cases h; done) | skip
    rename_i x p
    match es, kws, h with
    | [.Name y' py, m'], [], h =>
      unfold isE at h
      obtain ⟨h, h4⟩ := and_of h
      obtain ⟨h, h3⟩ := and_of h
      obtain ⟨h, h2⟩ := and_of h
      obtain ⟨h0, h1⟩ := and_of h
      have ex : x = "_law_next" := beqS h0
      subst ex
      obtain ⟨g1, g2, g3⟩ := gl_of h1
      obtain ⟨ad, fd, ps, q1, q2, q3, q4⟩ := G.draw
      obtain ⟨s1, s2, s3, s4⟩ := slot_of h2
      exact fin pk (snd_draw q4 G.room G.gd g1 q1 q2 q3 tk s1 s2 s3 s4 (sndE m true X W _ G tk h4).1 g2 (star_of h3)) (fun _ => rfl)
  | .fn b as, pk, X, W, pe, G, tk, h => by
    cases pe <;> first | (cases h; done) | skip
    rename_i fe es kws pos
    cases fe <;> first | (cases h; done) | skip
    rename_i x p
    cases es <;> first | (cases h; done) | skip
    cases kws <;> first | (cases h; done) | skip
    rename_i e0 er
    unfold isE at h
    obtain ⟨h, h3⟩ := and_of h
    obtain ⟨h1, h2⟩ := and_of h
    have h0 := h1
    obtain ⟨g1, g2, g3⟩ := gl_of h2
    have hs := isL_star as (e0 :: er) pos h3
    have hp : plainB e0 = true := by
      cases as with
      | nil => cases h3
      | cons _ _ =>
        unfold isL at h3
        exact (and_of (and_of h3).1).1
      | star _ _ =>
        cases e0 <;> cases h3
    have ex : x = fnName b := beqS h0
    refine fin pk (cf_fn G.calm (by have := G.room.un; omega) G.gd b ex g1 (by rw [ex]; exact G.blt _ (blt_fn b)) g2 g3 (sndL as true X W _ G tk h3) (star_of hp) ?_) (fun _ => rfl)
    rw [star_of hp] at hs
    have hs' : (false || (backTo pos (starEach er X.env)).any (·.1)) = false := hs
    rwa [Bool.false_or] at hs'
  | .comp elt tg it ifs own, pk, X, W, pe, G, tk, h => by
    cases pe <;> first | (cases h; done) | skip
    rename_i pelt gens scope pos
    match gens, h with
    | [⟨ptg, pit, pifs, 0⟩], h =>
      unfold isE at h
      obtain ⟨h, h6⟩ := and_of h
      obtain ⟨h, hnt⟩ := and_of h
      obtain ⟨h, h5⟩ := and_of h
      obtain ⟨h, h4⟩ := and_of h
      obtain ⟨h, h3⟩ := and_of h
      obtain ⟨h1, h2⟩ := and_of h
      have q := comp_parts G (W := W) (elt := elt) (it := it) (ifs := ifs) (sndI it X W ptg pit G tk h3).1
        (fun s H C cl fp => (sndE elt false (X.blk s H scope (compEnvC scope cl C X.env) fp) noW pelt (G.blk s H scope _ fp hnt) (takesN0) h1).1)
        (fun s H C cl fp => sndC ifs (X.blk s H scope (compEnvC scope cl C X.env) fp) noW pifs (G.blk s H scope _ fp hnt) (takesN0) h4) h2 h5 h6 (sndI it X W ptg pit G tk h3).2 pos
      exact fin pk (PE.thaw q.1) (fun _ => rfl)
  | .fmt es, pk, X, W, pe, G, tk, h => by
    cases pe <;> first | (cases h; done) | skip
    rename_i vs pos
    match vs, h with
    | v1 :: v2 :: r, h =>
      unfold isE at h
      exact fin pk (snd_fmt (sndJ es X W _ G tk h)) (fun _ => rfl)
  | .chain o1 o2 a b c, pk, X, W, pe, G, tk, h => by
    cases pe <;> first | (cases h; done) | skip
    rename_i a' ops cs p
    match ops, cs, h with
    | [op, op'], [b', c'], h =>
      unfold isE at h
      obtain ⟨h, h5⟩ := and_of h
      obtain ⟨h, h4⟩ := and_of h
      obtain ⟨h, h3⟩ := and_of h
      obtain ⟨h1, h2⟩ := and_of h
      obtain ⟨q1, _, _⟩ := isCmp_ok (X := X) G.room.units h1
      obtain ⟨q2, q3, q4⟩ := isCmp_ok (X := X) G.room.units h2
      have ha := (sndE a true X W _ G tk h3).1
      have hb := (sndE b true X W _ G tk h4).1
      have hc := (sndE c true X W _ G tk h5).1
      exact ⟨up pk (snd_chain q1 q2 ha hb hc (marks_of q3 q4)), fun _ => sndT_chain q1 q2 ha hb hc (marks_of q3 q4)⟩
  | .told e own, pk, X, W, pe, G, tk, h => by
    cases pe <;> first | (cases h; done) | skip
    rename_i f as ks pos
    match f, as, ks, h with
    | .Name x p, [.Lambda a b scope lp], [], h =>
      unfold isE at h
      obtain ⟨h, h4⟩ := and_of h
      obtain ⟨h, h3⟩ := and_of h
      obtain ⟨h1, h2⟩ := and_of h
      have ex := beqS h1
      subst ex
      obtain ⟨g1, g2, g3⟩ := gl_of h2
      obtain ⟨pa, LP, LN, hown, hnt⟩ := lamB_ok h3
      obtain ⟨TF, TX, hrm⟩ := G.td g1
      refine fin pk (snd_told (k := rm n) TF TX g1 LP LN hown hrm fun A outer s H E f c' hgd hr => ?_) (fun _ => rfl)
      exact (sndE e false (lamCxN X A outer s H E scope f c') (fun cls dd _ H => E cls dd H) b ⟨rfl, G.nd, hr, (show A.guards = some [] from hgd.trans G.gd), G.blt, G.fn, G.draw, G.cst, G.tup, fun hl => by
        have hl' : scope.names.lookup ("_law_told" : Str) = some NameKind.globalImplicit := hl
        unfold notTold at hnt
        rw [hl'] at hnt
        cases hnt⟩ (L2N.takes_of rfl rfl rfl rfl) h4).1
  | .ctup ls, pk, X, W, pe, G, tk, h => by
    cases pe <;> first | (cases h; done) | skip
    rename_i x p
    unfold isE at h
    obtain ⟨h1, h2⟩ := and_of h
    obtain ⟨g1, g2, g3⟩ := gl_of h2
    obtain ⟨a, e, r⟩ := G.tup x ls (List.contains_iff_mem.mp h1)
    exact fin pk (snd_ctup (pos := p) g1 e g2 r) (fun _ => rfl)
  | .isn neg a, pk, X, W, pe, G, tk, h => by
    cases pe <;> first | (cases h; done) | skip
    rename_i a' ops cs p
    match ops, cs, h with
    | [op], [b'], h =>
      unfold isE at h
      obtain ⟨h, h3⟩ := and_of h
      obtain ⟨h1, h2⟩ := and_of h
      obtain ⟨j, pp, eb⟩ := none_of h3
      subst eb
      obtain ⟨q1, q2, q3⟩ := isIs_ok (X := X) h1
      have ha := (sndE a true X W _ G tk h2).1
      have hb := PE.tp (snd_non (X := X) (B := B) (W := W) (pos := pp) (j := j))
      exact ⟨up pk (snd_cmp q1 ha hb (nb_of q2 q3)), fun _ => sndT_cmp q1 ha hb (nb_of q2 q3)⟩
  | .mem neg a b, pk, X, W, pe, G, tk, h => by
    cases pe <;> first | (cases h; done) | skip
    rename_i a' ops cs p
    match ops, cs, h with
    | [op], [b'], h =>
      unfold isE at h
      obtain ⟨h, h4⟩ := and_of h
      obtain ⟨h, h3⟩ := and_of h
      obtain ⟨h1, h2⟩ := and_of h
      have q1 := isIn_ok (X := X) (by have := G.room.un; omega) h1
      have ha := (sndE a true X W _ G tk h2).1
      have hb := (sndE b true X W _ G tk h3).1
      exact ⟨up pk (snd_cmp q1 ha hb (not_of' h4)), fun _ => sndT_cmp q1 ha hb (not_of' h4)⟩
  | .sset a, pk, X, W, pe, G, tk, h => by
    cases pe <;> first | (cases h; done) | skip
    rename_i f as ks pos
    match f, as, ks, h with
    | .Name x p, [.Call (.Name y p2) [a'] [] q], [], h =>
      unfold isE at h
      obtain ⟨h, h6⟩ := and_of h
      obtain ⟨h, h5⟩ := and_of h
      obtain ⟨h, h4⟩ := and_of h
      obtain ⟨h, h3⟩ := and_of h
      obtain ⟨h1, h2⟩ := and_of h
      have e1 := beqS h1
      have e2 := beqS h3
      subst e1 e2
      exact fin pk (snd_sset G.calm (gl_of h2).1 (G.blt _ (by decide +kernel)) (gl_of h4).1 (G.blt _ (by decide +kernel)) (sndE a true X W a' G tk h6).1 (star_of h5)) (fun _ => rfl)
  | .lset a, pk, X, W, pe, G, tk, h => by
    cases pe <;> first | (cases h; done) | skip
    rename_i f as ks pos
    match f, as, ks, h with
    | .Name x p, [.Call (.Name y p2) [a'] [] q], [], h =>
      unfold isE at h
      obtain ⟨h, h6⟩ := and_of h
      obtain ⟨h, h5⟩ := and_of h
      obtain ⟨h, h4⟩ := and_of h
      obtain ⟨h, h3⟩ := and_of h
      obtain ⟨h1, h2⟩ := and_of h
      have e1 := beqS h1
      have e2 := beqS h3
      subst e1 e2
      exact fin pk (snd_lset G.calm (gl_of h2).1 (G.blt _ (by decide +kernel)) (gl_of h4).1 (G.blt _ (by decide +kernel)) (sndE a true X W a' G tk h6).1 (star_of h5)) (fun _ => rfl)
  | .rngL t a b, pk, X, W, pe, G, tk, h => by
    cases pe <;> first | (cases h; done) | skip
    rename_i f as ks pos
    match f, as, ks, h with
    | .Name x p, [.Call (.Name y p2) [b'] [] q], [], h =>
      unfold isE at h
      obtain ⟨h, h7⟩ := and_of h
      obtain ⟨h, h6⟩ := and_of h
      obtain ⟨h, h5⟩ := and_of h
      obtain ⟨h, h4⟩ := and_of h
      obtain ⟨h, h3⟩ := and_of h
      obtain ⟨h1, h2⟩ := and_of h
      have e1 := beqS h1
      have e2 := beqS h3
      have e3 := zeroE_of h5
      subst e1 e2 e3
      have hm : X.mg (seqName t) = none := G.blt _ (by cases t <;> decide +kernel)
      exact fin pk (snd_rng1 t G.calm (gl_of h2).1 hm (gl_of h4).1 (G.blt _ (by decide +kernel)) (sndE b true X W b' G tk h7).1 (star_of h6)) (fun _ => rfl)
    | .Name x p, [.Call (.Name y p2) [a', b'] [] q], [], h =>
      unfold isE at h
      obtain ⟨h, h8⟩ := and_of h
      obtain ⟨h, h7⟩ := and_of h
      obtain ⟨h, h6⟩ := and_of h
      obtain ⟨h, h5⟩ := and_of h
      obtain ⟨h, h4⟩ := and_of h
      obtain ⟨h, h3⟩ := and_of h
      obtain ⟨h1, h2⟩ := and_of h
      have e1 := beqS h1
      have e2 := beqS h3
      subst e1 e2
      have hm : X.mg (seqName t) = none := G.blt _ (by cases t <;> decide +kernel)
      exact fin pk (snd_rng2 t G.calm (gl_of h2).1 hm (gl_of h4).1 (G.blt _ (by decide +kernel)) (sndE a true X W a' G tk h6).1 (sndE b true X W b' G tk h8).1 (star_of h5) (star_of h7) (by rw [star_of h7]; rfl)) (fun _ => rfl)
  | .comp2 elt tg1 it1 ifs1 tg2 it2 ifs2 own own2, pk, X, W, pe, G, tk, h => by
    cases pe <;> first | (cases h; done) | skip
    rename_i pelt gens scope pos
    match gens, h with
    | [⟨ptg, pit, pifs, 0⟩, ⟨ptg2, pit2, pifs2, 0⟩], h =>
      unfold isE at h
      obtain ⟨h, k12⟩ := and_of h
      obtain ⟨h, k11⟩ := and_of h
      obtain ⟨h, k10⟩ := and_of h
      obtain ⟨h, k9⟩ := and_of h
      obtain ⟨h, k8⟩ := and_of h
      obtain ⟨h, k7⟩ := and_of h
      obtain ⟨h, k6⟩ := and_of h
      obtain ⟨h, k5⟩ := and_of h
      obtain ⟨h, k4⟩ := and_of h
      obtain ⟨h, k3⟩ := and_of h
      obtain ⟨k1, k2⟩ := and_of h
      have i1 := sndI it1 X W ptg pit G tk k3
      have i2 := fun (s : Shared) (H : Hp) (C : Addr) (cl : List (Str × Addr)) (fp : List Addr) => sndI it2 (X.blk s H scope (compEnvC scope cl C X.env) fp) noW ptg2 pit2 (G.blk s H scope _ fp k9) takesN0 k6
      have q := comp2_parts G (W := W) i1.1
        (fun s H C cl fp => (sndE elt false (X.blk s H scope (compEnvC scope cl C X.env) fp) noW pelt (G.blk s H scope _ fp k9) (takesN0) k1).1)
        (fun s H C cl fp => sndC ifs1 (X.blk s H scope (compEnvC scope cl C X.env) fp) noW pifs (G.blk s H scope _ fp k9) (takesN0) k4)
        (fun s H C cl fp => (i2 s H C cl fp).1)
        (fun s H C cl fp => sndC ifs2 (X.blk s H scope (compEnvC scope cl C X.env) fp) noW pifs2 (G.blk s H scope _ fp k9) (takesN0) k7) k2 k5 k8 k10 k11 k12 i1.2 (isI_fold k6) pos
      exact fin pk (PE.thaw q.1) (fun _ => rfl)
  | .rev a, pk, X, W, pe, G, tk, h => by
    cases pe <;> first | (cases h; done) | skip
    rename_i a' i' p
    cases i' <;> first | (cases h; done) | skip
    rename_i lo' hi' st p'
    match lo', hi', st, h with
    | none, none, some m, h =>
      unfold isE at h
      obtain ⟨h1, h2⟩ := and_of h
      obtain ⟨k, p1, p2, em⟩ := negOne_of h1
      subst em
      exact fin pk (snd_rev (sndE a true X W _ G tk h2).1) (fun _ => rfl)
theorem sndL : ∀ (es : L) (pk : Bool) (X : Cx) (W : WX) (pes : List Expr), Good tb B n X → L2N.Takes X W → isL tb X.N es pk X.env.scope pes = true → PA X pes (TAm X.K B W (mdOf pk) (wpL (Phi tb n) es))
  | .nil, pk, X, W, [], G, tk, h => sndL_nil
  | .nil, pk, X, W, _ :: _, G, tk, h => by cases h
  | .cons e r, pk, X, W, [], G, tk, h => by cases h
  | .cons e r, pk, X, W, pe :: pr, G, tk, h => by
    unfold isL at h
    obtain ⟨h, h2⟩ := and_of h
    obtain ⟨h0, h1⟩ := and_of h
    exact sndL_cons (keeps_md pk) (sndE e pk X W pe G tk h1).1 (sndL r pk X W pr G tk h2) (star_of h0)
  | .star e r, pk, X, W, [], G, tk, h => by cases h
  | .star e r, pk, X, W, pe :: pr, G, tk, h => by
    cases pe <;> first | (cases h; done) | skip
    unfold isL at h
    obtain ⟨h, h2⟩ := and_of h
    obtain ⟨h0, h1⟩ := and_of h
    have e0 := not_of' h0
    subst e0
    exact sndL_star (sndE e false X W _ G tk h1).1 (sndL r false X W pr G tk h2)
theorem sndC : ∀ (es : L) (X : Cx) (W : WX) (pes : List Expr), Good tb B n X → L2N.Takes X W → isC tb X.N es X.env.scope pes = true → PTs X pes (TTm X.K B W (wpC (Phi tb n) es))
  | .nil, X, W, [], G, tk, h => sndC_nil
  | .nil, X, W, _ :: _, G, tk, h => by cases h
  | .cons e .nil, X, W, [pe], G, tk, h => by
    unfold isC at h
    obtain ⟨h0, h1⟩ := and_of h
    exact sndC_one ((sndE e true X W pe G tk h1).2 h0)
  | .cons e .nil, X, W, [], G, tk, h => by cases h
  | .cons e .nil, X, W, _ :: _ :: _, G, tk, h => by cases h
  | .cons e (.cons _ _), X, W, pes, G, tk, h => by cases pes <;> cases h
  | .cons e (.star _ _), X, W, pes, G, tk, h => by cases pes <;> cases h
  | .star e r, X, W, pes, G, tk, h => by cases pes <;> cases h
theorem sndJ : ∀ (es : L) (X : Cx) (W : WX) (pes : List Expr), Good tb B n X → L2N.Takes X W → isJ tb X.N es X.env.scope pes = true → PJd X B W pes (wpJ (Phi tb n) es)
  | .nil, X, W, [], G, tk, h => sndJ_nil
  | .nil, X, W, _ :: _, G, tk, h => by cases h
  | .star e r, X, W, pes, G, tk, h => by cases pes <;> cases h
  | .cons e r, X, W, [], G, tk, h => by cases h
  | .cons e r, X, W, v :: pr, G, tk, h => by
    unfold isJ at h
    obtain ⟨h1, h2⟩ := and_of h
    cases v <;> first | (cases h1; done) | skip
    · rename_i e' c fs p
      cases fs <;> first | (cases h1; done) | skip
      obtain ⟨h0, h1⟩ := and_of h1
      obtain rfl := eq_of_beq h0
      exact sndJ_fmt (sndE e true X W e' G tk h1).1 (sndJ r X W pr G tk h2)
    · rename_i c k p
      cases c <;> first | (cases h1; done) | skip
      cases e <;> first | (cases h1; done) | skip
      obtain rfl := eq_of_beq h1
      exact sndJ_str (sndJ r X W pr G tk h2)
theorem sndA : ∀ (es : A) (X : Cx) (W : WX) (pes : List Expr), Good tb B n X → L2N.Takes X W → isA tb X.N es X.env.scope pes = true → PA X pes (TGm X.K B W (wpA (Phi tb n) es))
  | .nil, X, W, [], G, tk, h => sndA_nil
  | .nil, X, W, _ :: _, G, tk, h => by cases h
  | .cons e r, X, W, [], G, tk, h => by cases h
  | .cons e r, X, W, pe :: pr, G, tk, h => by
    unfold isA at h
    obtain ⟨h, h2⟩ := and_of h
    obtain ⟨h0, h1⟩ := and_of h
    exact sndA_cons (sndE e false X W pe G tk h1).1 (sndA r X W pr G tk h2) (star_of h0)
  | .st i r, X, W, [], G, tk, h => by cases h
  | .st i r, X, W, pe :: pr, G, tk, h => by
    cases pe <;> first | (cases h; done) | skip
    unfold isA at h
    obtain ⟨h1, h2⟩ := and_of h
    obtain ⟨s1, s2, s3, s4⟩ := slot_of h1
    exact sndA_st s1 s2 s3 s4 (sndA r X W pr G tk h2)
theorem sndO : ∀ (o : O) (X : Cx) (W : WX) (pe : Option Expr), Good tb B n X → L2N.Takes X W → isO tb X.N o X.env.scope pe = true → PO X pe (TOm X.K B W (wpO (Phi tb n) o))
  | .no, X, W, none, G, tk, h => sndO_no
  | .no, X, W, some _, G, tk, h => by cases h
  | .ye e, X, W, none, G, tk, h => by cases h
  | .ye e, X, W, some pe, G, tk, h => by
    unfold isO at h
    exact sndO_ye (sndE e true X W pe G tk h).1
theorem sndI : ∀ (i : It) (X : Cx) (W : WX) (tg pe : Expr), Good tb B n X → L2N.Takes X W → isI tb X.N i X.env.scope tg pe = true → PI X tg pe (TIm X.K B W (wpI (Phi tb n) i)) ∧ isI.foldB pe = true
  | .of e, X, W, tg, pe, G, tk, h => by
    unfold isI at h
    obtain ⟨h1, h2⟩ := and_of h
    exact ⟨sndI_of (sndE e false X W pe G tk h1).1, h2⟩
  | .range1 b, X, W, tg, pe, G, tk, h => by
    cases pe <;> first | (cases h; done) | skip
    rename_i fe es kws pos
    cases fe <;> first | (cases h; done) | skip
    rename_i x p
    match es, kws, h with
    | [b'], [], h =>
      unfold isI at h
      obtain ⟨h, h4⟩ := and_of h
      obtain ⟨h, h3⟩ := and_of h
      obtain ⟨h1, h2⟩ := and_of h
      have ex : x = "range" := beqS h1
      subst ex
      exact ⟨sndI_range1 (gl_of h2).1 (G.blt _ (by decide +kernel)) (sndE b true X W b' G tk h4).1 (star_of h3), rfl⟩
  | .range a b, X, W, tg, pe, G, tk, h => by
    cases pe <;> first | (cases h; done) | skip
    rename_i fe es kws pos
    cases fe <;> first | (cases h; done) | skip
    rename_i x p
    match es, kws, h with
    | [a', b'], [], h =>
      unfold isI at h
      obtain ⟨h, h6⟩ := and_of h
      obtain ⟨h, h5⟩ := and_of h
      obtain ⟨h, h4⟩ := and_of h
      obtain ⟨h, h3⟩ := and_of h
      obtain ⟨h1, h2⟩ := and_of h
      have ex : x = "range" := beqS h1
      subst ex
      exact ⟨sndI_range (gl_of h2).1 (G.blt _ (by decide +kernel)) (sndE a true X W a' G tk h4).1 (sndE b true X W b' G tk h6).1 (by rw [star_of h3, star_of h5]; rfl) (star_of h5), rfl⟩
  | .zip a b, X, W, tg, pe, G, tk, h => by
    cases tg <;> first | (cases h; done) | skip
    cases pe <;> first | (cases h; done) | skip
    rename_i fe es kws pos
    cases fe <;> first | (cases h; done) | skip
    rename_i x p
    match es, kws, h with
    | [a', b'], [], h =>
      unfold isI at h
      obtain ⟨h, h6⟩ := and_of h
      obtain ⟨h, h5⟩ := and_of h
      obtain ⟨h, h4⟩ := and_of h
      obtain ⟨h, h3⟩ := and_of h
      obtain ⟨h1, h2⟩ := and_of h
      have ex : x = "zip" := beqS h1
      subst ex
      exact ⟨sndI_zip (gl_of h2).1 (G.blt _ (by decide +kernel)) (sndE a false X W a' G tk h4).1 (sndE b false X W b' G tk h6).1 (star_of h3) (star_of h5), rfl⟩
  | .enum a, X, W, tg, pe, G, tk, h => by
    cases tg <;> first | (cases h; done) | skip
    cases pe <;> first | (cases h; done) | skip
    rename_i fe es kws pos
    cases fe <;> first | (cases h; done) | skip
    rename_i x p
    match es, kws, h with
    | [a'], [], h =>
      unfold isI at h
      obtain ⟨h, h4⟩ := and_of h
      obtain ⟨h, h3⟩ := and_of h
      obtain ⟨h1, h2⟩ := and_of h
      have ex : x = "enumerate" := beqS h1
      subst ex
      exact ⟨sndI_enum (gl_of h2).1 (G.blt _ (by decide +kernel)) (sndE a false X W a' G tk h4).1 (star_of h3), rfl⟩
  | .down a b, X, W, tg, pe, G, tk, h => by
    cases pe <;> first | (cases h; done) | skip
    rename_i fe es kws pos
    cases fe <;> first | (cases h; done) | skip
    rename_i x p
    match es, kws, h with
    | [a', b', m], [], h =>
      unfold isI at h
      obtain ⟨h, h7⟩ := and_of h
      obtain ⟨h, h6⟩ := and_of h
      obtain ⟨h, h5⟩ := and_of h
      obtain ⟨h, h4⟩ := and_of h
      obtain ⟨h, h3⟩ := and_of h
      obtain ⟨h1, h2⟩ := and_of h
      have ex : x = "range" := beqS h1
      subst ex
      obtain ⟨k, p1, p2, em⟩ := negOne_of h7
      subst em
      exact ⟨sndI_down (gl_of h2).1 (G.blt _ (by decide +kernel)) (sndE a true X W a' G tk h4).1 (sndE b true X W b' G tk h6).1 (star_of h3) (star_of h5), rfl⟩
end
end
end Dz
set_option Elab.async false
set_option linter.all false
set_option maxRecDepth 100000
set_option maxHeartbeats 4000000
namespace Dz
open PySem PySem.Spec PyProof.Rows L2
def locB (sc : Scope) (x : Str) : Bool := sc.names.lookup x == some .local || sc.names.lookup x == some .cell
def cellB (sc : Scope) (x : Str) : Bool := sc.names.lookup x == some .cell
/-- a value that is no comprehension -/
def noComp : Expr → Bool
  | .ListComp .. => false
  | .SetComp .. => false
  | .DictComp .. => false
  | _ => true
/-- how a comprehension goes to a name: at once (a local, on one line), or as any value (a cell) -/
def atOnce (sc : Scope) (x : Str) (xpos : Pos) : Expr → Bool
  | .ListComp _ _ scope pos => sc.names.lookup x == some .local && xpos.line == pos.line && !(scope.names.any fun (n, k) => n == x && (k == .local || k == .cell))
  | _ => false
def noTup : Expr → Bool
  | .Tuple .. => false
  | _ => true
def isFr : E → Bool
  | .lst _ => true
  | .comp .. => true
  | .comp2 .. => true
  | _ => false
def exName : Nat → Str
  | 0 => "NotAllowed"
  | 1 => "TooLarge"
  | _ => "Missing"
def zeroB : Expr → Bool
  | .Constant c _ _ => (match c with | .int i => i == 0 | _ => false)
  | _ => false
/-- X('..') -/
def excB (n : Nat) (sc : Scope) : Expr → Bool
  | .Call f [a] [] _ => (match f with | .Name x _ => x == exName n && glB sc x | _ => false) && (match a with | .Constant c _ _ => (match c with | .str _ => true | _ => false) | _ => false)
  | _ => false
def swapB (sc : Scope) (px : Pos) : List Expr → Bool
  | [] => true
  | .Name x p :: r => sc.names.lookup x == some .local && p.line == px.line && swapB sc px r
  | _ => false
def isTupB : Expr → Bool
  | .Tuple .. => true
  | _ => false
def namesT : Expr → List Expr
  | .Tuple es _ _ => es
  | _ => []
def itemsT : Expr → List Expr
  | .Tuple es _ _ => es
  | _ => []
/-- two or three names that get as many values at once -/
def parB (N : List Str) : List Nat → Scope → List Expr → List Expr → Bool
  | [i, j], sc, ts, vs => ts.length == 2 && vs.length == 2 && nameAt N i (ts.getD 0 (.Starred (.Constant .none 0 ⟨0, 0, 0, 0⟩) ⟨0, 0, 0, 0⟩)) && nameAt N j (ts.getD 1 (.Starred (.Constant .none 0 ⟨0, 0, 0, 0⟩) ⟨0, 0, 0, 0⟩)) && !(i == j) && swapB sc (posAt ts) ts && !(vs.all (foldedForSure 8)) && !(vs.all (constantsAlone 8))
  | [i, j, l], sc, ts, vs => ts.length == 3 && vs.length == 3 && nameAt N i (ts.getD 0 (.Starred (.Constant .none 0 ⟨0, 0, 0, 0⟩) ⟨0, 0, 0, 0⟩)) && nameAt N j (ts.getD 1 (.Starred (.Constant .none 0 ⟨0, 0, 0, 0⟩) ⟨0, 0, 0, 0⟩)) && nameAt N l (ts.getD 2 (.Starred (.Constant .none 0 ⟨0, 0, 0, 0⟩) ⟨0, 0, 0, 0⟩)) &&
      !(i == j) && !(i == l) && !(j == l) && swapB sc (posAt ts) ts && !(vs.all (foldedForSure 8)) && !(vs.all (constantsAlone 8))
  | _, _, _, _ => false
where
  nameAt (N : List Str) (i : Nat) : Expr → Bool
    | .Name x _ => N[i]? == some x
    | _ => false
  posAt : List Expr → Pos
    | .Name _ p :: _ => p
    | _ => ⟨0, 0, 0, 0⟩
section
variable (tb : Tab) (N : List Str)
def isFreshE : E → Scope → Expr → Bool
  | .lst es, sc, .List es' p => isE tb N (.lst es) false sc (.List es' p)
  | .comp a b c d e, sc, .ListComp x y z p => isE tb N (.comp a b c d e) false sc (.ListComp x y z p)
  | .comp2 a b c d e f g i j, sc, .ListComp x y z p => isE tb N (.comp2 a b c d e f g i j) false sc (.ListComp x y z p)
  | _, _, _ => false
def isLX : L → List Bool → Scope → List Expr → Bool
  | .nil, [], _, [] => true
  | .cons e r, b :: bs, sc, e' :: r' => plainB e' && (if b = true then isFreshE tb N e sc e' else isE tb N e false sc e') && isLX r bs sc r'
  | _, _, _, _ => false
def isPopB (sc : Scope) (i : Nat) : Expr → Bool
  | .Call (.Attribute (.Name x _) m ap) [] [] cp => m == ("pop" : Str) && slotB N sc i x && ap.endLine == cp.line
  | _ => false
variable (mk : Bool) (xs : List Nat)
mutual
def isS : S → Scope → Stmt → Bool
  | .set i e, sc, .Assign [.Name x xp] e' _ => N[i]? == some x && locB sc x && isE tb N e false sc e' && (noComp e' || cellB sc x || atOnce sc x xp e')
  | .setO i e, sc, .Assign [.Name x xp] e' _ => N[i]? == some x && locB sc x && isFreshE tb N e sc e' && (noComp e' || cellB sc x || atOnce sc x xp e')
  | .mkst i e, sc, .Assign [.Name x _] (.List [e', z] _) _ => N[i]? == some x && locB sc x && plainB e' && isE tb N e false sc e' && zeroB z && mk
  | .par is es, sc, .Assign [t] v _ => parB N is sc (namesT t) (itemsT v) && isL tb N es false sc (itemsT v) && isTupB t && isTupB v && (itemsT v).all plainB
  | .parX is es fl, sc, .Assign [t] v _ => parB N is sc (namesT t) (itemsT v) && isLX tb N es fl sc (itemsT v) && isTupB t && isTupB v && (itemsT v).all plainB
  | .expr e, sc, .Expr e' _ => isE tb N e false sc e' && noComp e'
  | .pop t i, sc, .Assign [t'] e' _ => isTg (fun _ => true) N sc t t' && isPopB N sc i e'
  | .extend i e, sc, .Expr (.Call (.Attribute (.Name x _) m ap) [e'] [] cp) _ => m == ("extend" : Str) && slotB N sc i x && plainB e' && isFreshE tb N e sc e' && ap.endLine == cp.line
  | .unpack is e, sc, .Assign [.Tuple ts k p] e' _ => isTg (fun _ => true) N sc (.t is) (.Tuple ts k p) && isE tb N e false sc e' && noTup e'
  | .append i e, sc, .Expr (.Call (.Attribute (.Name x _) m ap) [e'] [] cp) _ => m == ("append" : Str) && slotB N sc i x && plainB e' && isE tb N e false sc e' && ap.endLine == cp.line
  | .ifs c a b, sc, .If c' a' b' _ => tOk c && isE tb N c true sc c' && isSL a sc a' && isSL b sc b'
  | .for_ tg it b, sc, .For tg' it' b' [] _ => isTg (fun _ => true) N sc tg tg' && isI tb N it sc tg' it' && isSL b sc b'
  | .while_ c b, sc, .While c' b' [] _ => tOk c && isE tb N c true sc c' && isSL b sc b'
  | .ret e, sc, .Return (some e') _ => isE tb N e false sc e'
  | .raise n, sc, .Raise (some e) none _ => excB n sc e && xs.contains n
  | .brk, _, .Break _ => true
  | .cont, _, .Continue _ => true
  | _, _, _ => false
def isSL : SL → Scope → List Stmt → Bool
  | .nil, _, [] => true
  | .cons (.freeze _) r, sc, sts => isSL r sc sts
  | .cons s r, sc, st :: sts => isS s sc st && isSL r sc sts
  | _, _, _ => false
end
end
end Dz
set_option Elab.async false
set_option linter.all false
set_option maxRecDepth 100000
set_option maxHeartbeats 4000000
namespace Dz
open PySem PySem.Spec PyProof.Rows L2
structure GoodS (tb : Tab) (B : Wish) (xs : List Nat) (n : Nat) (X : Cx) : Prop extends Good tb B n X where
  fnT : ∀ x, X.fn x = true
  own : PassesOwn (model X.prog X.w) X.A X.env X.xe
  fk : X.env.scope.kind = .function
  exc : ∀ m ∈ xs, ∃ C : Addr, X.mg (exName m) = some (.ref C) ∧ PySem.W.excIn X.K C [.type "ValueError", .type "Exception", .type "BaseException", .type "object"] "ValueError.__new__" = true ∧ PySem.W.keepIn X.K (.ref C) = true ∧
    PySem.W.subIn X.K (.ref C) (.type "BaseException") = some true ∧ PySem.W.typeIn X.K (.ref C) = some (.type "type") ∧ B.ok (.cls m) (.ref C)
theorem loc_of {sc : Scope} {x : Str} (h : locB sc x = true) : Loc sc x := by
  unfold locB at h
  rw [Bool.or_eq_true] at h
  rcases h with h | h
  · exact .inl (eqO_of h)
  · exact .inr (eqO_of h)
theorem sw_no {e : Expr} (h : noComp e = true) (t : Option Expr) (l : Nat) (env : PySem.Env) : swapsWith e t l env = pure false := by
  cases e <;> first | rfl | cases h
theorem sw_cell {e : Expr} {x : Str} {p : Pos} {l : Nat} {env : PySem.Env} (h : env.scope.names.lookup x = some .cell) : swapsWith e (some (.Name x p)) l env = pure false := by
  have k : env.kindOf x = some .cell := h
  cases e <;> first
    | rfl
    | (have z : (NameKind.cell == NameKind.local) = false := rfl
       unfold swapsWith
       simp only [k]
       simp [z])
theorem sw_tup {e : Expr} {es : List Expr} {k : Nat} {p : Pos} {l : Nat} {env : PySem.Env} : swapsWithSole [.Tuple es k p] e l env = pure false := by
  cases e <;> rfl
theorem ss_no {e : Expr} {t : Expr} {env : PySem.Env} (h : noTup e = true) : swappedStores [t] e env = pure none := by
  cases e <;> first
    | (cases h; done)
    | (cases t <;> rfl)
theorem blk_fn {env : PySem.Env} (h : env.scope.kind = .function) : env.blockKind = .function := by
  unfold PySem.Env.blockKind
  rw [h]
  rfl
theorem ss_two {x y : Str} {px py pt pt2 : Pos} {kt k2 : Nat} {a b : Expr} {env : PySem.Env} (hk : env.scope.kind = .function) (hx : env.scope.names.lookup x = some .local) (hy : env.scope.names.lookup y = some .local) (hl : py.line = px.line) (hxy : x ≠ y)
    (ha : plainB a = true) (hb : plainB b = true) (h1 : [a, b].all (foldedForSure 8) = false) (h2 : [a, b].all (constantsAlone 8) = false) : swappedStores [.Tuple [.Name x px, .Name y py] kt pt] (.Tuple [a, b] k2 pt2) env = pure (some [x, y]) := by
  have kx : env.kindOf x = some .local := hx
  have ky : env.kindOf y = some .local := hy
  have hb2 := blk_fn hk
  have nd : [x, y].eraseDups = [x, y] := by simp [List.eraseDups_cons, hxy, Ne.symm hxy]
  unfold swappedStores
  refine (if_neg ?_).trans ((if_neg ?_).trans ?_)
  · rw [hb2]; simp
  · cases a <;> first | (cases ha; done) | (cases b <;> first | (cases hb; done) | (exact Bool.false_ne_true))
  · refine (if_neg ?_).trans ((if_neg ?_).trans ((if_neg ?_).trans ?_))
    · simp [kx, ky, hl, Expr.pos, nd]
    · rw [h1]; exact Bool.false_ne_true
    · rw [h2]; exact Bool.false_ne_true
    · simp [kx, ky, hl, Expr.pos]
theorem ss_three {x y z : Str} {px py pz pt pt2 : Pos} {kt k2 : Nat} {a b c : Expr} {env : PySem.Env} (hk : env.scope.kind = .function) (hx : env.scope.names.lookup x = some .local) (hy : env.scope.names.lookup y = some .local) (hz : env.scope.names.lookup z = some .local) (hl : py.line = px.line) (hl2 : pz.line = px.line)
    (hxy : x ≠ y) (hxz : x ≠ z) (hyz : y ≠ z)
    (ha : plainB a = true) (hb : plainB b = true) (hc : plainB c = true) (h1 : [a, b, c].all (foldedForSure 8) = false) (h2 : [a, b, c].all (constantsAlone 8) = false) : swappedStores [.Tuple [.Name x px, .Name y py, .Name z pz] kt pt] (.Tuple [a, b, c] k2 pt2) env = pure (some [x, y, z]) := by
  have kx : env.kindOf x = some .local := hx
  have ky : env.kindOf y = some .local := hy
  have kz : env.kindOf z = some .local := hz
  have hb2 := blk_fn hk
  have nd : [x, y, z].eraseDups = [x, y, z] := by simp [List.eraseDups_cons, hxy, Ne.symm hxy, hxz, Ne.symm hxz, hyz, Ne.symm hyz]
  have any3 : ∀ f : Expr → Bool, (∀ e, plainB e = true → f e = false) → ¬ [a, b, c].any f = true := fun f k h => by
    rw [List.any_cons, List.any_cons, List.any_cons, List.any_nil, k a ha, k b hb, k c hc] at h
    cases h
  unfold swappedStores
  refine (if_neg ?_).trans ((if_neg ?_).trans ?_)
  · rw [hb2]; simp
  · refine any3 _ ?_
    intro e h
    cases e <;> first | rfl | cases h
  · refine (if_neg ?_).trans ((if_neg ?_).trans ((if_neg ?_).trans ?_))
    · simp [kx, ky, kz, hl, hl2, Expr.pos, nd]
    · rw [h1]; exact Bool.false_ne_true
    · rw [h2]; exact Bool.false_ne_true
    · simp [kx, ky, kz, hl, hl2, Expr.pos]
theorem ne_of_beqN {i j : Nat} (h : (!(i == j)) = true) : i ≠ j := fun e => by
  subst e
  rw [beq_self_eq_true] at h
  cases h
section
variable {tb : Tab} {B : Wish} {n : Nat} {mk : Bool} {xs : List Nat}
theorem once_of {X : Cx} (fk : X.env.scope.kind = .function) {x : Str} {xp pos : Pos} {e : Expr} (h : atOnce X.env.scope x xp e = true) : ∃ elt gs scope p, e = .ListComp elt gs scope p ∧ X.env.scope.names.lookup x = some .local ∧ swapsWith e (some (.Name x xp)) pos.line X.env = pure true := by
  cases e <;> first | (cases h; done) | skip
  rename_i elt gs scope p
  unfold atOnce at h
  obtain ⟨h, h3⟩ := and_of h
  obtain ⟨h1, h2⟩ := and_of h
  exact ⟨elt, gs, scope, p, rfl, eqO_of h1, sw_true fk (eqO_of h1) h2 (not_of' h3)⟩
/-- a comprehension of two clauses that is looked at -/
theorem comp2_of {X : Cx} (G : GoodS tb B xs n X) {W : WX} (tk : L2N.Takes X W) {elt : E} {tg1 tg2 : Tg} {it1 it2 : It} {ifs1 ifs2 : L} {own own2 : List Nat} {pelt ptg pit ptg2 pit2 : Expr} {pifs pifs2 : List Expr} {scope : Scope} {p : Pos}
    (h : isE tb X.N (.comp2 elt tg1 it1 ifs1 tg2 it2 ifs2 own own2) false X.env.scope (.ListComp pelt [⟨ptg, pit, pifs, 0⟩, ⟨ptg2, pit2, pifs2, 0⟩] scope p) = true) (cpos : Pos) :
    (tg1.has.all fun i => own.contains i) = true ∧ (tg2.has.all fun i => own2.contains i) = true ∧
    PE X (.ListComp pelt [⟨ptg, pit, pifs, 0⟩, ⟨ptg2, pit2, pifs2, 0⟩] scope cpos) (TDm X.K B W .fr (comp2W (wpI (Phi tb n) it1) tg1 (wpC (Phi tb n) ifs1) (wpI (Phi tb n) it2) tg2 (wpC (Phi tb n) ifs2) (wpE (Phi tb n) elt) own own2)) ∧
    ∀ (i : Nat) (y : Str) (py spos : Pos), X.N[i]? = some y → X.env.scope.names.lookup y = some .local → swapsWith (.ListComp pelt [⟨ptg, pit, pifs, 0⟩, ⟨ptg2, pit2, pifs2, 0⟩] scope cpos) (some (.Name y py)) spos.line X.env = pure true →
      PS X (.Assign [.Name y py] (.ListComp pelt [⟨ptg, pit, pifs, 0⟩, ⟨ptg2, pit2, pifs2, 0⟩] scope cpos) spos) (tAsg (tLc2 (TIm X.K B W (wpI (Phi tb n) it1)) (tgG X.K tg1) (TTm X.K B noW (wpC (Phi tb n) ifs1)) (TIm X.K B noW (wpI (Phi tb n) it2)) (tgG X.K tg2) (TTm X.K B noW (wpC (Phi tb n) ifs2)) (TDm X.K B noW .st (wpE (Phi tb n) elt)) own own2) (gName i)) := by
  unfold isE at h
  obtain ⟨h, k12⟩ := and_of h
  obtain ⟨h, k11⟩ := and_of h
  obtain ⟨h, k10⟩ := and_of h
  obtain ⟨h, k9⟩ := and_of h
  obtain ⟨h, k8⟩ := and_of h
  obtain ⟨h, k7⟩ := and_of h
  obtain ⟨h, k6⟩ := and_of h
  obtain ⟨h, k5⟩ := and_of h
  obtain ⟨h, k4⟩ := and_of h
  obtain ⟨h, k3⟩ := and_of h
  obtain ⟨k1, k2⟩ := and_of h
  have i1 := sndI it1 X W ptg pit G.toGood tk k3
  have q := comp2_parts G.toGood (W := W) i1.1
    (fun s H C cl fp => (sndE elt false (X.blk s H scope (compEnvC scope cl C X.env) fp) noW pelt (G.toGood.blk s H scope _ fp k9) (takesN0) k1).1)
    (fun s H C cl fp => sndC ifs1 (X.blk s H scope (compEnvC scope cl C X.env) fp) noW pifs (G.toGood.blk s H scope _ fp k9) (takesN0) k4)
    (fun s H C cl fp => (sndI it2 (X.blk s H scope (compEnvC scope cl C X.env) fp) noW ptg2 pit2 (G.toGood.blk s H scope _ fp k9) takesN0 k6).1)
    (fun s H C cl fp => sndC ifs2 (X.blk s H scope (compEnvC scope cl C X.env) fp) noW pifs2 (G.toGood.blk s H scope _ fp k9) (takesN0) k7) k2 k5 k8 k10 k11 k12 i1.2 (isI_fold k6) cpos
  exact ⟨k10, k11, q⟩
/-- a comprehension that goes to a name at once -/
theorem comp_once {X : Cx} (G : GoodS tb B xs n X) {W : WX} (tk : L2N.Takes X W) {e : E} {pelt : Expr} {gens : List Comprehension} {scope : Scope} {cpos : Pos} (h : isE tb X.N e false X.env.scope (.ListComp pelt gens scope cpos) = true) {i : Nat} {x : Str} {xp spos : Pos}
    (hN : X.N[i]? = some x) (hl : X.env.scope.names.lookup x = some .local) (hs : swapsWith (.ListComp pelt gens scope cpos) (some (.Name x xp)) spos.line X.env = pure true) :
    ∃ te : TE, PS X (.Assign [.Name x xp] (.ListComp pelt gens scope cpos) spos) (tAsg te (gName i)) ∧ ∀ σ H Q, TDm X.K B W .fr (wpE (Phi tb n) e) σ H Q → te σ H Q := by
  cases e <;> first | (cases h; done) | skip
  case comp elt tg it ifs own =>
   match gens, h, hs with
   | [⟨ptg, pit, pifs, 0⟩], h, hs =>
    unfold isE at h
    obtain ⟨h, h6⟩ := and_of h
    obtain ⟨h, hnt⟩ := and_of h
    obtain ⟨h, h5⟩ := and_of h
    obtain ⟨h, h4⟩ := and_of h
    obtain ⟨h, h3⟩ := and_of h
    obtain ⟨h1, h2⟩ := and_of h
    have q := comp_parts G.toGood (W := W) (elt := elt) (it := it) (ifs := ifs) (sndI it X W ptg pit G.toGood tk h3).1
      (fun s H C cl fp => (sndE elt false (X.blk s H scope (compEnvC scope cl C X.env) fp) noW pelt (G.toGood.blk s H scope _ fp hnt) (takesN0) h1).1)
      (fun s H C cl fp => sndC ifs (X.blk s H scope (compEnvC scope cl C X.env) fp) noW pifs (G.toGood.blk s H scope _ fp hnt) (takesN0) h4) h2 h5 h6 (sndI it X W ptg pit G.toGood tk h3).2 cpos
    refine ⟨_, q.2 i x xp spos hN hl hs, fun σ H Q t => comp_ok (fun j hj => ?_) t⟩
    have q := List.all_eq_true.mp h6 j hj
    simpa using q
  case comp2 elt tg1 it1 ifs1 tg2 it2 ifs2 own own2 =>
   match gens, h, hs with
   | [⟨ptg, pit, pifs, 0⟩, ⟨ptg2, pit2, pifs2, 0⟩], h, hs =>
    obtain ⟨k10, k11, q⟩ := comp2_of G tk h cpos
    refine ⟨_, q.2 i x xp spos hN hl hs, fun σ H Q t => comp2_ok (fun j hj => ?_) (fun j hj => ?_) t⟩
    · have q := List.all_eq_true.mp k10 j hj
      simpa using q
    · have q := List.all_eq_true.mp k11 j hj
      simpa using q
theorem fresh_ok {X : Cx} (G : GoodS tb B xs n X) {W : WX} (tk : L2N.Takes X W) {e : E} {pe : Expr} (h : isFreshE tb X.N e X.env.scope pe = true) : PE X pe (TDm X.K B W .fr (wpE (Phi tb n) e)) ∧ isE tb X.N e false X.env.scope pe = true := by
  cases e <;> first | (cases h; done) | skip
  · cases pe <;> first | (cases h; done) | skip
    refine ⟨?_, h⟩
    have h' := h
    unfold isFreshE at h'
    unfold isE at h'
    exact snd_lst (sndL _ false X W _ G.toGood tk h')
  · cases pe <;> first | (cases h; done) | skip
    rename_i elt tg it ifs own pelt gens scope cpos
    refine ⟨?_, h⟩
    match gens, h with
    | [⟨ptg, pit, pifs, 0⟩], h =>
      unfold isFreshE at h
      unfold isE at h
      obtain ⟨h, h6⟩ := and_of h
      obtain ⟨h, hnt⟩ := and_of h
      obtain ⟨h, h5⟩ := and_of h
      obtain ⟨h, h4⟩ := and_of h
      obtain ⟨h, h3⟩ := and_of h
      obtain ⟨h1, h2⟩ := and_of h
      exact (comp_parts G.toGood (W := W) (elt := elt) (it := it) (ifs := ifs) (sndI it X W ptg pit G.toGood tk h3).1
        (fun s H C cl fp => (sndE elt false (X.blk s H scope (compEnvC scope cl C X.env) fp) noW pelt (G.toGood.blk s H scope _ fp hnt) (takesN0) h1).1)
        (fun s H C cl fp => sndC ifs (X.blk s H scope (compEnvC scope cl C X.env) fp) noW pifs (G.toGood.blk s H scope _ fp hnt) (takesN0) h4) h2 h5 h6 (sndI it X W ptg pit G.toGood tk h3).2 cpos).1
  · cases pe <;> first | (cases h; done) | skip
    rename_i pelt gens scope cpos
    refine ⟨?_, h⟩
    match gens, h with
    | [⟨ptg, pit, pifs, 0⟩, ⟨ptg2, pit2, pifs2, 0⟩], h => exact (comp2_of (p := cpos) G tk h cpos).2.2.1
theorem TDm.fr_of {K : PySem.W.Frag} {W : WX} {w : Ev → Nat → XR → Rs → Prop} {σ : L2.St} {H : Hp} {Q : VK} (h : TDm K B W .st w σ H Q) : TDm K B W .fr w σ H Q := by
  obtain ⟨F, ast, ρ, g, XX, R, s, q, G⟩ := h
  exact ⟨F, ast, ρ, g, XX, R, s, q, G.freeze s.fh⟩
theorem set_all {X : Cx} (G : GoodS tb B xs n X) {W : WX} (tk : L2N.Takes X W) {i : Nat} {e : E} {x : Str} {xp p : Pos} {e' : Expr} (hN : X.N[i]? = some x) (hl : Loc X.env.scope x) (h : isE tb X.N e false X.env.scope e' = true) (hs : (noComp e' || cellB X.env.scope x || atOnce X.env.scope x xp e') = true) :
    PS X (.Assign [.Name x xp] e' p) (TSm X.K B W mk (wpS (Phi tb n) (.set i e))) := by
  rw [Bool.or_eq_true, Bool.or_eq_true] at hs
  have he := (sndE e false X W e' G.toGood tk h).1
  rcases hs with (hs | hs) | hs
  · exact sndS_set G.nd hN hl (G.fnT x) he (sw_no hs _ _ _)
  · exact sndS_set G.nd hN hl (G.fnT x) he (sw_cell (eqO_of hs))
  · obtain ⟨elt, gs, scope, cp, ee, h1, h2⟩ := once_of (pos := p) G.fk hs
    subst ee
    obtain ⟨te, q1, q2⟩ := comp_once G tk h hN h1 h2
    exact PS.imp q1 fun N σ H t => set_ok (we := wpE (Phi tb n) e) (fun σ H Q z => q2 σ H Q (TDm.fr_of z)) N σ H t
theorem setO_all {X : Cx} (G : GoodS tb B xs n X) {W : WX} (tk : L2N.Takes X W) {i : Nat} {e : E} {x : Str} {xp p : Pos} {e' : Expr} (hN : X.N[i]? = some x) (hl : Loc X.env.scope x) (h : isFreshE tb X.N e X.env.scope e' = true) (hs : (noComp e' || cellB X.env.scope x || atOnce X.env.scope x xp e') = true) :
    PS X (.Assign [.Name x xp] e' p) (TSm X.K B W mk (wpS (Phi tb n) (.setO i e))) := by
  rw [Bool.or_eq_true, Bool.or_eq_true] at hs
  obtain ⟨he, hE⟩ := fresh_ok G tk h
  rcases hs with (hs | hs) | hs
  · exact sndS_setO G.nd hN hl (G.fnT x) he (sw_no hs _ _ _)
  · exact sndS_setO G.nd hN hl (G.fnT x) he (sw_cell (eqO_of hs))
  · obtain ⟨elt, gs, scope, cp, ee, h1, h2⟩ := once_of (pos := p) G.fk hs
    subst ee
    obtain ⟨te, q1, q2⟩ := comp_once G tk hE hN h1 h2
    exact PS.imp q1 fun N σ H t => setO_ok (we := wpE (Phi tb n) e) q2 N σ H t
end
end Dz
set_option Elab.async false
set_option linter.all false
set_option maxRecDepth 100000
set_option maxHeartbeats 4000000
namespace Dz
open PySem PySem.Spec PyProof.Rows L2
section
variable {tb : Tab} {B : Wish} {n : Nat} {mk : Bool} {xs : List Nat}
theorem nodup_ne {X : Cx} {i j : Nat} {x y : Str} (hi : X.N[i]? = some x) (hj : X.N[j]? = some y) (h : x = y) (nd : X.N.Nodup) : i = j := by
  subst h
  exact nodup_ix nd hi hj
theorem swap_of {sc : Scope} {px : Pos} {x : Str} {p : Pos} {r : List Expr} (h : swapB sc px (.Name x p :: r) = true) : sc.names.lookup x = some .local ∧ p.line = px.line ∧ swapB sc px r = true := by
  unfold swapB at h
  obtain ⟨h, h3⟩ := and_of h
  obtain ⟨h1, h2⟩ := and_of h
  exact ⟨eqO_of h1, eq_of_beq h2, h3⟩
theorem zero_of {z : Expr} (h : zeroB z = true) : ∃ j p, z = .Constant (.int 0) j p := by
  cases z <;> first | (cases h; done) | skip
  rename_i c j p
  cases c <;> first | (cases h; done) | skip
  rename_i i
  have e : i = 0 := eq_of_beq h
  subst e
  exact ⟨j, p, rfl⟩
theorem nameAt_of {N : List Str} {i : Nat} {e : Expr} (h : parB.nameAt N i e = true) : ∃ x p, e = .Name x p ∧ N[i]? = some x := by
  cases e <;> first | (cases h; done) | skip
  exact ⟨_, _, rfl, eqO_of h⟩
theorem len2 {α : Type} {l : List α} (h : (l.length == 2) = true) : ∃ a b, l = [a, b] := by
  rcases l with _ | ⟨a, _ | ⟨b, _ | _⟩⟩ <;> first | (cases h; done) | exact ⟨a, b, rfl⟩
theorem len3 {α : Type} {l : List α} (h : (l.length == 3) = true) : ∃ a b c, l = [a, b, c] := by
  rcases l with _ | ⟨a, _ | ⟨b, _ | ⟨c, _ | _⟩⟩⟩ <;> first | (cases h; done) | exact ⟨a, b, c, rfl⟩
theorem plain2 {a b : Expr} (h : [a, b].all plainB = true) : plainB a = true ∧ plainB b = true := by
  simp only [List.all_cons, List.all_nil, Bool.and_true, Bool.and_eq_true] at h
  exact h
theorem plain3 {a b c : Expr} (h : [a, b, c].all plainB = true) : plainB a = true ∧ plainB b = true ∧ plainB c = true := by
  simp only [List.all_cons, List.all_nil, Bool.and_true, Bool.and_eq_true] at h
  exact h
theorem sndLX {X : Cx} (G : GoodS tb B xs n X) {W : WX} (tk : L2N.Takes X W) : ∀ (es : L) (fl : List Bool) (pes : List Expr), isLX tb X.N es fl X.env.scope pes = true → PA X pes (TXm X.K B W fl (wpL (Phi tb n) es))
  | .nil, [], [], _ => sndX_nil
  | .cons e r, b :: bs, pe :: pr, h => by
    unfold isLX at h
    obtain ⟨h, h3⟩ := and_of h
    obtain ⟨h1, h2⟩ := and_of h
    refine sndX_cons ?_ (sndLX G tk r bs pr h3) (star_of h1)
    cases b with
    | true => exact (fresh_ok G tk h2).1
    | false => exact (sndE e false X W pe G.toGood tk h2).1
  | .nil, [], _ :: _, h => by cases h
  | .nil, _ :: _, _, h => by cases h
  | .cons _ _, [], _, h => by cases h
  | .cons _ _, _ :: _, [], h => by cases h
  | .star _ _, _, _, h => by cases h
theorem pop_of {N : List Str} {sc : Scope} {i : Nat} {e : Expr} (h : isPopB N sc i e = true) : ∃ x p ap cp, e = .Call (.Attribute (.Name x p) "pop" ap) [] [] cp ∧ slotB N sc i x = true ∧ (ap.endLine == cp.line) = true := by
  cases e <;> first | (cases h; done) | skip
  rename_i f as ks cp
  cases f <;> first | (cases h; done) | skip
  rename_i o m ap
  cases o <;> first | (cases h; done) | skip
  rename_i x p
  match as, ks, h with
  | [], [], h =>
    unfold isPopB at h
    obtain ⟨h, h3⟩ := and_of h
    obtain ⟨h1, h2⟩ := and_of h
    have em := beqS h1
    subst em
    exact ⟨x, p, ap, cp, rfl, h2, h3⟩
theorem par_all {X : Cx} (G : GoodS tb B xs n X) {W : WX} (tk : L2N.Takes X W) {is : List Nat} {es : L} {t v : Expr} {p : Pos} (h : parB X.N is X.env.scope (namesT t) (itemsT v) = true) (hL : isL tb X.N es false X.env.scope (itemsT v) = true) (ht : isTupB t = true) (hv : isTupB v = true) (hpl : (itemsT v).all plainB = true) :
    PS X (.Assign [t] v p) (TSm X.K B W mk (wpS (Phi tb n) (.par is es))) := by
  cases t <;> first | (cases ht; done) | skip
  cases v <;> first | (cases hv; done) | skip
  rename_i ts kt pt vs k2 pt2
  have h : parB X.N is X.env.scope ts vs = true := h
  have hL : isL tb X.N es false X.env.scope vs = true := hL
  have hpl : vs.all plainB = true := hpl
  have ha := sndL es false X W _ G.toGood tk hL
  rcases is with _ | ⟨i, _ | ⟨j, _ | ⟨l, _ | ⟨_, _⟩⟩⟩⟩
  · cases h
  · cases h
  · unfold parB at h
    obtain ⟨h, h8⟩ := and_of h
    obtain ⟨h, h7⟩ := and_of h
    obtain ⟨h, h6⟩ := and_of h
    obtain ⟨h, h5⟩ := and_of h
    obtain ⟨h, h4⟩ := and_of h
    obtain ⟨h, h3⟩ := and_of h
    obtain ⟨h1, h2⟩ := and_of h
    obtain ⟨t1, t2, et⟩ := len2 h1
    obtain ⟨a, b, ev⟩ := len2 h2
    subst et ev
    obtain ⟨x, px, e1, n1⟩ := nameAt_of h3
    obtain ⟨y, py, e2, n2⟩ := nameAt_of h4
    have e1 : t1 = .Name x px := e1
    have e2 : t2 = .Name y py := e2
    subst e1 e2
    have h6 : swapB X.env.scope px [.Name x px, .Name y py] = true := h6
    obtain ⟨x1, x2, h6⟩ := swap_of h6
    obtain ⟨y1, y2, h6⟩ := swap_of h6
    have hij := ne_of_beqN h5
    have hxy : x ≠ y := fun e => hij (nodup_ne n1 n2 e G.nd)
    obtain ⟨pa, pb⟩ := plain2 hpl
    exact sndS_par2 G.calm G.nd n1 n2 hij x1 y1 ha (ss_two G.fk x1 y1 y2 hxy pa pb (not_of' h7) (not_of' h8))
  · unfold parB at h
    obtain ⟨h, h11⟩ := and_of h
    obtain ⟨h, h10⟩ := and_of h
    obtain ⟨h, h9⟩ := and_of h
    obtain ⟨h, h8⟩ := and_of h
    obtain ⟨h, h7⟩ := and_of h
    obtain ⟨h, h6⟩ := and_of h
    obtain ⟨h, h5⟩ := and_of h
    obtain ⟨h, h4⟩ := and_of h
    obtain ⟨h, h3⟩ := and_of h
    obtain ⟨h1, h2⟩ := and_of h
    obtain ⟨t1, t2, t3, et⟩ := len3 h1
    obtain ⟨a, b, c, ev⟩ := len3 h2
    subst et ev
    obtain ⟨x, px, e1, n1⟩ := nameAt_of h3
    obtain ⟨y, py, e2, n2⟩ := nameAt_of h4
    obtain ⟨z, pz, e3, n3⟩ := nameAt_of h5
    have e1 : t1 = .Name x px := e1
    have e2 : t2 = .Name y py := e2
    have e3 : t3 = .Name z pz := e3
    subst e1 e2 e3
    have h9 : swapB X.env.scope px [.Name x px, .Name y py, .Name z pz] = true := h9
    obtain ⟨x1, x2, h9⟩ := swap_of h9
    obtain ⟨y1, y2, h9⟩ := swap_of h9
    obtain ⟨z1, z2, h9⟩ := swap_of h9
    have hij := ne_of_beqN h6
    have hil := ne_of_beqN h7
    have hjl := ne_of_beqN h8
    have hxy : x ≠ y := fun e => hij (nodup_ne n1 n2 e G.nd)
    have hxz : x ≠ z := fun e => hil (nodup_ne n1 n3 e G.nd)
    have hyz : y ≠ z := fun e => hjl (nodup_ne n2 n3 e G.nd)
    obtain ⟨pa, pb, pc⟩ := plain3 hpl
    exact sndS_par3 G.calm G.nd n1 n2 n3 hij hil hjl x1 y1 z1 ha (ss_three G.fk x1 y1 z1 y2 z2 hxy hxz hyz pa pb pc (not_of' h10) (not_of' h11))
  · cases h
theorem parX_all {X : Cx} (G : GoodS tb B xs n X) {W : WX} (tk : L2N.Takes X W) {is : List Nat} {es : L} {fl : List Bool} {t v : Expr} {p : Pos} (h : parB X.N is X.env.scope (namesT t) (itemsT v) = true) (hL : isLX tb X.N es fl X.env.scope (itemsT v) = true) (ht : isTupB t = true) (hv : isTupB v = true) (hpl : (itemsT v).all plainB = true) :
    PS X (.Assign [t] v p) (TSm X.K B W mk (wpS (Phi tb n) (.parX is es fl))) := by
  cases t <;> first | (cases ht; done) | skip
  cases v <;> first | (cases hv; done) | skip
  rename_i ts kt pt vs k2 pt2
  have h : parB X.N is X.env.scope ts vs = true := h
  have hL : isLX tb X.N es fl X.env.scope vs = true := hL
  have hpl : vs.all plainB = true := hpl
  have ha := sndLX G tk es fl vs hL
  rcases is with _ | ⟨i, _ | ⟨j, _ | ⟨l, _ | ⟨_, _⟩⟩⟩⟩
  · cases h
  · cases h
  · unfold parB at h
    obtain ⟨h, h8⟩ := and_of h
    obtain ⟨h, h7⟩ := and_of h
    obtain ⟨h, h6⟩ := and_of h
    obtain ⟨h, h5⟩ := and_of h
    obtain ⟨h, h4⟩ := and_of h
    obtain ⟨h, h3⟩ := and_of h
    obtain ⟨h1, h2⟩ := and_of h
    obtain ⟨t1, t2, et⟩ := len2 h1
    obtain ⟨a, b, ev⟩ := len2 h2
    subst et ev
    obtain ⟨x, px, e1, n1⟩ := nameAt_of h3
    obtain ⟨y, py, e2, n2⟩ := nameAt_of h4
    have e1 : t1 = .Name x px := e1
    have e2 : t2 = .Name y py := e2
    subst e1 e2
    have h6 : swapB X.env.scope px [.Name x px, .Name y py] = true := h6
    obtain ⟨x1, x2, h6⟩ := swap_of h6
    obtain ⟨y1, y2, h6⟩ := swap_of h6
    have hij := ne_of_beqN h5
    have hxy : x ≠ y := fun e => hij (nodup_ne n1 n2 e G.nd)
    obtain ⟨pa, pb⟩ := plain2 hpl
    exact sndS_parX2 G.calm G.nd n1 n2 hij x1 y1 ha (ss_two G.fk x1 y1 y2 hxy pa pb (not_of' h7) (not_of' h8))
  · unfold parB at h
    obtain ⟨h, h11⟩ := and_of h
    obtain ⟨h, h10⟩ := and_of h
    obtain ⟨h, h9⟩ := and_of h
    obtain ⟨h, h8⟩ := and_of h
    obtain ⟨h, h7⟩ := and_of h
    obtain ⟨h, h6⟩ := and_of h
    obtain ⟨h, h5⟩ := and_of h
    obtain ⟨h, h4⟩ := and_of h
    obtain ⟨h, h3⟩ := and_of h
    obtain ⟨h1, h2⟩ := and_of h
    obtain ⟨t1, t2, t3, et⟩ := len3 h1
    obtain ⟨a, b, c, ev⟩ := len3 h2
    subst et ev
    obtain ⟨x, px, e1, n1⟩ := nameAt_of h3
    obtain ⟨y, py, e2, n2⟩ := nameAt_of h4
    obtain ⟨z, pz, e3, n3⟩ := nameAt_of h5
    have e1 : t1 = .Name x px := e1
    have e2 : t2 = .Name y py := e2
    have e3 : t3 = .Name z pz := e3
    subst e1 e2 e3
    have h9 : swapB X.env.scope px [.Name x px, .Name y py, .Name z pz] = true := h9
    obtain ⟨x1, x2, h9⟩ := swap_of h9
    obtain ⟨y1, y2, h9⟩ := swap_of h9
    obtain ⟨z1, z2, h9⟩ := swap_of h9
    have hij := ne_of_beqN h6
    have hil := ne_of_beqN h7
    have hjl := ne_of_beqN h8
    have hxy : x ≠ y := fun e => hij (nodup_ne n1 n2 e G.nd)
    have hxz : x ≠ z := fun e => hil (nodup_ne n1 n3 e G.nd)
    have hyz : y ≠ z := fun e => hjl (nodup_ne n2 n3 e G.nd)
    obtain ⟨pa, pb, pc⟩ := plain3 hpl
    exact sndS_parX3 G.calm G.nd n1 n2 n3 hij hil hjl x1 y1 z1 ha (ss_three G.fk x1 y1 z1 y2 z2 hxy hxz hyz pa pb pc (not_of' h10) (not_of' h11))
  · cases h
theorem raise_all {X : Cx} (G : GoodS tb B xs n X) {W : WX} (tk : L2N.Takes X W) {m : Nat} {e : Expr} {p : Pos} (h : excB m X.env.scope e = true) (hm : m ∈ xs) : PS X (.Raise (some e) none p) (TSm X.K B W mk (wpS (Phi tb n) (.raise m))) := by
  cases e <;> first | (cases h; done) | skip
  rename_i f as ks cp
  rcases as with _ | ⟨a, _ | _⟩
  · cases h
  · cases ks with
    | cons _ _ => cases h
    | nil =>
      unfold excB at h
      obtain ⟨h1, h2⟩ := and_of h
      cases f <;> first | (cases h1; done) | skip
      cases a <;> first | (cases h2; done) | skip
      rename_i x xp c j tp
      cases c <;> first | (cases h2; done) | skip
      obtain ⟨h1, h2⟩ := and_of h1
      have ex : x = exName m := beqS h1
      subst ex
      obtain ⟨g1, g2, g3⟩ := gl_of h2
      obtain ⟨C, q1, q2, q3, q4, q5, q6⟩ := G.exc m hm
      exact sndS_raise G.calm tk (L2N.pmk_own PySem.F.excBase_ValueError q2 q1 q3 (raises_own q4 q5) g1 g2) (fun σ H Q q => q) q6
  · cases h
mutual
theorem sndS : ∀ (s : S) (X : Cx) (W : WX) (st : Stmt), GoodS tb B xs n X → L2N.Takes X W → isS tb X.N mk xs s X.env.scope st = true → PS X st (TSm X.K B W mk (wpS (Phi tb n) s))
  | .set i e, X, W, st, G, tk, h => by
    cases st <;> first | (cases h; done) | skip
    rename_i ts e' p
    match ts, h with
    | [.Name x xp], h =>
      unfold isS at h
      obtain ⟨h, h4⟩ := and_of h
      obtain ⟨h, h3⟩ := and_of h
      obtain ⟨h1, h2⟩ := and_of h
      exact set_all G tk (eqO_of h1) (loc_of h2) h3 h4
  | .setO i e, X, W, st, G, tk, h => by
    cases st <;> first | (cases h; done) | skip
    rename_i ts e' p
    match ts, h with
    | [.Name x xp], h =>
      unfold isS at h
      obtain ⟨h, h4⟩ := and_of h
      obtain ⟨h, h3⟩ := and_of h
      obtain ⟨h1, h2⟩ := and_of h
      exact setO_all G tk (eqO_of h1) (loc_of h2) h3 h4
  | .mkst i e, X, W, st, G, tk, h => by
    cases st <;> first | (cases h; done) | skip
    rename_i ts e' p
    cases e' <;> first | (rcases ts with _ | ⟨t, _ | _⟩ <;> first | (cases h; done) | (cases t <;> cases h; done)) | skip
    rename_i es p2
    match ts, es, h with
    | [.Name x xp], [e', z], h =>
      unfold isS at h
      obtain ⟨k1, hmk⟩ := and_of h
      obtain ⟨k2, hz⟩ := and_of k1
      obtain ⟨k3, h4⟩ := and_of k2
      obtain ⟨k4, h3⟩ := and_of k3
      obtain ⟨h1, h2⟩ := and_of k4
      subst hmk
      obtain ⟨j, p3, ez⟩ := zero_of hz
      subst ez
      exact sndS_mkst G.nd (eqO_of h1) (loc_of h2) (G.fnT x) (sndE e false X W e' G.toGood tk h4).1 (star_of h3)
  | .par is es, X, W, st, G, tk, h => by
    cases st <;> first | (cases h; done) | skip
    rename_i ts v p
    match ts, h with
    | [t], h =>
      unfold isS at h
      obtain ⟨h, hpl⟩ := and_of h
      obtain ⟨h, hv⟩ := and_of h
      obtain ⟨h, ht⟩ := and_of h
      obtain ⟨h1, h2⟩ := and_of h
      exact par_all G tk h1 h2 ht hv hpl
  | .parX is es fl, X, W, st, G, tk, h => by
    cases st <;> first | (cases h; done) | skip
    rename_i ts v p
    match ts, h with
    | [t], h =>
      unfold isS at h
      obtain ⟨h, hpl⟩ := and_of h
      obtain ⟨h, hv⟩ := and_of h
      obtain ⟨h, ht⟩ := and_of h
      obtain ⟨h1, h2⟩ := and_of h
      exact parX_all G tk h1 h2 ht hv hpl
  | .expr e, X, W, st, G, tk, h => by
    cases st <;> first | (cases h; done) | skip
    unfold isS at h
    obtain ⟨h1, h2⟩ := and_of h
    exact sndS_expr (sndE e false X W _ G.toGood tk h1).1 (sw_no h2 _ _ _)
  | .pop t i, X, W, st, G, tk, h => by
    cases st <;> first | (cases h; done) | skip
    rename_i ts e' p
    match ts, h with
    | [t'], h =>
      unfold isS at h
      obtain ⟨h1, h2⟩ := and_of h
      obtain ⟨x, xp, ap, cp, ee, hs, hl⟩ := pop_of h2
      subst ee
      obtain ⟨s1, s2, s3, s4⟩ := slot_of hs
      have hg := tg_ok (X := X) (fun x _ => G.fnT x) G.nd G.calm h1
      cases t' <;> first
        | (cases t <;> cases h1; done)
        | exact sndS_pop s1 s2 s3 s4 hg rfl (ss_no rfl) rfl hl
  | .extend i e, X, W, st, G, tk, h => by
    cases st <;> first | (cases h; done) | skip
    rename_i v p
    cases v <;> first | (cases h; done) | skip
    rename_i f as ks cp
    cases f <;> first | (cases h; done) | skip
    rename_i o m ap
    cases o <;> first | (cases h; done) | skip
    rename_i x xp
    match as, ks, h with
    | [e'], [], h =>
      unfold isS at h
      obtain ⟨h, h5⟩ := and_of h
      obtain ⟨h, h4⟩ := and_of h
      obtain ⟨h, h3⟩ := and_of h
      obtain ⟨h1, h2⟩ := and_of h
      have em : m = "extend" := beqS h1
      subst em
      obtain ⟨s1, s2, s3, s4⟩ := slot_of h2
      exact sndS_extend s1 s2 s3 s4 (fresh_ok G tk h4).1 (star_of h3) h5
  | .unpack is e, X, W, st, G, tk, h => by
    cases st <;> first | (cases h; done) | skip
    rename_i ts e' p
    match ts, h with
    | [.Tuple ts k tp], h =>
      unfold isS at h
      obtain ⟨h, h3⟩ := and_of h
      obtain ⟨h1, h2⟩ := and_of h
      exact sndS_unpack (tg_ok (fun x _ => G.fnT x) G.nd G.calm h1) (sndE e false X W e' G.toGood tk h2).1 sw_tup (ss_no h3) rfl
  | .freeze i, X, W, st, G, tk, h => by cases st <;> cases h
  | .append i e, X, W, st, G, tk, h => by
    cases st <;> first | (cases h; done) | skip
    rename_i v p
    cases v <;> first | (cases h; done) | skip
    rename_i f as ks cp
    cases f <;> first | (cases h; done) | skip
    rename_i o m ap
    cases o <;> first | (cases h; done) | skip
    rename_i x xp
    match as, ks, h with
    | [e'], [], h =>
      unfold isS at h
      obtain ⟨h, h5⟩ := and_of h
      obtain ⟨h, h4⟩ := and_of h
      obtain ⟨h, h3⟩ := and_of h
      obtain ⟨h1, h2⟩ := and_of h
      have em : m = "append" := beqS h1
      subst em
      obtain ⟨s1, s2, s3, s4⟩ := slot_of h2
      exact sndS_append s1 s2 s3 s4 (sndE e false X W e' G.toGood tk h4).1 (star_of h3) h5
  | .ifs c a b, X, W, st, G, tk, h => by
    cases st <;> first | (cases h; done) | skip
    unfold isS at h
    obtain ⟨h, h3⟩ := and_of h
    obtain ⟨h, h2⟩ := and_of h
    obtain ⟨h0, h1⟩ := and_of h
    exact sndS_ifs ((sndE c true X W _ G.toGood tk h1).2 h0) (sndSL a X W _ G tk h2) (sndSL b X W _ G tk h3)
  | .for_ tg it b, X, W, st, G, tk, h => by
    cases st <;> first | (cases h; done) | skip
    rename_i tg' it' b' oe p
    cases oe <;> first | (cases h; done) | skip
    unfold isS at h
    obtain ⟨h, h3⟩ := and_of h
    obtain ⟨h1, h2⟩ := and_of h
    obtain ⟨q1, q2⟩ := sndI it X W _ _ G.toGood tk h2
    exact sndS_for G.own G.calm q1 (tg_ok (fun x _ => G.fnT x) G.nd G.calm h1) (sndSL b X W _ G tk h3) (fun x => fold_of q2 x)
  | .while_ c b, X, W, st, G, tk, h => by
    cases st <;> first | (cases h; done) | skip
    rename_i c' b' oe p
    cases oe <;> first | (cases h; done) | skip
    unfold isS at h
    obtain ⟨h, h3⟩ := and_of h
    obtain ⟨h0, h1⟩ := and_of h
    exact sndS_while G.own ((sndE c true X W _ G.toGood tk h1).2 h0) (sndSL b X W _ G tk h3)
  | .ret e, X, W, st, G, tk, h => by
    cases st <;> first | (cases h; done) | skip
    rename_i v p
    cases v <;> first | (cases h; done) | skip
    unfold isS at h
    exact sndS_ret (sndE e false X W _ G.toGood tk h).1
  | .raise m, X, W, st, G, tk, h => by
    cases st <;> first | (cases h; done) | skip
    rename_i v c p
    cases v with
    | none => cases h
    | some e =>
      cases c with
      | some _ => cases h
      | none =>
        unfold isS at h
        obtain ⟨h, hm⟩ := and_of h
        exact raise_all G tk h (List.contains_iff_mem.mp hm)
  | .brk, X, W, st, G, tk, h => by
    cases st <;> first | (cases h; done) | skip
    exact sndS_brk
  | .cont, X, W, st, G, tk, h => by
    cases st <;> first | (cases h; done) | skip
    exact sndS_cont
theorem sndSL : ∀ (s : SL) (X : Cx) (W : WX) (sts : List Stmt), GoodS tb B xs n X → L2N.Takes X W → isSL tb X.N mk xs s X.env.scope sts = true → PSs X sts (TSm X.K B W mk (wpSL (Phi tb n) s))
  | .nil, X, W, [], G, tk, h => sndS_nil
  | .nil, X, W, _ :: _, G, tk, h => by cases h
  | .cons s r, X, W, sts, G, tk, h => by
    cases s with
    | freeze i =>
      unfold isSL at h
      exact sndS_freeze (sndSL r X W sts G tk h)
    | _ =>
      cases sts <;> first | (cases h; done) | skip
      unfold isSL at h
      obtain ⟨h1, h2⟩ := and_of h
      exact sndS_cons (ws := wpS (Phi tb n) _) (wr := wpSL (Phi tb n) r) (sndS _ X W _ G tk h1) (sndSL r X W _ G tk h2)
end
end
end Dz
set_option Elab.async false
set_option linter.all false
set_option maxRecDepth 100000
/-! Dz: a def's body keeps its promise; the whole table by the level. -/
namespace Dz
open PySem PySem.Spec PyProof.Rows L2
theorem start_at {N : List Str} {vs : List V} {i : Nat} (h : i < vs.length) : (L2.start N vs)[i]? = some (vs[i]?) := by
  unfold L2.start
  rw [List.getElem?_append_left (by simpa using h), List.getElem?_map, List.getElem?_eq_getElem h]
  rfl
theorem Paired.at' {α β : Type} {R : α → β → Prop} : ∀ {xs : List α} {ys : List β} {i : Nat} {y : β}, Paired R xs ys → ys[i]? = some y → ∃ x, xs[i]? = some x ∧ R x y
  | _, _, _, _, .nil, e => by simp at e
  | _, _, 0, _, .cons h _, e => by simp at e; subst e; exact ⟨_, rfl, h⟩
  | _, _, i + 1, _, .cons _ r, e => by
    obtain ⟨x, e1, e2⟩ := Paired.at' (i := i) r (by simpa using e)
    exact ⟨x, by simpa using e1, e2⟩
theorem startE_at {d : Def} {svs : List SV} {i : Nat} {sv : SV} (h : (startE d svs)[i]? = some sv) : (i < svs.length ∧ svs[i]? = some sv) ∨ (svs.length ≤ i ∧ sv = .un) := by
  unfold startE at h
  by_cases hi : i < svs.length
  · rw [List.getElem?_append_left hi] at h
    exact .inl ⟨hi, h⟩
  · rw [List.getElem?_append_right (by omega), List.getElem?_replicate] at h
    split at h
    · exact .inr ⟨by omega, (Option.some.inj h).symm⟩
    · cases h
/-- the names at the entry -/
theorem start_sl {K : PySem.W.Frag} {F H : Hp} {ast : Option Addr} {d : Def} {vs : List V} {svs : List SV} (p : Paired (ArgOk K F ast) vs svs) (hl : svs.length ≤ d.N.length) :
    SlOk K F H ast (L2.start d.N vs) (startE d svs) ∧ ∀ (j : Nat) e, (startE d svs)[j]? ≠ some (.ow e) := by
  have len := p.length
  have no : ∀ (j : Nat) e, (startE d svs)[j]? ≠ some (.ow e) := fun j e h => by
    rcases startE_at h with ⟨_, h⟩ | ⟨_, h⟩
    · obtain ⟨x, _, r⟩ := Paired.at' p h
      exact r
    · cases h
  refine ⟨⟨?_, fun i sv h => ?_, fun i j e1 e2 a _ h1 _ _ => absurd h1 (no i e1)⟩, no⟩
  · unfold L2.start startE
    rw [List.length_append, List.length_append, List.length_map, List.length_replicate, List.length_replicate, len]
  · rcases startE_at h with ⟨hi, h⟩ | ⟨hi, h⟩
    · obtain ⟨x, e, r⟩ := Paired.at' p h
      refine ⟨some x, by rw [start_at (by rw [len]; exact hi), e], ?_⟩
      cases sv with
      | un => trivial
      | fz d => exact ⟨x, rfl, r⟩
      | ow d => exact r.elim
      | st =>
        obtain ⟨a, ev, ea⟩ := r
        exact ⟨a, by rw [ev], ea⟩
    · subst h
      have hi2 : i < (L2.start d.N vs).length := by
        have q := (List.getElem?_eq_some_iff.mp h).1
        unfold startE at q
        unfold L2.start
        rw [List.length_append, List.length_replicate] at q
        rw [List.length_append, List.length_map, List.length_replicate, len]
        exact q
      exact ⟨_, List.getElem?_eq_getElem hi2, trivial⟩
/-- the static facts of a law's text -/
structure Txts (tb : Tab) (B : Wish) (xs : List Nat) (P : Program) (w : World) (K : PySem.W.Frag) (mg : Str → Option Value) : Prop where
  blt : ∀ x ∈ blts, mg x = none
  cst : ∀ x i, (x, i) ∈ tb.cs → ∃ t, mg x = some (.int i t)
  tup : ∀ x ls, (x, ls) ∈ tb.ts → ∃ a : Addr, mg x = some (.ref a) ∧ ∀ F, Rp K F (.ref a) (.tuple (ls.map litD))
  exc : ∀ m ∈ xs, ∃ C : Addr, mg (exName m) = some (.ref C) ∧ PySem.W.excIn K C [.type "ValueError", .type "Exception", .type "BaseException", .type "object"] "ValueError.__new__" = true ∧ PySem.W.keepIn K (.ref C) = true ∧
    PySem.W.subIn K (.ref C) (.type "BaseException") = some true ∧ PySem.W.typeIn K (.ref C) = some (.type "type") ∧ B.ok (.cls m) (.ref C)
/-- a def of the table, as it stands in the text -/
structure DefAt (tb : Tab) (xs : List Nat) (K : PySem.W.Frag) (mg : Str → Option Value) (d : Def) (st : Stmt) (f : Addr) (fd : FuncData) : Prop where
  mgf : mg d.name = some (.ref f)
  fn : L2.Fun K d.name d.name st f fd
  sc : FnScope d.N d.ps (defScope st)
  bi : Binds K fd d.ps []
  is : isSL tb d.N false xs d.body (defScope st) (defBody st) = true
section
variable {tb : Tab} {B : Wish} {xs : List Nat} {P : Program} {w : World} {K : PySem.W.Frag} {mg : Str → Option Value} {base : Heap}
def drawOk (B : Wish) (P : Program) (w : World) (K : PySem.W.Frag) (mg : Str → Option Value) (base : Heap) (n : Nat) : Prop :=
  ∃ (a : Addr) (fd : FuncData) (ps : List Str), mg "_law_next" = some (.ref a) ∧ PySem.W.keepIn K (.ref a) = true ∧ Binds K fd ps [] ∧ FnG P w K mg base n a fd ps (spNext K B)
/-- the table of the lambdas of the def fd -/
def lamAt (T : List (Addr × Str)) (mg : Str → Option Value) (base : Heap) (name : Str) (fd : FuncData) : Prop :=
  ∃ cc P, fd.code = .ref cc ∧ LamX.TabB base mg cc P ∧ (P, (name ++ ".<locals>." : Str) ++ "<lambda>") ∈ T ∧ ∀ p ∈ T, p.1 = P → p.2 = (name ++ ".<locals>." : Str) ++ "<lambda>"
/-- a def that asks _law_told -/
def asksTold (K : PySem.W.Frag) (B : Wish) (mg : Str → Option Value) (base : Heap) (name : Str) (sc : Scope) (fd : FuncData) : Prop :=
  sc.names.lookup ("_law_told" : Str) = some NameKind.globalImplicit → ToldFn K B mg ∧ lamAt B.T mg base name fd
def allOk (tb : Tab) (B : Wish) (P : Program) (w : World) (K : PySem.W.Frag) (mg : Str → Option Value) (base : Heap) (n : Nat) : Prop :=
  ∀ (f : Nat) d, tb.defs[f]? = some d → ∃ (a : Addr) (fd : FuncData), mg d.name = some (.ref a) ∧ PySem.W.keepIn K (.ref a) = true ∧ Binds K fd d.ps [] ∧ FnG P w K mg base (rm n) a fd d.ps (spD K B d.ps.length (Phi tb n f))
/-- the context of a body is good -/
theorem good_body {n : Nat} (T : Txts tb B xs P w K mg) (hd : drawOk B P w K mg base (rm n)) (hall : allOk tb B P w K mg base n) {N ps : List Str} {qual : Str} {scope : Scope} {f : Addr} {cd : Value} {A : Around} {outer : List PySem.Env} {s : Shared} {H : Hp} {E : XK}
    (S : FnScope N ps scope) (hr : Room (rm n + 2) (A.deeper (envOfC qual scope s.heap.objs.size f cd))) (hg : A.guards = some []) (ht : scope.names.lookup ("_law_told" : Str) = some NameKind.globalImplicit → ToldFn K B mg ∧ ∃ cc P, cd = .ref cc ∧ LamX.TabB base mg cc P ∧ (P, (qual ++ ".<locals>." : Str) ++ "<lambda>") ∈ B.T ∧ ∀ p ∈ B.T, p.1 = P → p.2 = (qual ++ ".<locals>." : Str) ++ "<lambda>") : GoodS tb B xs n (cxOf (L2N.CX P w) P w K mg base N qual scope f cd A outer s H E) where
  calm := rfl
  nd := S.nd
  room := hr.mono (by omega)
  td := fun h => by
    obtain ⟨h1, cc, P', h2, h3, h4, h5⟩ := ht h
    exact ⟨h1, ⟨cc, P', h3, h2, h4, h5⟩, hr⟩
  gd := hg
  blt := T.blt
  fn := hall
  draw := hd
  fnT := fun _ => rfl
  own := passes_of rfl
  fk := S.kind
  cst := T.cst
  tup := T.tup
  exc := T.exc
theorem def_ok {n i : Nat} {d : Def} {st : Stmt} {f : Addr} {fd : FuncData} (T : Txts tb B xs P w K mg) (hd : drawOk B P w K mg base (rm n)) (hall : allOk tb B P w K mg base n) (hi : tb.defs[i]? = some d) (D : DefAt tb xs K mg d st f fd) (ht : asksTold K B mg base d.name (defScope st) fd) :
    FnG P w K mg base (rm (n + 1)) f fd d.ps (spD K B d.ps.length (Phi tb (n + 1) i)) := by
  obtain ⟨oc, od, kV, doc, pm, an, cdv, ct, osl, rfl, lk, hcd⟩ := D.fn.ex
  have hpl : d.ps.length ≤ d.N.length := by
    have q := congrArg List.length D.sc.pre
    rw [List.length_take] at q
    omega
  refine ⟨fun vs H Q E h => h.1, fun A outer s H us vs Q E hr hg e0 hb r h => LamX.run_ofS lk hcd D.sc hr e0 hb r h.1 fun hr' => ?_⟩
  obtain ⟨hlen, F, ast, svs, g, XX, R, fh, so, pr, φ, kO, kE⟩ := h
  have φ' : (match tb.defs[i]? with
      | some d => svs.length = d.ps.length ∧ wpSL (Phi tb n) d.body (startE d svs) g XX ⟨fun _ g => R .none g, R, fun _ _ => False, fun _ _ => False⟩
      | none => False) := φ
  rw [hi] at φ'
  obtain ⟨hl, φ'⟩ := φ'
  have G := good_body (E := E) (H := H) (outer := outer) (cd := cdv) (f := f) T hd hall D.sc hr' hg ht
  refine ⟨_, sndSL d.body _ (fun cls dd _ H => E cls dd H) _ G (L2N.takes_of rfl rfl rfl rfl) D.is, ?_⟩
  obtain ⟨sl, no⟩ := start_sl (H := H) (d := d) pr (by rw [hl]; exact hpl)
  refine ⟨F, F, H, ast, ast, F, startE d svs, g, XX, _, ⟨⟨fh, so, sl⟩, Step.refl _ _ _, .inl rfl, fun j e x h1 _ => absurd h1 (no j e), Same.refl _⟩, φ', ?_⟩
  have ea : ∀ {a a0 : Option Addr} {Hi : Hp}, (a = a0 ∨ (false = true ∧ a0 = none ∧ ∀ x, a = some x → Hi x = none)) → a = a0 := fun h => by
    rcases h with e | ⟨e, _⟩
    · exact e
    · cases e
  refine ⟨fun σ F' H' ast' ρ g' sr q => ?_, fun σ F' H' ast' ρ g' sr q => False.elim q, fun σ F' H' ast' ρ g' sr q => False.elim q, fun v dd F' H' ast' g' st fh' so' a rp q => ?_, fun x c F' H' ast' σ g' st fh' so' a q b => ?_⟩
  · have e := ea sr.a
    have so' := sr.c.st
    rw [e] at so'
    exact kO .non F' H' .none g' sr.i sr.c.fh so' .non q
  · rw [ea a] at so'
    exact kO v F' H' dd g' st fh' so' rp q
  · rw [ea a] at so'
    exact kE x c F' H' g' st fh' so' q b
/-- all defs of the table, by the level -/
theorem table_ok (T : Txts tb B xs P w K mg) (hd : drawOk B P w K mg base 1) (hdef : ∀ (f : Nat) d, tb.defs[f]? = some d → ∃ st fa fd, DefAt tb xs K mg d st fa fd ∧ asksTold K B mg base d.name (defScope st) fd) : ∀ n, allOk tb B P w K mg base n
  | 0 => fun f d hf => by
    obtain ⟨st, fa, fd, D, ht⟩ := hdef f d hf
    exact ⟨fa, fd, D.mgf, D.fn.kp, D.bi, ⟨fun vs H Q E h => h.1, fun A outer s H us vs Q E hr hg e0 hb r ⟨_, _, _, _, _, _, _, _, _, _, φ, _⟩ => False.elim φ⟩⟩
  | n + 1 => fun f d hf => by
    obtain ⟨st, fa, fd, D, ht⟩ := hdef f d hf
    obtain ⟨a, fd', ps, h1, h2, h3, h4⟩ := hd
    exact ⟨fa, fd, D.mgf, D.fn.kp, D.bi, def_ok T ⟨a, fd', ps, h1, h2, h3, h4.mono (by unfold rm; omega)⟩ (table_ok T ⟨a, fd', ps, h1, h2, h3, h4⟩ hdef n) hf D ht⟩
end
end Dz
set_option Elab.async false
set_option linter.all false
set_option maxRecDepth 100000
/-! Dz: the law's own def, and the end of a law's row. -/
namespace Dz
open PySem PySem.Spec PyProof PyProof.Rows L2
/-- the law's promise: at every script of at most 63 ints it gives True -/
def spTrue (K : PySem.W.Frag) (T : List (Addr × Str)) : Sp := fun vs H Q _ => ∃ (F : Hp) (a : Addr) (ns : List Int), vs = [.ref a] ∧ Same F H ∧ TbOk T F H ∧ SqL K F a (ns.map V.int) ∧ ns.length ≤ 63 ∧ ∀ H', Q (.bl true) H'
theorem rpA_ints {K : PySem.W.Frag} {F : Hp} : ∀ ns : List Int, RpA K F (ns.map V.int) (ns.map PyData.int)
  | [] => .nil
  | n :: ns => .cons (.int n) (rpA_ints ns)
section
variable {tb : Tab} {B : Wish} {xs : List Nat} {P : Program} {w : World} {K : PySem.W.Frag} {mg : Str → Option Value} {base : Heap}
theorem law_ok {n i : Nat} {d : Def} {st : Stmt} {f : Addr} {fd : FuncData} (T : Txts tb B xs P w K mg) (hd : drawOk B P w K mg base (rm n)) (hall : allOk tb B P w K mg base n) (hps : d.ps = (["script"] : List Str)) (fn : L2.Fun K d.name d.name st f fd) (sc : FnScope d.N d.ps (defScope st))
    (is : isSL tb d.N true xs d.body (defScope st) (defBody st) = true) (ht : asksTold K B mg base d.name (defScope st) fd)
    (pure : ∀ ns : List Int, ns.length ≤ 63 → wpSL (Phi tb n) d.body (startE d [.fz (.list (ns.map PyData.int))]) 0 noX ⟨fun _ _ => False, fun r _ => r = .bool true, fun _ _ => False, fun _ _ => False⟩) :
    FnG P w K mg base (rm n + 3) f fd ["script"] (spTrue K B.T) := by
  obtain ⟨oc, od, kV, doc, pm, an, cdv, ct, osl, rfl, lk, hcd⟩ := fn.ex
  rw [hps] at sc
  have hpl : 1 ≤ d.N.length := by
    have q := congrArg List.length sc.pre
    rw [List.length_take] at q
    have q' : min 1 d.N.length = 1 := q
    omega
  refine ⟨fun vs H Q E ⟨F, a, ns, e, _⟩ => by rw [e]; rfl, fun A outer s H us vs Q E hr hg e0 hb r h => ?_⟩
  have hl : vs.length = 1 := by
    obtain ⟨F, a, ns, e, _⟩ := h
    rw [e]; rfl
  refine LamX.run_ofS lk hcd sc hr e0 hb r hl fun hr' => ?_
  obtain ⟨F, a, ns, ev, fh, tbk, hS, hlen, k⟩ := h
  subst ev
  have G := good_body (E := E) (H := H) (outer := outer) (cd := cdv) (f := f) T hd hall sc hr' hg ht
  refine ⟨_, sndSL (mk := true) d.body _ (fun cls dd _ H => E cls dd H) _ G (L2N.takes_of rfl rfl rfl rfl) is, ?_⟩
  have pr : Paired (ArgOk K F none) [V.ref a] [SV.fz (.list (ns.map PyData.int))] := .cons (show Rp K F (.ref a) (.list (ns.map PyData.int)) from .lst hS (rpA_ints ns)) .nil
  obtain ⟨sl, no⟩ := start_sl (H := H) (d := d) pr hpl
  refine ⟨F, F, H, none, none, F, _, 0, noX, _, ⟨⟨fh, ⟨rfl, tbk⟩, sl⟩, Step.refl _ _ _, .inl rfl, fun j e x h1 _ => absurd h1 (no j e), Same.refl _⟩, pure ns hlen, ?_⟩
  refine ⟨fun _ _ _ _ _ _ _ q => False.elim q, fun _ _ _ _ _ _ _ q => False.elim q, fun _ _ _ _ _ _ _ q => False.elim q, fun v dd F' H' ast' g' _ _ _ _ rp q => ?_, fun _ _ _ _ _ _ _ _ _ _ _ q _ => False.elim q⟩
  subst q
  cases rp
  exact k H'
end
/-- the law's call behind the top, by such a promise; cs: code objects, their tables and the names that all in one bear -/
theorem law_callG {P : Program} {w : World} {K : PySem.W.Frag} {mg mb : Str → Option Value} {k : Nat} {fa a : Addr} {fd : FuncData} {s₁ : Shared} {vs : List Value} {ns : List Int} {cs : List (Addr × Addr × Str)} (hK : K.In s₁.heap) (hN : s₁.heap.Ns mainGlobals mg) (hB : s₁.heap.Ns builtinsNs mb)
    (hBoot : ∀ x : Str, x ≠ "__name__" → mb x = bootBuiltins x) (lim : s₁.heap.NoLimit) (gens : s₁.gens = #[]) (obj : s₁.heap.get? a = some { cls := .type "list", data := .seq vs.toArray }) (his : IntsAre vs ns) (few : ns.length ≤ 63) (room : Room k callerA)
    (tabs : ∀ p ∈ cs, s₁.heap.get? p.2.1 = some { cls := .none, data := .fields #[] }) (out : ∀ p ∈ cs, K.lookup p.2.1 = none) (codes : ∀ p ∈ cs, PySem.W.CodeHd s₁.heap p.1 p.2.1)
    (bmain : ∃ (bm : Addr) (ob : Obj), mg "__builtins__" = some (.ref bm) ∧ bm ≠ builtinsNs ∧ s₁.heap.get? bm = some ob ∧ ob.cls = .type "module" ∧ ob.dict = some builtinsNs ∧ ob.data = .plain)
    (F : ∀ base : Heap, K.In base → base.Ns mainGlobals mg → (∀ p ∈ cs, LamX.TabB base mg p.1 p.2.1) → FnG P w K mg base k fa fd ["script"] (spTrue K (cs.map (·.2)))) (bind : ∀ (s : Shared) (u : Value), BindsTo s fd ⟨[u], []⟩ [("script", u)]) :
    codeAny (model P w) callerA (.call (.ref fa) ⟨[.ref a], []⟩) (fun r s' => r = .ok (.ret (.bool true)) ∧ OldK s₁.heap s'.heap ∧ s'.os = s₁.os ∧ AllBare s'.gens) s₁ := by
  have line : ns.length ≤ sizeLine := Nat.le_trans few (by decide)
  have vals : Vals (ns.map V.int) vs := vals_ints his
  have szv : vs.length = ns.length := his.length
  have memL : ∀ {b : Addr}, b ∈ cs.map (·.2.1) → ∃ p ∈ cs, p.2.1 = b := fun {b} h => by
    obtain ⟨p, hp, e⟩ := List.mem_map.mp h
    exact ⟨p, hp, e⟩
  have inL : ∀ {p : Addr × Addr × Str}, p ∈ cs → p.2.1 ∈ cs.map (·.2.1) := fun {p} hp => List.mem_map.mpr ⟨p, hp, rfl⟩
  have tabAt : ∀ {b : Addr}, b ∈ cs.map (·.2.1) → s₁.heap.get? b = some { cls := .none, data := .fields #[] } := fun {b} h => by
    obtain ⟨p, hp, e⟩ := memL h
    rw [← e]; exact tabs p hp
  have aOut : a ∉ cs.map (·.2.1) := fun h => by
    have q := tabAt h
    rw [obj] at q
    cases (show Data.seq vs.toArray 0 = Data.fields #[] from congrArg Obj.data (Option.some.inj q))
  -- H tells of the tables, and of the script where it is not of the written part
  have main : ∀ H F0 : Hp, Same F0 H → (∀ b ∈ cs.map (·.2.1), H b = some (.tbl #[]) ∧ F0 b = none) →
      (∀ b u, H b = some u → (b ∈ cs.map (·.2.1) ∧ u = .tbl #[]) ∨ (b = a ∧ K.lookup a = none ∧ u = .frz { cls := .type "list", data := .seq vs.toArray } (.lst (ns.map V.int)))) → SqL K F0 a (ns.map V.int) →
      codeAny (model P w) callerA (.call (.ref fa) ⟨[.ref a], []⟩) (fun r s' => r = .ok (.ret (.bool true)) ∧ OldK s₁.heap s'.heap ∧ s'.os = s₁.os ∧ AllBare s'.gens) s₁ := by
    intro H F0 fh hT one sq
    have hok : HOk P w H s₁.heap := fun b u e => by
      rcases one b u e with ⟨hb, rfl⟩ | ⟨rfl, _, rfl⟩
      · exact tabAt hb
      · exact ⟨obj, by rw [List.length_map]; exact line, vs, _, vals, obj⟩
    have plainFree : ∀ {b : Addr} {o : Obj}, s₁.heap.get? b = some o → (∀ x n, o.data ≠ .seq x n) → o.data ≠ .fields #[] → H b = none := fun {b o} e n1 n2 => by
      cases q : H b with
      | none => rfl
      | some u =>
        rcases one b u q with ⟨hb, _⟩ | ⟨hb, _⟩
        · rw [tabAt hb] at e; cases e; exact absurd rfl n2
        · rw [hb, obj] at e; cases e; exact absurd rfl (n1 _ _)
    have dictFree : ∀ {b : Addr} {o : Obj} {es : Array DictEntry} {ep : Nat}, s₁.heap.get? b = some o → o.data = .dict es ep → H b = none := fun {b o es ep} e d =>
      plainFree e (fun _ _ z => by rw [d] at z; cases z) fun z => by rw [d] at z; cases z
    have nsB : ∀ {b : Addr} {m : Str → Option Value}, s₁.heap.Ns b m → (hidT s₁.heap H).Ns b m := by
      rintro b m ⟨o, es, ep, e, d, rest⟩
      exact ⟨o, es, ep, hidT_get e (dictFree e d), d, rest⟩
    have inB : K.In (hidT s₁.heap H) := fun b o e => hidT_get (hK b o e) (by
      cases q : H b with
      | none => rfl
      | some u =>
        rcases one b u q with ⟨hb, _⟩ | ⟨z, no, _⟩
        · obtain ⟨p, hp, ep⟩ := memL hb
          rw [← ep, out p hp] at e; cases e
        · rw [z, no] at e; cases e)
    have md : L2.Mod K mg (hidT s₁.heap H) := by
      obtain ⟨mc, l1, l2⟩ := lim
      exact ⟨inB, nsB hN, ⟨mb, nsB hB, hBoot⟩, ⟨mc, nsB l1, l2⟩⟩
    have TB : ∀ p ∈ cs, LamX.TabB (hidT s₁.heap H) mg p.1 p.2.1 := fun p hp => by
      have tp := tabs p hp
      refine ⟨?_, ?_, fun z => ?_⟩
      · obtain ⟨o, us, file, tf, fl, tg, inF, txt, tt, e1, r1, r2, r3, r4, r5, r6, r7, r8, ne⟩ := codes p hp
        exact ⟨o, us, file, tf, fl, tg, inF, txt, tt, hidT_get e1 (plainFree e1 (fun _ _ z => by rw [r2] at z; cases z) fun z => by rw [r2] at z; cases z; simp at r3), r1, r2, r3, r4, r5, r6, r7, r8, ne⟩
      · obtain ⟨bm, ob, b1, b2, b3, b4, b5, b6⟩ := bmain
        have nG : bm ≠ mainGlobals := fun q => by
          obtain ⟨o, es, ep, e, hd, _⟩ := hN
          rw [q, e] at b3
          cases b3
          rw [hd] at b6
          cases b6
        have nP : bm ≠ p.2.1 := fun q => by
          rw [q, tp] at b3
          cases b3
          cases b6
        exact ⟨bm, ob, b1, b2, nG, nP, hidT_get b3 (plainFree b3 (fun _ _ z => by rw [b6] at z; cases z) fun z => by rw [b6] at z; cases z), b4, b5, b6⟩
      · obtain ⟨o, es, ep, e, hd, _⟩ := hN
        rw [z, tp] at e
        cases e
        cases hd
    have e0 : Env0 P w K mg (hidT s₁.heap H) callerA [] s₁ H := ⟨rfl, md, fun b o e => of_hidT e, Nat.le_of_eq (hidT_size _ _), trivial, fun b hb => absurd (show b ∈ ([] : List Addr) from hb) List.not_mem_nil, hok, .of_eq gens⟩
    have tbk : TbOk (cs.map (·.2)) F0 H := by
      refine ⟨fun q hq => ?_, fun b ps e => ?_, fun q hq => ?_⟩
      · obtain ⟨p, hp, e⟩ := List.mem_map.mp hq
        rw [← e]
        exact LamX.TabS.nil (hT _ (inL hp)).1
      · rcases one b _ e with ⟨hb, _⟩ | ⟨_, _, z⟩
        · obtain ⟨p, hp, ep⟩ := memL hb
          exact ⟨p.2.2, List.mem_map.mpr ⟨p, hp, by rw [← ep]⟩⟩
        · cases z
      · obtain ⟨p, hp, e⟩ := List.mem_map.mp hq
        rw [← e]
        exact (hT _ (inL hp)).2
    have run := (F _ inB (nsB hN) TB).run callerA [] s₁ H [.ref a] [.ref a] (fun v _ => v = .bl true) (fun _ _ _ => False) room rfl e0 (bind s₁ (.ref a)) (.cons rfl .nil) ⟨F0, a, ns, rfl, fh, tbk, sq, few, fun _ => rfl⟩
    refine codeAny_mono run ?_
    intro res s' q
    match res, q with
    | .error e, q =>
      obtain ⟨_, _, _, _, _, _, _, _, _, _, _, _, z⟩ := q
      exact z.elim
    | .ok (.ret u), q =>
      obtain ⟨v, H', os, bare, un, hok', rel, qv⟩ := q
      subst qv
      have eu : u = Value.bool true := rel
      subst eu
      have keepB : ∀ b o, b ∉ cs.map (·.2.1) → s₁.heap.get? b = some o → s'.heap.get? b = some o := fun b o nb e => by
        cases hb : H b with
        | none => exact un.keep b o e hb (fun z => nomatch z) (fun z => nomatch z)
        | some x =>
          rcases one b x hb with ⟨z, _⟩ | ⟨z, _, ex⟩
          · exact absurd z nb
          · subst ex
            have k1 := hok b _ hb
            have k2 := hok' b _ (un.frzs b _ _ hb)
            have g1 : s₁.heap.get? b = some { cls := .type "list", data := .seq vs.toArray } := k1.1
            have g2 : s'.heap.get? b = some { cls := .type "list", data := .seq vs.toArray } := k2.1
            rw [e] at g1
            rw [g1]
            exact g2
      have more : ∀ b ∈ cs.map (·.2.1), ∃ m : Array Value, s'.heap.get? b = some { cls := .none, data := .fields m } := fun b hb => by
        obtain ⟨m, z⟩ := un.tbls b #[] (hT b hb).1
        exact ⟨_, hok' b _ z⟩
      refine ⟨rfl, ⟨fun b o e => ?_, fun b o e => ?_⟩, os, bare⟩
      · by_cases hb : b ∈ cs.map (·.2.1)
        · obtain ⟨m, hm⟩ := more b hb
          obtain ⟨p, hp, ep⟩ := memL hb
          rw [tabAt hb] at e
          cases e
          refine .inr (.inl ⟨by rw [← ep]; exact ((codes p hp).tab (tabs p hp)).isCodeTable, rfl, #[], m, rfl, by rw [Array.empty_append]; exact hm⟩)
        · exact .inl (keepB b o hb e)
      · by_cases hb : b ∈ cs.map (·.2.1)
        · obtain ⟨m, hm⟩ := more b hb
          exact ⟨_, hm⟩
        · exact ⟨o, keepB b o hb e⟩
  cases hk : K.lookup a with
  | some o =>
    have same := hK a o hk
    rw [obj] at same
    cases same
    refine main (fun b => if b ∈ cs.map (·.2.1) then some (.tbl #[]) else none) (fun _ => none) (fun _ _ z => nomatch z) (fun b hb => ⟨if_pos hb, rfl⟩) (fun b u z => ?_) (.inr ⟨_, vs.toArray, _, hk, rfl, rfl, rfl, ?_, by simpa using vals⟩)
    · by_cases hb : b ∈ cs.map (·.2.1)
      · exact .inl ⟨hb, (Option.some.inj ((if_pos hb).symm.trans z)).symm⟩
      · cases (if_neg hb).symm.trans z
    · rw [List.size_toArray, szv]
      exact line
  | none =>
    refine main (fun b => if b = a then some (.frz { cls := .type "list", data := .seq vs.toArray } (.lst (ns.map V.int))) else if b ∈ cs.map (·.2.1) then some (.tbl #[]) else none)
      (fun b => if b = a then some (.frz { cls := .type "list", data := .seq vs.toArray } (.lst (ns.map V.int))) else none) (fun b u z => ?_) (fun b hb => ?_) (fun b u z => ?_) (.inl (.inr ⟨_, if_pos rfl⟩))
    · by_cases hb : b = a
      · exact (if_pos hb).trans ((if_pos hb).symm.trans z)
      · cases (if_neg hb).symm.trans z
    · have hba : b ≠ a := fun e => aOut (by rw [← e]; exact hb)
      exact ⟨(if_neg hba).trans (if_pos hb), if_neg hba⟩
    · by_cases hb : b = a
      · exact .inr ⟨hb, hk, (Option.some.inj ((if_pos hb).symm.trans z)).symm⟩
      · have z' := (if_neg hb).symm.trans z
        by_cases hc : b ∈ cs.map (·.2.1)
        · exact .inl ⟨hc, (Option.some.inj ((if_pos hc).symm.trans z')).symm⟩
        · cases (if_neg hc).symm.trans z'
/-- what the head knows of the tables: each def that stands at the top has an empty one -/
def TopTabs (q : Program) (mg : Str → Option Value) (h : Heap) : Prop :=
  ∀ d ∈ recsOf q, ∃ a o fd c P, mg d.name = some (.ref a) ∧ h.get? a = some o ∧ o.data = .func fd ∧ fd.code = .ref c ∧ h.IsCode c P #[] ∧ h.TableAt c P #[]
/-- the goal that k_head leaves, from the law's promise -/
theorem walkG {l : PySem.W.OpenLaw} {k : Nat} {q : Program} {loose : List Str} {XP : (Str → Option Value) → Heap → Prop} {YP : World → Heap → Prop} {d : DefRec} {K : Params → PySem.W.Frag} (hm : l.most = some 63) (hdf : d.params.defaults = []) (room : Room k callerA)
    (hY : ∀ (w : World) (h : Heap), YP w h → (K w.params).In h)
    (F : ∀ (w : World) (mg : Str → Option Value) (fa : Addr) (h : Heap), (K w.params).In h → h.Ns mainGlobals mg → mg d.name = some (.ref fa) → TopTabs q mg h →
      ∃ (fd : FuncData) (cs : List (Addr × Addr × Str)), (∀ p ∈ cs, h.get? p.2.1 = some { cls := .none, data := .fields #[] }) ∧ (∀ p ∈ cs, (K w.params).lookup p.2.1 = none) ∧ (∀ p ∈ cs, PySem.W.CodeHd h p.1 p.2.1) ∧ (∀ (s : Shared) (u : Value), BindsTo s fd ⟨[u], []⟩ [("script", u)]) ∧
        ∀ base : Heap, (K w.params).In base → base.Ns mainGlobals mg → (∀ p ∈ cs, LamX.TabB base mg p.1 p.2.1) → FnG l.prog w (K w.params) mg base k fa fd ["script"] (spTrue (K w.params) (cs.map (·.2)))) :
    PySem.W.WalkO q loose XP YP l.row.toRowW d [] (fun f vs => PySem.call f vs) := by
  refine Att.attach_call hm hdf ?_
  intro w s₀ s₁ mg mb fa o pm cd doc a vs ns G Y ho hd hcd hmg hobj hints hlen hg
  have hK := hY w _ Y
  obtain ⟨fd, cs, c1, c2, c3, hb, hF⟩ := F w mg fa _ hK G.T.g hmg G.T.tab
  exact law_callG hK G.T.g G.T.b G.T.builtins G.T.nolimit hg hobj hints hlen room c1 c2 c3 G.T.bmain hF hb
end Dz
set_option Elab.async false
set_option linter.all false
set_option maxRecDepth 100000
/-! Dz: the draws of a law (_law_next). -/
namespace Dz
open PySem PySem.Spec PyProof PyProof.Rows L2
def nextSc : Scope := { kind := .function, names := [(PySem.Str.ofString "state", .local), (PySem.Str.ofString "many", .local), (PySem.Str.ofString "turn", .local), (PySem.Str.ofString "len", .globalImplicit), (PySem.Str.ofString "int", .globalImplicit)], isGenerator := false, isCoroutine := false, more := [] }
theorem nextScope : FnScope ["state", "many", "turn"] ["state", "many"] nextSc := ⟨rfl, rfl, rfl, by decide +kernel, rfl, by decide +kernel, by decide +kernel⟩
/-- state[i] of the text -/
def stE (i : Int) (p q r : Pos) : Expr := .Subscript (.Name "state" p) (.Constant (.int i) 0 q) r
def lenE (p q r a b : Pos) : Expr := .Call (.Name "len" a) [stE 0 p q r] [] b
def next1 (p q r p' q' r' a b c : Pos) : Stmt := .Assign [stE 1 p q r] (.BinOp (stE 1 p' q' r') .Add (.Constant (.int 1) 0 a) b) c
def next2 (n p q r p' q' r' a b c d : Pos) : Stmt := .Assign [.Name "turn" n] (.BinOp (stE 1 p q r) .FloorDiv (lenE p' q' r' a b) c) d
def nextI (p q r p' q' r' p2 q2 r2 a b c d : Pos) : Expr := .Subscript (stE 0 p q r) (.BinOp (stE 1 p' q' r') .Mod (lenE p2 q2 r2 a b) c) d
def nextM (n c d : Pos) : Expr := .BinOp (.Name "turn" n) .Mult (.Constant (.int 389) 0 c) d
def nextN (p q r n a b c : Pos) : Expr := .BinOp (.BinOp (stE 1 p q r) .Mult (.Name "turn" n) a) .Mult (.Constant (.int 17) 0 b) c
def next3 (e1 e2 e3 : Expr) (a b c d n x y : Pos) : Stmt := .Return (some (.BinOp (.Call (.Name "int" a) [.BinOp (.BinOp e1 .Add e2 b) .Add e3 c] [] d) .Mod (.Name "many" n) x)) y
section
variable {B : Wish} {P : Program} {w : World} {K : PySem.W.Frag} {mg : Str → Option Value} {base : Heap}
section
variable {X : Cx}
/-- state[i] -/
def t_st (i : Int) : TE := tOp (rIxL X.K) (tVar 0) (tC (.int i))
end
theorem next_ok {st : Stmt} {f : Addr} {fd : FuncData} (fn : L2.Fun K "_law_next" "_law_next" st f fd) (hl : mg "len" = none) (hi : mg "int" = none) (hsc : defScope st = nextSc)
    {p0 p1 p2 p3 p4 p5 p6 p7 p8 q0 q1 q2 q3 q4 q5 q6 q7 q8 q9 q10 : Pos} {r0 r1 r2 r3 r4 r5 r6 r7 r8 r9 r10 r11 r12 s0 s1 s2 t0 t1 t2 t3 t4 t5 t6 u0 u1 u2 u3 u4 u5 u6 : Pos}
    (hb : defBody st = [next1 p0 p1 p2 p3 p4 p5 p6 p7 p8, next2 q0 q1 q2 q3 q4 q5 q6 q7 q8 q9 q10, next3 (nextI r0 r1 r2 r3 r4 r5 r6 r7 r8 r9 r10 r11 r12) (nextM s0 s1 s2) (nextN t0 t1 t2 t3 t4 t5 t6) u0 u1 u2 u3 u4 u5 u6])
    (hl1 : p6.line = p6.line := rfl) : FnG P w K mg base 1 f fd ["state", "many"] (spNext K B) := by
  obtain ⟨oc, od, kV, doc, pm, an, cdv, ct, osl, rfl, lk, hcd⟩ := fn.ex
  refine ⟨fun vs H Q E ⟨F, a, m, g, e, _⟩ => by rw [e]; rfl, fun A outer s H us vs Q E hr hg e0 hbi r h => ?_⟩
  have sc : FnScope ["state", "many", "turn"] ["state", "many"] (defScope st) := by
    rw [hsc]
    exact nextScope
  have hlen : vs.length = 2 := by
    obtain ⟨F, a, m, g, e, _⟩ := h
    rw [e]; rfl
  refine LamX.run_ofS lk hcd sc hr e0 hbi r hlen fun hr' => ?_
  rw [hb, hsc]
  refine ⟨_, pss_cons (ps_asg (pe_op op_add (pe_ix ix_list (pv 0) pe_int fun _ _ => rfl) pe_int) (pg_sub (pv 0) pe_int set_list))
    (pss_cons (ps_set (i := 2) nextScope.nd rfl (Or.inl rfl) (pe_op op_fdivN (pe_ix ix_list (pv 0) pe_int fun _ _ => rfl) (pe_callB call_len_seq (by rfl) hl PySem.boot_len (pa_cons (pe_ix ix_list (pv 0) pe_int fun _ _ => rfl) pa_nil))))
    (pss_one (ps_ret (pe_op op_mod (pe_callTy call_int1 (by rfl) hi (by rfl) (pa_cons (pe_op op_add (pe_op op_add (pe_ix ix_list (pe_ix ix_list (pv 0) pe_int fun _ _ => rfl) (pe_op op_modN (pe_ix ix_list (pv 0) pe_int fun _ _ => rfl) (pe_callB call_len_seq (by rfl) hl PySem.boot_len (pa_cons (pe_ix ix_list (pv 0) pe_int fun _ _ => rfl) pa_nil))) fun _ _ => rfl)
      (pe_op op_mul (pv 2) pe_int)) (pe_op op_mul (pe_op op_mul (pe_ix ix_list (pv 0) pe_int fun _ _ => rfl) (pv 2)) pe_int)) pa_nil)) (pv 1))))), ?_⟩
  obtain ⟨F, a, m, g, ev, fh, ⟨⟨fa, b, c, x, xs, ha, rb, c0, cg, g0, hx⟩, tbk⟩, m0, g1, k⟩ := h
  subst ev
  have rb0 := rb
  cases rb with
  | @lst _ vs _ hS hA =>
  have hvl : vs.length = xs.length + 1 := by
    rw [hA.length, List.length_cons, List.length_map]
  have n0 : (0 : Int) < (vs.length : Int) := by omega
  have fh1 : Same F (upd H a (.lst [.ref b, .int (c + 1)])) := fun b' o e => by
    rw [upd_ne (ne_of_none e fa)]
    exact fh b' o e
  have hu : (upd H a (HO.lst [.ref b, .int (c + 1)])) a = some (.lst [.ref b, .int (c + 1)]) := upd_same
  have hS1 : SqL K (upd H a (.lst [.ref b, .int (c + 1)])) b vs := Same.sqL fh1 hS
  obtain ⟨y, hy⟩ : ∃ y : Int, atI vs ((c + 1).fmod (vs.length : Int)) = some (.int y) := by
    have e0 : 0 ≤ (c + 1).fmod (vs.length : Int) := by rw [Int.fmod_eq_emod_of_nonneg _ (Int.le_of_lt n0)]; exact Int.emod_nonneg _ (Int.ne_of_gt n0)
    have e1 : (c + 1).fmod (vs.length : Int) < vs.length := Int.fmod_lt_of_pos _ n0
    have hj : ((c + 1).fmod (vs.length : Int)).toNat < vs.length := by omega
    obtain ⟨v, ev⟩ : ∃ v, vs[((c + 1).fmod (vs.length : Int)).toNat]? = some v := ⟨_, List.getElem?_eq_getElem hj⟩
    obtain ⟨d, ed, rd⟩ := hA.get' ev
    have di : ∃ y : Int, d = .int y := by
      generalize ((c + 1).fmod (vs.length : Int)).toNat = j at ed
      cases j with
      | zero => exact ⟨x, (Option.some.inj ed).symm⟩
      | succ j =>
        rw [List.getElem?_cons_succ, List.getElem?_map] at ed
        cases e : xs[j]? with
        | none => rw [e] at ed; cases ed
        | some z => rw [e] at ed; exact ⟨z, (Option.some.inj ed).symm⟩
    obtain ⟨y, rfl⟩ := di
    cases rd
    refine ⟨y, ?_⟩
    unfold atI L2.ixN
    rw [if_pos e0, if_pos e1]
    exact ev
  have tb : ∀ t : Int, t = (c + 1).fdiv (vs.length : Int) → 0 ≤ t ∧ t ≤ c + 1 := fun t e => by
    rw [e, Int.fdiv_eq_ediv_of_nonneg _ (Int.le_of_lt n0)]
    exact ⟨Int.ediv_nonneg (by omega) (by omega), Int.ediv_le_self _ (by omega)⟩
  obtain ⟨t0, t1⟩ := tb _ rfl
  -- state[1] = state[1] + 1
  refine ⟨_, rfl, ?_⟩
  refine ⟨a, _, 1, _, rfl, rfl, SqL.of ha, rfl, ?_⟩
  refine ⟨_, _, rfl, rfl, ?_⟩
  refine ⟨_, rfl, a, _, 1, 1, rfl, rfl, ha, rfl, ?_⟩
  -- turn = state[1] // len(state[0])
  refine ⟨_, rfl, ?_⟩
  refine ⟨a, _, 1, _, rfl, rfl, SqL.of hu, rfl, ?_⟩
  refine ⟨_, rfl, ?_⟩
  refine ⟨a, _, 0, _, rfl, rfl, SqL.of hu, rfl, ?_⟩
  refine ⟨b, vs, rfl, .inl hS1, ?_⟩
  refine ⟨_, _, rfl, rfl, ⟨by omega, by omega⟩, ?_⟩
  -- the answer
  refine ⟨_, rfl, ?_⟩
  refine ⟨a, _, 0, _, rfl, rfl, SqL.of hu, rfl, ?_⟩
  refine ⟨_, rfl, ?_⟩
  refine ⟨a, _, 1, _, rfl, rfl, SqL.of hu, rfl, ?_⟩
  refine ⟨_, rfl, ?_⟩
  refine ⟨a, _, 0, _, rfl, rfl, SqL.of hu, rfl, ?_⟩
  refine ⟨b, vs, rfl, .inl hS1, ?_⟩
  refine ⟨_, _, rfl, rfl, by omega, ?_⟩
  refine ⟨b, vs, _, _, rfl, rfl, hS1, hy, ?_⟩
  refine ⟨_, rfl, ?_⟩
  refine ⟨_, _, rfl, rfl, .inr ⟨by decide, by decide⟩, ?_⟩
  refine ⟨_, _, rfl, rfl, ?_⟩
  refine ⟨_, rfl, ?_⟩
  refine ⟨a, _, 1, _, rfl, rfl, SqL.of hu, rfl, ?_⟩
  refine ⟨_, rfl, ?_⟩
  refine ⟨_, _, rfl, rfl, .inl ⟨by omega, by omega⟩, ?_⟩
  refine ⟨_, _, rfl, rfl, .inr ⟨by decide, by decide⟩, ?_⟩
  refine ⟨_, _, rfl, rfl, ?_⟩
  refine .inl ⟨_, rfl, ?_⟩
  refine ⟨_, rfl, ?_⟩
  refine ⟨_, _, rfl, rfl, m0, ?_⟩
  refine k _ _ (Int.emod_nonneg _ (by omega)) (Int.emod_lt_of_pos _ m0) ⟨Same.refl F, fun b' o e ne _ => ?_, dom_upd (fun _ h => h), fun b' _ e _ => e⟩ fh1 ⟨⟨fa, b, c + 1, x, xs, hu, rb0, by omega, by omega, by omega, hx⟩, tbk.upd ha (fun _ z => nomatch z) (fun _ _ z => nomatch z) fun _ z => nomatch z⟩
  rw [upd_ne fun z => ne (by rw [z])]
  exact e
end
end Dz
set_option Elab.async false
set_option linter.all false
set_option maxRecDepth 100000
/-! Dz: from the facts of a law's top to the law's promise. -/
namespace Dz
open PySem PySem.Spec PyProof PyProof.Rows L2
/-- the top has written the def st under its name -/
def DefFact (K : PySem.W.Frag) (x : Str) (st : Stmt) : Prop :=
  ∃ (f : Addr) (oc : Value) (od : Option Addr) (kV doc pm : Value) (an : Option Addr) (cd ct : Value) (osl : Array (Option Value)),
    PySem.W.nsIn K mainGlobals x = some (some (.ref f)) ∧ K.lookup f = some ⟨oc, od, .func (PySem.W.fnOf x x (defArgs st) (defBody st) (defScope st) .none kV doc pm an cd ct), osl⟩ ∧ PySem.W.codeIn K cd x = true ∧ PySem.W.keepIn K (.ref f) = true
theorem def_fact {K : PySem.W.Frag} {x : Str} {st : Stmt} {f : Addr} {oc : Value} {od : Option Addr} {kV doc pm : Value} {an : Option Addr} {cd ct : Value} {osl : Array (Option Value)}
    (a : PySem.W.nsIn K mainGlobals x = some (some (.ref f))) (l : K.lookup f = some ⟨oc, od, .func (PySem.W.fnOf x x (defArgs st) (defBody st) (defScope st) .none kV doc pm an cd ct), osl⟩) (c : PySem.W.codeIn K cd x = true) (k : PySem.W.keepIn K (.ref f) = true) :
    DefFact K x st := ⟨f, oc, od, kV, doc, pm, an, cd, ct, osl, a, l, c, k⟩
theorem DefFact.use {K : PySem.W.Frag} {x : Str} {st : Stmt} {h : Heap} {mg : Str → Option Value} (D : DefFact K x st) (X : K.In h) (G : h.Ns mainGlobals mg) : ∃ f fd, mg x = some (.ref f) ∧ L2.Fun K x x st f fd := by
  obtain ⟨f, oc, od, kV, doc, pm, an, cd, ct, osl, a, l, c, k⟩ := D
  exact ⟨f, _, PySem.W.mg_of X G a, fun_mk l c k⟩
theorem rec_of {q : Program} {x : Str} (h : (recsOf q).any (fun d => d.name == x) = true) : ∃ d ∈ recsOf q, d.name = x := by
  obtain ⟨d, hd, e⟩ := List.any_eq_true.mp h
  exact ⟨d, hd, eq_of_beq e⟩
/-- the top has made the exception class x, at C -/
def ExcFact (K : PySem.W.Frag) (x : Str) (C : Addr) : Prop :=
  PySem.W.nsIn K mainGlobals x = some (some (.ref C)) ∧ PySem.W.excIn K C [.type "ValueError", .type "Exception", .type "BaseException", .type "object"] "ValueError.__new__" = true ∧ PySem.W.keepIn K (.ref C) = true ∧
    PySem.W.subIn K (.ref C) (.type "BaseException") = some true ∧ PySem.W.typeIn K (.ref C) = some (.type "type")
theorem exc_fact {K : PySem.W.Frag} {x : Str} {C : Addr} (a : PySem.W.nsIn K mainGlobals x = some (some (.ref C))) (q : PySem.W.excIn K C [.type "ValueError", .type "Exception", .type "BaseException", .type "object"] "ValueError.__new__" = true) (k : PySem.W.keepIn K (.ref C) = true)
    (s : PySem.W.subIn K (.ref C) (.type "BaseException") = some true) (t : PySem.W.typeIn K (.ref C) = some (.type "type")) : ExcFact K x C := ⟨a, q, k, s, t⟩
def isIntV : Value → Int → Bool
  | .int i _, j => i == j
  | _, _ => false
theorem cst_fact {K : PySem.W.Frag} {x : Str} {v : Value} {i : Int} (a : PySem.W.nsIn K mainGlobals x = some (some v)) (h : isIntV v i = true) : ∃ t, PySem.W.nsIn K mainGlobals x = some (some (.int i t)) := by
  cases v <;> first | (cases h; done) | skip
  have e := eq_of_beq h
  subst e
  exact ⟨_, a⟩
/-- a module's constant tuple -/
def TupFact (K : PySem.W.Frag) (x : Str) (ls : List Lit) : Prop := ∃ (a : Addr) (o : Obj) (its : Array Value) (n : Nat), PySem.W.nsIn K mainGlobals x = some (some (.ref a)) ∧ K.lookup a = some o ∧ o.cls = .type "tuple" ∧ o.data = .seq its n ∧ litsB ls its.toList = true
where
  litB : Lit → Value → Bool
    | .int i, .int j _ => i == j
    | .str x, .str y _ => x == y
    | _, _ => false
  litsB : List Lit → List Value → Bool
    | [], [] => true
    | l :: ls, v :: vs => litB l v && litsB ls vs
    | _, _ => false
theorem tup_fact {K : PySem.W.Frag} {x : Str} {ls : List Lit} {a : Addr} {od : Option Addr} {its : Array Value} {n : Nat} {os : Array (Option Value)} (h : PySem.W.nsIn K mainGlobals x = some (some (.ref a))) (l : K.lookup a = some ⟨.type "tuple", od, .seq its n, os⟩) (q : TupFact.litsB ls its.toList = true) : TupFact K x ls :=
  ⟨a, _, its, n, h, l, rfl, rfl, q⟩
def litV : Lit → V
  | .int i => .int i
  | .str x => .str x
theorem lits_vals : ∀ {ls : List Lit} {vs : List Value}, TupFact.litsB ls vs = true → Vals (ls.map litV) vs
  | [], [], _ => .nil
  | [], _ :: _, h => by cases h
  | _ :: _, [], h => by cases h
  | l :: ls, v :: vs, h => by
    unfold TupFact.litsB at h
    obtain ⟨h1, h2⟩ := and_of h
    refine .cons ?_ (lits_vals h2)
    cases l <;> cases v <;> first | (cases h1; done) | skip
    · have e := eq_of_beq h1
      subst e
      exact ⟨_, rfl⟩
    · have e := eq_of_beq h1
      subst e
      exact ⟨_, rfl⟩
theorem lits_rp {K : PySem.W.Frag} {F : Hp} : ∀ ls : List Lit, RpA K F (ls.map litV) (ls.map litD)
  | [] => .nil
  | .int i :: ls => .cons (.int i) (lits_rp ls)
  | .str x :: ls => .cons (.str x) (lits_rp ls)
theorem TupFact.use {K : PySem.W.Frag} {x : Str} {ls : List Lit} {h : Heap} {mg : Str → Option Value} (D : TupFact K x ls) (few : ls.length ≤ 1000) (X : K.In h) (G : h.Ns mainGlobals mg) : ∃ a : Addr, mg x = some (.ref a) ∧ ∀ F, Rp K F (.ref a) (.tuple (ls.map litD)) := by
  obtain ⟨a, o, its, n, e, l, c, d, q⟩ := D
  have r := lits_vals q
  have hl : ls.length = its.size := by
    have q := r.length
    rw [List.length_map] at q
    exact q
  exact ⟨a, PySem.W.mg_of X G e, fun F => .tup (.inr ⟨o, its, n, l, c, d, by rw [sizeLine_eq]; omega, r⟩) (lits_rp ls)⟩
/-- the table of a code object -/
def tabIn (K : PySem.W.Frag) (cd : Value) : Option Addr := match cd with
  | .ref c => (match K.lookup c with
    | some ⟨_, _, .fields vs, _⟩ => (match (vs[11]? : Option Value) with | some (Value.ref P) => some P | _ => none)
    | _ => none)
  | _ => none
/-- the top has written the def st, in which lambdas are made: its code object at cc, the table at P -/
def LamDef (K : PySem.W.Frag) (x : Str) (st : Stmt) (cc P : Addr) : Prop :=
  ∃ (f : Addr) (oc : Value) (od : Option Addr) (kV doc pm : Value) (an : Option Addr) (ct : Value) (osl : Array (Option Value)),
    PySem.W.nsIn K mainGlobals x = some (some (.ref f)) ∧ K.lookup f = some ⟨oc, od, .func (PySem.W.fnOf x x (defArgs st) (defBody st) (defScope st) .none kV doc pm an (.ref cc) ct), osl⟩ ∧ PySem.W.codeIn K (.ref cc) x = true ∧ PySem.W.keepIn K (.ref f) = true ∧ tabIn K (.ref cc) = some P ∧ K.lookup P = none
theorem lam_fact {K : PySem.W.Frag} {x : Str} {st : Stmt} {cc P f : Addr} {oc : Value} {od : Option Addr} {kV doc pm : Value} {an : Option Addr} {ct : Value} {osl : Array (Option Value)}
    (a : PySem.W.nsIn K mainGlobals x = some (some (.ref f))) (l : K.lookup f = some ⟨oc, od, .func (PySem.W.fnOf x x (defArgs st) (defBody st) (defScope st) .none kV doc pm an (.ref cc) ct), osl⟩) (c : PySem.W.codeIn K (.ref cc) x = true) (k : PySem.W.keepIn K (.ref f) = true) (t : tabIn K (.ref cc) = some P) (n : K.lookup P = none) :
    LamDef K x st cc P := ⟨f, oc, od, kV, doc, pm, an, ct, osl, a, l, c, k, t, n⟩
theorem LamDef.use {K : PySem.W.Frag} {x : Str} {st : Stmt} {cc P : Addr} {h : Heap} {mg : Str → Option Value} (D : LamDef K x st cc P) (X : K.In h) (G : h.Ns mainGlobals mg) : ∃ f fd, mg x = some (.ref f) ∧ L2.Fun K x x st f fd ∧ fd.code = .ref cc := by
  obtain ⟨f, oc, od, kV, doc, pm, an, ct, osl, a, l, c, k, t, n⟩ := D
  exact ⟨f, _, PySem.W.mg_of X G a, fun_mk l c k, rfl⟩
theorem LamDef.tab {K : PySem.W.Frag} {x : Str} {st : Stmt} {cc P : Addr} {h : Heap} {mg : Str → Option Value} {q : Program} (D : LamDef K x st cc P) (X : K.In h) (G : h.Ns mainGlobals mg) (T : TopTabs q mg h) (hq : ∃ d ∈ recsOf q, d.name = x) :
    h.get? P = some { cls := .none, data := .fields #[] } ∧ K.lookup P = none ∧ PySem.W.CodeHd h cc P := by
  obtain ⟨f, oc, od, kV, doc, pm, an, ct, osl, a, l, c, k, t, n⟩ := D
  obtain ⟨d, hd, e⟩ := hq
  obtain ⟨f', o, fd, c', P', m1, m2, m3, m4, m5, m6⟩ := T d hd
  have e1 := PySem.W.mg_of X G a
  rw [e, e1] at m1
  cases m1
  have e2 := X _ _ l
  rw [m2] at e2
  cases e2
  cases m3
  cases m4
  unfold tabIn at t
  dsimp only at t
  split at t
  · next hk =>
    split at t
    · next hv =>
      cases t
      have g := X _ _ hk
      have hd := PySem.W.CodeHd.of m5 m6
      obtain ⟨⟨o, vs, a1, a2, a3, a4⟩, a5⟩ := m6
      rw [a1] at g
      cases g
      cases a3
      rw [a4] at hv
      cases hv
      exact ⟨a5, n, hd⟩
    · cases t
  · cases t
section
variable {tb : Tab} {B : Wish} {xs : List Nat} {P : Program} {w : World} {K : PySem.W.Frag} {mg : Str → Option Value} {base h : Heap}
theorem txts_of (c : Nat → Addr) (X : K.In h) (G : h.Ns mainGlobals mg) (hB : ∀ m ∈ xs, B.ok (.cls m) (.ref (c m))) (b : ∀ x ∈ blts, PySem.W.nsIn K mainGlobals x = some none) (e : ∀ m ∈ xs, ExcFact K (exName m) (c m)) (cf : ∀ p ∈ tb.cs, ∃ t, PySem.W.nsIn K mainGlobals p.1 = some (some (.int p.2 t)))
    (tf : ∀ p ∈ tb.ts, p.2.length ≤ 1000 ∧ TupFact K p.1 p.2) : Txts tb B xs P w K mg where
  blt := fun x hx => PySem.W.mg_none_of X G (b x hx)
  cst := fun x i hx => by
    obtain ⟨t, e⟩ := cf _ hx
    exact ⟨t, PySem.W.mg_of X G e⟩
  tup := fun x ls hx => (tf _ hx).2.use (tf _ hx).1 X G
  exc := fun m hm => by
    obtain ⟨a, q, k, s, t⟩ := e m hm
    exact ⟨c m, PySem.W.mg_of X G a, q, k, s, t, hB m hm⟩
theorem all0 {α : Type} {p : α → Prop} : ∀ m ∈ ([] : List α), p m := fun _ h => absurd h List.not_mem_nil
theorem all1 {α : Type} {p : α → Prop} {a : α} {l : List α} (h : p a) (r : ∀ m ∈ l, p m) : ∀ m ∈ a :: l, p m := fun m hm => by
  rcases List.mem_cons.mp hm with e | e
  · rw [e]; exact h
  · exact r m e
/-- each def of a list stands in the text; told: what it wants where it asks _law_told -/
def allDefs (tb : Tab) (xs : List Nat) (K : PySem.W.Frag) (B : Wish) (mg : Str → Option Value) (base : Heap) : List Def → Prop
  | [] => True
  | d :: r => (∃ st fa fd, DefAt tb xs K mg d st fa fd ∧ asksTold K B mg base d.name (defScope st) fd) ∧ allDefs tb xs K B mg base r
theorem allDefs_get : ∀ {l : List Def}, allDefs tb xs K B mg base l → ∀ (f : Nat) d, l[f]? = some d → ∃ st fa fd, DefAt tb xs K mg d st fa fd ∧ asksTold K B mg base d.name (defScope st) fd
  | [], _, _, _, e => by simp at e
  | d :: r, h, 0, _, e => by
    have e' : d = _ := Option.some.inj e
    subst e'
    exact h.1
  | d :: r, h, f + 1, e', e => allDefs_get (l := r) h.2 f e' (by simpa using e)
/-- a def that makes no lambda -/
theorem defAt_of {d : Def} {st : Stmt} (X : K.In h) (G : h.Ns mainGlobals mg) (D : DefFact K d.name st) (sc : FnScope d.N d.ps (defScope st)) (is : isSL tb d.N false xs d.body (defScope st) (defBody st) = true)
    (bi : ∀ f fd, L2.Fun K d.name d.name st f fd → Binds K fd d.ps []) (nt : notTold (defScope st) = true) : ∃ st fa fd, DefAt tb xs K mg d st fa fd ∧ asksTold K B mg base d.name (defScope st) fd := by
  obtain ⟨f, fd, m, F⟩ := D.use X G
  refine ⟨st, f, fd, ⟨m, F, sc, bi f fd F, is⟩, fun hl => ?_⟩
  unfold notTold at nt
  rw [hl] at nt
  cases nt
/-- the tables of a law's lambdas: told one by one, no address twice -/
def tabsT (cs : List (Addr × Addr × Str)) : List (Addr × Str) := cs.map (·.2)
theorem lamAt_of {cs : List (Addr × Addr × Str)} {x : Str} {cc P : Addr} {fd : FuncData} (hc : fd.code = .ref cc) (hm : (cc, P, (x ++ ".<locals>." : Str) ++ "<lambda>") ∈ cs) (nd : (cs.map (·.2.1)).Nodup) (tab : ∀ p ∈ cs, LamX.TabB base mg p.1 p.2.1) : lamAt (cs.map (·.2)) mg base x fd := by
  refine ⟨cc, P, hc, tab _ hm, List.mem_map.mpr ⟨_, hm, rfl⟩, fun p hp e => ?_⟩
  obtain ⟨q, hq, eq⟩ := List.mem_map.mp hp
  subst eq
  have go : ∀ l : List (Addr × Addr × Str), (l.map (·.2.1)).Nodup → ∀ a ∈ l, ∀ b ∈ l, a.2.1 = b.2.1 → a = b := fun l => by
    induction l with
    | nil => exact fun _ a ha => absurd ha List.not_mem_nil
    | cons c l ih =>
      intro n a ha b hb e
      rw [List.map_cons, List.nodup_cons] at n
      rcases List.mem_cons.mp ha with ea | ha2 <;> rcases List.mem_cons.mp hb with eb | hb2
      · rw [ea, eb]
      · have q := List.mem_map_of_mem (f := fun p : Addr × Addr × Str => p.2.1) hb2
        rw [← e, ea] at q
        exact absurd q n.1
      · have q := List.mem_map_of_mem (f := fun p : Addr × Addr × Str => p.2.1) ha2
        rw [e, eb] at q
        exact absurd q n.1
      · exact ih n.2 a ha2 b hb2 e
  have z := go cs nd q hq _ hm e
  rw [z]
/-- a def that makes lambdas for _law_told -/
theorem lamDefAt_of {d : Def} {st : Stmt} {cc P : Addr} {cs : List (Addr × Addr × Str)} (X : K.In h) (G : h.Ns mainGlobals mg) (D : LamDef K d.name st cc P) (sc : FnScope d.N d.ps (defScope st)) (is : isSL tb d.N false xs d.body (defScope st) (defBody st) = true)
    (bi : ∀ f fd, L2.Fun K d.name d.name st f fd → Binds K fd d.ps []) (TF : ToldFn K B mg) (hT : B.T = cs.map (·.2)) (hm : (cc, P, (d.name ++ ".<locals>." : Str) ++ "<lambda>") ∈ cs) (nd : (cs.map (·.2.1)).Nodup) (tab : ∀ p ∈ cs, LamX.TabB base mg p.1 p.2.1) :
    ∃ st fa fd, DefAt tb xs K mg d st fa fd ∧ asksTold K B mg base d.name (defScope st) fd := by
  obtain ⟨f, fd, m, F, hc⟩ := D.use X G
  exact ⟨st, f, fd, ⟨m, F, sc, bi f fd F, is⟩, fun _ => ⟨TF, by rw [hT]; exact lamAt_of hc hm nd tab⟩⟩
/-- the law's own def: told or not -/
theorem head_ok {fa : Addr} {d : Def} {st sn : Stmt} {n : Nat} (X : K.In h) (G : h.Ns mainGlobals mg) (T : Txts tb B xs P w K mg)
    (N : DefFact K "_law_next" sn) (nk : ∀ base f fd, mg "len" = none → mg "int" = none → L2.Fun K "_law_next" "_law_next" sn f fd → FnG P w K mg base 1 f fd ["state", "many"] (spNext K B)) (nb : ∀ f fd, L2.Fun K "_law_next" "_law_next" sn f fd → Binds K fd ["state", "many"] [])
    (hps : d.ps = (["script"] : List Str)) (sc : FnScope d.N d.ps (defScope st)) (is : isSL tb d.N true xs d.body (defScope st) (defBody st) = true)
    (pure : ∀ ns : List Int, ns.length ≤ 63 → wpSL (Phi tb n) d.body (startE d [.fz (.list (ns.map PyData.int))]) 0 noX ⟨fun _ _ => False, fun r _ => r = .bool true, fun _ _ => False, fun _ _ => False⟩)
    {fd : FuncData} (F : L2.Fun K d.name d.name st fa fd) {base : Heap} (A : allDefs tb xs K B mg base tb.defs) (ht : asksTold K B mg base d.name (defScope st) fd) :
    FnG P w K mg base (rm n + 3) fa fd ["script"] (spTrue K B.T) := by
  obtain ⟨fN, fdN, mN, FN⟩ := N.use X G
  have l1 : mg "len" = none := T.blt _ (by decide +kernel)
  have l2 : mg "int" = none := T.blt _ (by decide +kernel)
  have hd : ∀ j, drawOk B P w K mg base (j + 1) := fun j => ⟨fN, fdN, ["state", "many"], mN, FN.kp, nb fN fdN FN, (nk base fN fdN l1 l2 FN).mono (by omega)⟩
  exact law_ok (i := 0) T (hd (3 * n + 2)) (table_ok T (hd 0) (allDefs_get A) n) hps F sc is ht pure
/-- _law_told and the classes of the errors, as the head finds them -/
theorem toldFn_of {st : Stmt} {A c0 c1 c2 c3 c4 : Addr} {T : List (Addr × Str)} (X : K.In h) (G : h.Ns mainGlobals mg) (D : DefFact K "_law_told" st) (sc : defScope st = toldSc) (tb : ToldBody (defBody st)) (bi : ∀ f fd, L2.Fun K "_law_told" "_law_told" st f fd → Binds K fd ["call"] [])
    (gA : PySem.W.nsIn K mainGlobals "AddError" = some (some (.ref A))) (g0 : PySem.W.nsIn K mainGlobals "NotAllowed" = some (some (.ref c0))) (g1 : PySem.W.nsIn K mainGlobals "TooLarge" = some (some (.ref c1))) (g2 : PySem.W.nsIn K mainGlobals "Missing" = some (some (.ref c2)))
    (g3 : PySem.W.nsIn K mainGlobals "BadForm" = some (some (.ref c3))) (g4 : PySem.W.nsIn K mainGlobals "Broken" = some (some (.ref c4))) (b : ∀ x ∈ blts, PySem.W.nsIn K mainGlobals x = some none)
    (e0 : ExcC K c0) (e1 : ExcC K c1) (e2 : ExcC K c2) (x0 : PySem.W.exmOne K (.ref c0) (.ref A) = some true) (x1 : PySem.W.exmOne K (.ref c1) (.ref A) = some true) (x2 : PySem.W.exmOne K (.ref c2) (.ref A) = some true)
    (k : ∀ m < 3, ∀ j < 5, PySem.W.kitOne K (.ref ([c0, c1, c2, c3, c4].getD m 0)) (.ref ([c0, c1, c2, c3, c4].getD j 0)) = some (decide (m = j))) :
    ToldFn K ⟨fun x v => ∃ m, m < 3 ∧ x = .cls m ∧ v = .ref ([c0, c1, c2, c3, c4].getD m 0), T⟩ mg := by
  have D' := D
  obtain ⟨g, fd, mgg, F⟩ := D'.use X G
  obtain ⟨f, oc, od, kV, doc, pm, an, cd, ct, osl, a, l, c, kp⟩ := D
  rw [sc] at l
  have bl : ∀ x ∈ blts, mg x = none := fun x hx => PySem.W.mg_none_of X G (b x hx)
  have ex := F.ex
  refine ⟨f, oc, od, defArgs st, defBody st, kV, doc, pm, cd, ct, an, osl, A, fun m => [c0, c1, c2, c3, c4].getD m 0, PySem.W.mg_of X G a, kp, l, c, ?_, tb, ⟨PySem.W.mg_of X G gA, PySem.W.mg_of X G g0, PySem.W.mg_of X G g1, PySem.W.mg_of X G g2, PySem.W.mg_of X G g3, PySem.W.mg_of X G g4, ⟨bl _ (by decide +kernel), bl _ (by decide +kernel), bl _ (by decide +kernel), bl _ (by decide +kernel)⟩, fun m hm => ⟨?_, ?_, k m hm⟩⟩, fun _ _ h => h⟩
  · have l' := l
    rw [← sc] at l' ⊢
    exact bi f _ (fun_mk l' c kp)
  · match m, hm with
    | 0, _ => exact e0
    | 1, _ => exact e1
    | 2, _ => exact e2
  · match m, hm with
    | 0, _ => exact x0
    | 1, _ => exact x1
    | 2, _ => exact x2
end
end Dz
set_option Elab.async false
set_option linter.all false
set_option maxRecDepth 100000
/-! Dz: loops by an invariant; how long the text of data is. -/
namespace Dz
open PySem
theorem loopF_inv {tg : Tg} {body : Ev → Nat → Kt → Prop} {k : Kt} (I : Nat → Ev → Nat → Prop) : ∀ (ds : List D) (i0 : Nat) (ρ : Ev) (g : Nat), I i0 ρ g →
    (∀ (i : Nat) (d : D) (ρ : Ev) (g : Nat) (nx : Ev → Nat → Prop), ds[i]? = some d → I (i0 + i) ρ g → (∀ ρ g, I (i0 + i + 1) ρ g → nx ρ g) → ∃ ρ', bindT tg d ρ = some ρ' ∧ body ρ' g ⟨nx, k.rt, k.nx, nx⟩) →
    (∀ ρ g, I (i0 + ds.length) ρ g → k.nx ρ g) → loopF tg body ds ρ g k
  | [], i0, ρ, g, h, _, e => e ρ g h
  | d :: ds, i0, ρ, g, h, st, e => by
    refine st 0 d ρ g _ rfl h fun ρ g h1 => ?_
    refine loopF_inv I ds (i0 + 1) ρ g h1 (fun i d ρ g nx hd hI hn => ?_) fun ρ g h2 => ?_
    · exact st (i + 1) d ρ g nx (by simpa using hd) (by rw [show i0 + (i + 1) = i0 + 1 + i by omega]; exact hI) fun ρ g h3 => hn ρ g (by rw [show i0 + 1 + i + 1 = i0 + (i + 1) + 1 by omega]; exact h3)
    · exact e ρ g (by rw [List.length_cons, show i0 + (ds.length + 1) = i0 + 1 + ds.length by omega]; exact h2)
/-- a for loop: I i of what is held ahead of the i-th turn -/
theorem for_inv {tg : Tg} {body : Ev → Nat → Kt → Prop} {k : Kt} (I : Nat → Ev → Nat → Prop) {ds : List D} {ρ : Ev} {g : Nat} (h0 : I 0 ρ g)
    (st : ∀ (i : Nat) (d : D) (ρ : Ev) (g : Nat) (nx : Ev → Nat → Prop), ds[i]? = some d → I i ρ g → (∀ ρ g, I (i + 1) ρ g → nx ρ g) → ∃ ρ', bindT tg d ρ = some ρ' ∧ body ρ' g ⟨nx, k.rt, k.nx, nx⟩)
    (e : ∀ ρ g, I ds.length ρ g → k.nx ρ g) : loopF tg body ds ρ g k :=
  loopF_inv I ds 0 ρ g h0 (fun i d ρ g nx hd hI hn => st i d ρ g nx hd (by rw [Nat.zero_add] at hI; exact hI) fun ρ g h => hn ρ g (by rw [Nat.zero_add]; exact h)) fun ρ g h => e ρ g (by rw [Nat.zero_add] at h; exact h)
theorem loopC_inv {f : D → Nat → (Option D → Nat → Prop) → Prop} {k : List D → Nat → Prop} (I : Nat → List D → Nat → Prop) : ∀ (ds : List D) (i0 : Nat) (acc : List D) (g : Nat), I i0 acc g →
    (∀ (i : Nat) (d : D) (acc : List D) (g : Nat) (K : Option D → Nat → Prop), ds[i]? = some d → I (i0 + i) acc g → (∀ g', I (i0 + i + 1) acc g' → K none g') → (∀ y g', acc.length < sizeLine → I (i0 + i + 1) (acc ++ [y]) g' → K (some y) g') → f d g K) →
    (∀ acc g, I (i0 + ds.length) acc g → k acc g) → loopC f ds acc g k
  | [], i0, acc, g, h, _, e => e acc g h
  | d :: ds, i0, acc, g, h, st, e => by
    have go : ∀ acc g, I (i0 + 1) acc g → loopC f ds acc g k := fun acc g h1 => by
      refine loopC_inv I ds (i0 + 1) acc g h1 (fun i d acc g K hd hI hn hs => ?_) fun acc g h2 => ?_
      · refine st (i + 1) d acc g K (by simpa using hd) (by rw [show i0 + (i + 1) = i0 + 1 + i by omega]; exact hI) (fun g' h3 => hn g' (by rw [show i0 + 1 + i + 1 = i0 + (i + 1) + 1 by omega]; exact h3)) fun y g' hl h3 => hs y g' hl (by rw [show i0 + 1 + i + 1 = i0 + (i + 1) + 1 by omega]; exact h3)
      · exact e acc g (by rw [List.length_cons, show i0 + (ds.length + 1) = i0 + 1 + ds.length by omega]; exact h2)
    exact st 0 d acc g _ rfl h (fun g' h1 => go acc g' h1) fun y g' hl h1 => ⟨hl, go _ g' h1⟩
/-- a comprehension: I i of what is made ahead of the i-th item -/
theorem comp_inv {f : D → Nat → (Option D → Nat → Prop) → Prop} {k : List D → Nat → Prop} (I : Nat → List D → Nat → Prop) {ds : List D} {g : Nat} (h0 : I 0 [] g)
    (st : ∀ (i : Nat) (d : D) (acc : List D) (g : Nat) (K : Option D → Nat → Prop), ds[i]? = some d → I i acc g → (∀ g', I (i + 1) acc g' → K none g') → (∀ y g', acc.length < sizeLine → I (i + 1) (acc ++ [y]) g' → K (some y) g') → f d g K)
    (e : ∀ acc g, I ds.length acc g → k acc g) : loopC f ds [] g k :=
  loopC_inv I ds 0 [] g h0 (fun i d acc g K hd hI hn hs => st i d acc g K hd (by rw [Nat.zero_add] at hI; exact hI) (fun g' h => hn g' (by rw [Nat.zero_add]; exact h)) fun y g' hl h => hs y g' hl (by rw [Nat.zero_add]; exact h)) fun acc g h => e acc g (by rw [Nat.zero_add] at h; exact h)
theorem loopW_inv {c : Ev → Nat → (Bool → Nat → Prop) → Prop} {body : Ev → Nat → Kt → Prop} {k : Kt} (I : Ev → Nat → Prop) (m : Ev → Nat)
    (st : ∀ (ρ : Ev) (g : Nat) (kc : Bool → Nat → Prop), I ρ g → (∀ g', (∀ nx : Ev → Nat → Prop, (∀ ρ' g', I ρ' g' → m ρ' < m ρ → nx ρ' g') → body ρ g' ⟨nx, k.rt, k.nx, nx⟩) → kc true g') → (∀ g', k.nx ρ g' → kc false g') → c ρ g kc) :
    ∀ (n : Nat) (ρ : Ev) (g : Nat), I ρ g → m ρ < n → loopW c body n ρ g k
  | 0, ρ, g, _, h => absurd h (Nat.not_lt_zero _)
  | n + 1, ρ, g, h, hm => by
    refine st ρ g _ h (fun g' hb => ?_) fun g' hk => ?_
    · rw [if_pos rfl]
      exact hb _ fun ρ' g' h' lt => loopW_inv I m st n ρ' g' h' (Nat.lt_of_lt_of_le lt (Nat.le_of_lt_succ hm))
    · rw [if_neg Bool.false_ne_true]
      exact hk
/-- a while loop: I of what is held, m grows less -/
theorem while_inv {c : Ev → Nat → (Bool → Nat → Prop) → Prop} {body : Ev → Nat → Kt → Prop} {k : Kt} (I : Ev → Nat → Prop) (m : Ev → Nat) {ρ : Ev} {g : Nat} (h0 : I ρ g)
    (st : ∀ (ρ : Ev) (g : Nat) (kc : Bool → Nat → Prop), I ρ g → (∀ g', (∀ nx : Ev → Nat → Prop, (∀ ρ' g', I ρ' g' → m ρ' < m ρ → nx ρ' g') → body ρ g' ⟨nx, k.rt, k.nx, nx⟩) → kc true g') → (∀ g', k.nx ρ g' → kc false g') → c ρ g kc) :
    ∃ n, loopW c body n ρ g k := ⟨m ρ + 1, loopW_inv I m st (m ρ + 1) ρ g h0 (Nat.lt_succ_self _)⟩
theorem rng_at {lo hi : Int} {i : Nat} {d : D} (h : (rangeD lo hi)[i]? = some d) : d = .int (lo + i) ∧ lo + i < hi := by
  unfold rangeD at h
  rw [List.getElem?_map] at h
  by_cases c : i < (hi - lo).toNat
  · rw [List.getElem?_range c] at h
    exact ⟨(Option.some.inj h).symm, by omega⟩
  · rw [List.getElem?_eq_none (by rw [List.length_range]; omega)] at h
    cases h
theorem rng_len (lo hi : Int) : (rangeD lo hi).length = (hi - lo).toNat := by unfold rangeD; rw [List.length_map, List.length_range]
theorem at_of {xs : List D} {i : Nat} {d : D} (h : xs[i]? = some d) : at_ xs (i : Int) = some d := by
  have hi : i < xs.length := (List.getElem?_eq_some_iff.mp h).1
  unfold at_ ixN
  rw [if_pos (by omega), if_pos (by omega)]
  exact h
theorem sIx_nat (n d k : Nat) : sIx n d (some (k : Int)) = min k n := by
  show (if (k : Int) < 0 then ((k : Int) + (n : Int)).toNat else min (k : Int).toNat n) = min k n
  rw [if_neg (by omega), Int.toNat_natCast]
theorem cut_from (xs : List D) (k : Nat) : cutD xs (some (k : Int)) none = xs.drop k := by
  unfold cutD
  rw [sIx_nat]
  show (xs.drop (min k xs.length)).take (xs.length - min k xs.length) = xs.drop k
  rw [List.take_of_length_le (by rw [List.length_drop]; omega)]
  by_cases h : k ≤ xs.length
  · rw [Nat.min_eq_left h]
  · rw [Nat.min_eq_right (by omega), List.drop_eq_nil_of_le (Nat.le_refl _), List.drop_eq_nil_of_le (by omega)]
theorem cut_to (xs : List D) (k : Nat) : cutD xs none (some (k : Int)) = xs.take k := by
  unfold cutD
  rw [sIx_nat]
  show (xs.drop 0).take (min k xs.length - 0) = xs.take k
  rw [List.drop_zero, Nat.sub_zero]
  by_cases h : k ≤ xs.length
  · rw [Nat.min_eq_left h]
  · rw [Nat.min_eq_right (by omega), List.take_of_length_le (Nat.le_refl _), List.take_of_length_le (by omega)]
/-! ### how the looks at data go on -/
section
variable {d e : D} {k : D → Prop} {P : Prop} {i j : Int} {a b : Str} {xs ys : List D} {g : Nat}
theorem e_fz : onFz (some (.fz d)) k = k d := rfl
theorem e_ow : onOw (some (.ow d)) k = k d := rfl
theorem e_st : onSt (some .st) P = P := rfl
theorem e_int {k : Int → Prop} : onInt (.int i) k = k i := rfl
theorem e_int2 {k : Int → Int → Prop} : onInt2 (.int i) (.int j) k = k i j := rfl
theorem e_list {k : List D → Prop} : onList (.list xs) k = k xs := rfl
theorem e_seqs1 {k : List D → List D → Prop} : onSeqs (.list xs) (.list ys) k = k xs ys := rfl
theorem e_seqs2 {k : List D → List D → Prop} : onSeqs (.tuple xs) (.tuple ys) k = k xs ys := rfl
theorem e_seq1 {k : List D → Prop} : onSeq (.list xs) k = k xs := rfl
theorem e_seq2 {k : List D → Prop} : onSeq (.tuple xs) k = k xs := rfl
theorem e_bool {k : Bool → Nat → Prop} {t : Bool} : onBool k (.bool t) g = k t g := rfl
theorem e_kept0 {A : Prop} : onKept none A k = A := rfl
theorem e_kept1 {A : Prop} : onKept (some d) A k = k d := rfl
theorem e_add : binD .add (.int i) (.int j) k = k (.int (i + j)) := rfl
theorem e_cat : binD .add (.str a) (.str b) k = (a.length + b.length ≤ sizeLine ∧ k (.str (a ++ b))) := rfl
theorem e_sub : binD .sub (.int i) (.int j) k = k (.int (i - j)) := rfl
theorem e_mul : binD .mul (.int i) (.int j) k = (mulOk i j ∧ k (.int (i * j))) := rfl
theorem e_fdiv : binD .fdiv (.int i) (.int j) k = ((j ≠ 0 ∧ j.natAbs.log2 < 9000) ∧ k (.int (i.fdiv j))) := rfl
theorem e_mod : binD .mod (.int i) (.int j) k = (j ≠ 0 ∧ k (.int (i.fmod j))) := rfl
theorem e_pow : binD .pow (.int i) (.int j) k = ((0 ≤ j ∧ j ≤ 1000000 ∧ i.natAbs < 2 ^ 64) ∧ k (.int (i ^ j.toNat))) := rfl
theorem e_eqI : cmpD .eq (.int i) (.int j) k = k (.bool (decide (i = j))) := rfl
theorem e_eqS : cmpD .eq (.str a) (.str b) k = k (.bool (decide (a = b))) := rfl
theorem e_neI : cmpD .ne (.int i) (.int j) k = k (.bool (!decide (i = j))) := rfl
theorem e_neS : cmpD .ne (.str a) (.str b) k = k (.bool (!decide (a = b))) := rfl
theorem e_lt : cmpD .lt (.int i) (.int j) k = k (.bool (decide (i < j))) := rfl
theorem e_le : cmpD .le (.int i) (.int j) k = k (.bool (decide (i ≤ j))) := rfl
theorem e_gt : cmpD .gt (.int i) (.int j) k = k (.bool (decide (j < i))) := rfl
theorem e_ge : cmpD .ge (.int i) (.int j) k = k (.bool (decide (j ≤ i))) := rfl
theorem e_ixL : ixD (.list xs) (.int i) k = ∃ d, at_ xs i = some d ∧ k d := rfl
theorem e_ixT : ixD (.tuple xs) (.int i) k = ∃ d, at_ xs i = some d ∧ k d := rfl
theorem e_slL {lo hi : Option Int} : sliceD (.list xs) lo hi k = k (.list (cutD xs lo hi)) := rfl
theorem e_slT {lo hi : Option Int} : sliceD (.tuple xs) lo hi k = k (.tuple (cutD xs lo hi)) := rfl
theorem e_lenL : fnD .len [.list xs] k = k (.int xs.length) := rfl
theorem e_lenT : fnD .len [.tuple xs] k = k (.int xs.length) := rfl
theorem e_abs : fnD .abs [.int i] k = k (.int (if i < 0 then -i else i)) := rfl
theorem e_intI : fnD .int [.int i] k = k (.int i) := rfl
theorem e_intB {t : Bool} : fnD .int [.bool t] k = k (.int (if t then 1 else 0)) := rfl
theorem e_str : fnD .str [.int i] k = (i.natAbs.log2 < 1920 ∧ k (.str (toString i))) := rfl
theorem e_max : fnD .max [.int i, .int j] k = k (.int (if j > i then j else i)) := rfl
theorem e_min : fnD .min [.int i, .int j] k = k (.int (if j < i then j else i)) := rfl
theorem e_repr : fnD .repr [.list xs] k = (((PyData.list xs).showable = true ∧ (PyData.list xs).depth < 50 ∧ (PyData.list xs).hasDict = false ∧ (PyData.list xs).shown.length ≤ sizeLine) ∧ k (.str (PyData.list xs).shown)) := rfl
theorem e_fI {k : Str → Prop} : strD (.int i) k = (i.natAbs.log2 < 1920 ∧ k (toString i)) := rfl
theorem e_fS {k : Str → Prop} : strD (.str a) k = (a.length ≤ sizeLine ∧ k a) := rfl
theorem some_ex {α : Type} {a : α} {p : α → Prop} : (∃ x, some a = some x ∧ p x) = p a := propext ⟨fun ⟨x, e, h⟩ => by cases e; exact h, fun h => ⟨a, rfl, h⟩⟩
theorem if_tt {A B : Prop} : (if true = true then A else B) = A := if_pos rfl
theorem if_ff {A B : Prop} : (if false = true then A else B) = B := if_neg Bool.false_ne_true
end
/-! ### the length of a text -/
mutual
def siz : PyData → Nat
  | .none => 8
  | .bool _ => 8
  | .int _ => 1925
  | .str x => (PySem.reprText x).length
  | .list xs => sizA xs + 4
  | .tuple xs => sizA xs + 4
  | .dict _ => 0
def sizA : List PyData → Nat
  | [] => 0
  | x :: xs => siz x + 2 + sizA xs
end
theorem listText_le (ts : List Str) : (listText ts).length ≤ piled ts + 4 := by
  cases ts with
  | nil => decide
  | cons t r =>
    have h := textFrom_length_pos r 1 (("[" : Str) ++ (if (0 : Nat) > 0 then ", " else "" : String) ++ t) (Nat.succ_pos 0)
    have e : ((("[" : Str) ++ (if (0 : Nat) > 0 then ", " else "" : String) ++ t)).length = 1 + t.length := by
      rw [strLen_append, strLen_append]; rfl
    have hX : (listText (t :: r)).length = (textFrom 1 (("[" : Str) ++ (if (0 : Nat) > 0 then ", " else "" : String) ++ t) r).length + 1 := by
      show (textFrom 0 "[" (t :: r) ++ "]").length = _
      rw [strLen_append]; rfl
    rw [hX, h, e, piled_cons]; omega
theorem tupleText_le (ts : List Str) : (tupleText ts).length ≤ piled ts + 4 := by
  unfold tupleText
  rw [strLen_append, strLen_append]
  have e1 : ((("(" : String) : Str)).length = 1 := rfl
  have e3 : (((if ts.length == 1 then ",)" else ")" : String) : Str)).length ≤ 2 := by split <;> decide
  have e2 : (Str.join ", " ts).length ≤ piled ts := by
    cases ts with
    | nil => decide
    | cons t r =>
      have := join_length_add (t :: r) (by simp)
      omega
  rw [e1]; omega
mutual
theorem shown_le : ∀ d : PyData, d.showable = true → d.hasDict = false → d.shown.length ≤ siz d
  | .none, _, _ => by decide
  | .bool true, _, _ => by decide
  | .bool false, _, _ => by decide
  | .int i, h, _ => by
    have h' : i.natAbs.log2 < 1920 := by simpa [PyData.showable] using h
    have := PyProof.Rows.int_text_len_1921 h'
    show (PySem.Str.ofString (toString i)).length ≤ 1925
    omega
  | .str x, _, _ => Nat.le_refl _
  | .list xs, h, hd => by
    have := shownA_le xs (by simpa [PyData.showable] using h) (by simpa [PyData.hasDict] using hd)
    have := listText_le (PyData.shownAll xs)
    show (listText (PyData.shownAll xs)).length ≤ sizA xs + 4
    omega
  | .tuple xs, h, hd => by
    have := shownA_le xs (by simpa [PyData.showable] using h) (by simpa [PyData.hasDict] using hd)
    have := tupleText_le (PyData.shownAll xs)
    show (tupleText (PyData.shownAll xs)).length ≤ sizA xs + 4
    omega
  | .dict _, _, hd => by simp [PyData.hasDict] at hd
theorem shownA_le : ∀ xs : List PyData, PyData.showableAll xs = true → PyData.hasDictAll xs = false → piled (PyData.shownAll xs) ≤ sizA xs
  | [], _, _ => by decide
  | x :: xs, h, hd => by
    have h' : x.showable = true ∧ PyData.showableAll xs = true := by simpa [PyData.showableAll] using h
    have hd' : x.hasDict = false ∧ PyData.hasDictAll xs = false := by simpa [PyData.hasDictAll] using hd
    have a := shown_le x h'.1 hd'.1
    have b := shownA_le xs h'.2 hd'.2
    show piled (x.shown :: PyData.shownAll xs) ≤ siz x + 2 + sizA xs
    rw [piled_cons]
    omega
end
/-- what a repr asks of d: at most dp levels, at most m signs -/
def Sh (dp m : Nat) (d : PyData) : Prop := d.showable = true ∧ d.hasDict = false ∧ d.depth ≤ dp ∧ siz d ≤ m
def ShA (dp m : Nat) (xs : List PyData) : Prop := PyData.showableAll xs = true ∧ PyData.hasDictAll xs = false ∧ PyData.depthAll xs ≤ dp ∧ sizA xs ≤ m
abbrev Shw (m : Nat) (d : PyData) : Prop := Sh 40 m d
theorem Sh.mono {a b m k : Nat} {d : PyData} (h : Sh a m d) (ab : a ≤ b) (mk : m ≤ k) : Sh b k d := ⟨h.1, h.2.1, Nat.le_trans h.2.2.1 ab, Nat.le_trans h.2.2.2 mk⟩
theorem sh_int {dp : Nat} {i : Int} (h : i.natAbs.log2 < 1920) : Sh dp 1925 (.int i) := ⟨by simp only [PyData.showable, h, decide_true], by simp only [PyData.hasDict], by simp only [PyData.depth]; exact Nat.zero_le _, by simp only [siz]; decide⟩
theorem sh_bool {dp : Nat} {b : Bool} : Sh dp 8 (.bool b) := ⟨by simp only [PyData.showable], by simp only [PyData.hasDict], by simp only [PyData.depth]; exact Nat.zero_le _, by simp only [siz]; decide⟩
theorem sh_none {dp : Nat} : Sh dp 8 .none := ⟨by simp only [PyData.showable], by simp only [PyData.hasDict], by simp only [PyData.depth]; exact Nat.zero_le _, by simp only [siz]; decide⟩
theorem sh_str {dp : Nat} {x : Str} {m : Nat} (h : (PySem.reprText x).length ≤ m) : Sh dp m (.str x) := ⟨by simp only [PyData.showable], by simp only [PyData.hasDict], by simp only [PyData.depth]; exact Nat.zero_le _, by simp only [siz]; exact h⟩
theorem sh_list {dp m : Nat} {xs : List PyData} (h : ShA dp m xs) : Sh (dp + 1) (m + 4) (.list xs) :=
  ⟨by simp only [PyData.showable, h.1], by simp only [PyData.hasDict, h.2.1], by simp only [PyData.depth]; exact Nat.succ_le_succ h.2.2.1, by simp only [siz]; exact Nat.add_le_add_right h.2.2.2 _⟩
theorem sh_tup {dp m : Nat} {xs : List PyData} (h : ShA dp m xs) : Sh (dp + 1) (m + 4) (.tuple xs) :=
  ⟨by simp only [PyData.showable, h.1], by simp only [PyData.hasDict, h.2.1], by simp only [PyData.depth]; exact Nat.succ_le_succ h.2.2.1, by simp only [siz]; exact Nat.add_le_add_right h.2.2.2 _⟩
theorem ShA.nil {dp : Nat} : ShA dp 0 [] := ⟨by simp only [PyData.showableAll], by simp only [PyData.hasDictAll], by simp only [PyData.depthAll]; exact Nat.zero_le _, by simp only [sizA]; exact Nat.le_refl _⟩
theorem ShA.cons {dp m k : Nat} {x : PyData} {xs : List PyData} (h : Sh dp m x) (r : ShA dp k xs) : ShA dp (m + 2 + k) (x :: xs) :=
  ⟨by simp only [PyData.showableAll, h.1, r.1, Bool.and_self], by simp only [PyData.hasDictAll, h.2.1, r.2.1, Bool.or_self], by simp only [PyData.depthAll]; exact Nat.max_le.mpr ⟨h.2.2.1, r.2.2.1⟩, by
    simp only [sizA]
    exact Nat.add_le_add (Nat.add_le_add_right h.2.2.2 _) r.2.2.2⟩
/-- a list of alike items -/
theorem ShA.all {dp m : Nat} : ∀ {xs : List PyData}, (∀ x ∈ xs, Sh dp m x) → ShA dp (xs.length * (m + 2)) xs
  | [], _ => by simpa using ShA.nil
  | x :: xs, h => by
    have r := ShA.cons (h x (by simp)) (ShA.all fun y hy => h y (List.mem_cons_of_mem _ hy))
    rw [List.length_cons, Nat.add_mul, Nat.one_mul, Nat.add_comm]
    exact r
end Dz
set_option Elab.async false
set_option linter.all false
set_option maxRecDepth 100000
/-! Dz: how the looks at data go on, the second part: sets, comprehensions, what a law is told. -/
namespace Dz
open PySem
/-- a tuple, a list of ints -/
abbrev tI (ns : List Int) : D := .tuple (ns.map PyData.int)
abbrev lI (ns : List Int) : D := .list (ns.map PyData.int)
theorem int_inj : ∀ {ns ms : List Int}, ns.map PyData.int = ms.map PyData.int → ns = ms
  | [], [], _ => rfl
  | [], _ :: _, h => by cases h
  | _ :: _, [], h => by cases h
  | x :: xs, y :: ys, h => by
    rw [List.map_cons, List.map_cons, List.cons.injEq] at h
    obtain ⟨h1, h2⟩ := h
    cases h1
    rw [int_inj h2]
theorem bool_inj : ∀ {ns ms : List Bool}, ns.map PyData.bool = ms.map PyData.bool → ns = ms
  | [], [], _ => rfl
  | [], _ :: _, h => by cases h
  | _ :: _, [], h => by cases h
  | x :: xs, y :: ys, h => by
    rw [List.map_cons, List.map_cons, List.cons.injEq] at h
    obtain ⟨h1, h2⟩ := h
    cases h1
    rw [bool_inj h2]
theorem tI_inj : ∀ {ns ms : List (List Int)}, ns.map tI = ms.map tI → ns = ms
  | [], [], _ => rfl
  | [], _ :: _, h => by cases h
  | _ :: _, [], h => by cases h
  | x :: xs, y :: ys, h => by
    rw [List.map_cons, List.map_cons, List.cons.injEq] at h
    obtain ⟨h1, h2⟩ := h
    have h1 := int_inj (PyData.tuple.inj h1)
    rw [h1, tI_inj h2]
section
variable {d e : D} {k : D → Prop} {P : Prop} {i j : Int} {a b : Str} {xs ys : List D} {g : Nat} {ns ms : List Int}
theorem e_catL : binD .add (.list xs) (.list ys) k = (xs.length + ys.length ≤ sizeLine ∧ k (.list (xs ++ ys))) := rfl
theorem e_catT : binD .add (.tuple xs) (.tuple ys) k = (xs.length + ys.length ≤ sizeLine ∧ k (.tuple (xs ++ ys))) := rfl
theorem e_repL : binD .mul (.list xs) (.int i) k = ((-(2 ^ 62) ≤ i ∧ i < 2 ^ 62 ∧ xs.length * i.toNat ≤ sizeLine) ∧ k (.list (List.replicate i.toNat xs).flatten)) := rfl
theorem e_repT : binD .mul (.tuple xs) (.int i) k = ((xs ≠ [] ∧ -(2 ^ 62) ≤ i ∧ i ≤ 1000 ∧ xs.length ≤ 1000) ∧ k (.tuple (List.replicate i.toNat xs).flatten)) := rfl
theorem e_ltT : cmpD .lt (.tuple (ns.map PyData.int)) (.tuple (ms.map PyData.int)) k = k (.bool (lexB ns ms)) := by
  refine propext ⟨fun ⟨a, b, h1, h2, h⟩ => ?_, fun h => ⟨ns, ms, rfl, rfl, h⟩⟩
  rw [int_inj h1, int_inj h2]; exact h
theorem e_any {α : Type} {f : α → Bool} {l : List α} : fnD .any [.list (l.map fun x => PyData.bool (f x))] k = k (.bool (l.any f)) := by
  have e : (l.map fun x => PyData.bool (f x)) = (l.map f).map PyData.bool := by rw [List.map_map]; rfl
  refine propext ⟨fun ⟨bs, h1, h⟩ => ?_, fun h => ⟨l.map f, e, ?_⟩⟩
  · rw [e] at h1
    rw [← bool_inj h1, List.any_map] at h
    exact h
  · rw [List.any_map]; exact h
theorem e_all {α : Type} {f : α → Bool} {l : List α} : fnD .all [.list (l.map fun x => PyData.bool (f x))] k = k (.bool (l.all f)) := by
  have e : (l.map fun x => PyData.bool (f x)) = (l.map f).map PyData.bool := by rw [List.map_map]; rfl
  refine propext ⟨fun ⟨bs, h1, h⟩ => ?_, fun h => ⟨l.map f, e, ?_⟩⟩
  · rw [e] at h1
    rw [← bool_inj h1, List.all_map] at h
    exact h
  · rw [List.all_map]; exact h
theorem e_sum : fnD .sum [.list (ns.map PyData.int)] k = k (.int ns.sum) := by
  refine propext ⟨fun ⟨bs, h1, h⟩ => ?_, fun h => ⟨ns, rfl, h⟩⟩
  rw [int_inj h1]; exact h
theorem e_listL : fnD .list [.list xs] k = k (.list xs) := rfl
theorem e_listT : fnD .list [.tuple xs] k = k (.list xs) := rfl
theorem e_tupL : fnD .tuple [.list xs] k = k (.tuple xs) := rfl
theorem e_tupT : fnD .tuple [.tuple xs] k = k (.tuple xs) := rfl
theorem e_n0 : isNone .none = true := rfl
theorem e_n1 {b : Bool} : isNone (.bool b) = false := rfl
theorem e_n2 : isNone (.int i) = false := rfl
theorem e_n3 : isNone (.str a) = false := rfl
theorem e_n4 : isNone (.list xs) = false := rfl
theorem e_n5 : isNone (.tuple xs) = false := rfl
theorem flat_ints : ∀ ns : List Int, (ns.map PyData.int).all flatD = true
  | [] => rfl
  | n :: ns => by rw [List.map_cons, List.all_cons, flat_ints ns]; rfl
theorem any_eqv : ∀ (ns : List Int), ((ns.map PyData.int).any fun z => PyData.eqv z (.int i)) = decide (i ∈ ns)
  | [] => rfl
  | n :: ns => by
    rw [List.map_cons, List.any_cons, any_eqv ns]
    by_cases h : n = i
    · subst h
      simp [PyData.eqv]
    · simp [PyData.eqv, h, Ne.symm h]
theorem e_memT {k : Bool → Prop} : memD (.int i) (.tuple (ns.map PyData.int)) k = k (decide (i ∈ ns)) := by
  show ((flatD (.int i) = true ∧ (ns.map PyData.int).all flatD = true) ∧ k _) = _
  rw [any_eqv]
  exact propext ⟨fun h => h.2, fun h => ⟨⟨rfl, flat_ints ns⟩, h⟩⟩
theorem told_ex {m : Nat} {P : Nat → Prop} : (∃ n, n < 3 ∧ Ex.cls m = Ex.cls n ∧ P n) = (m < 3 ∧ P m) := propext ⟨fun ⟨n, h1, h2, h3⟩ => by cases h2; exact ⟨h1, h3⟩, fun ⟨h1, h2⟩ => ⟨m, h1, rfl, h2⟩⟩
theorem e_shL {xs : List D} : SeqAt.shaped (.list xs) = SeqAt.shaped (.list xs) := rfl
end
/-! ### the ascending list of what a list holds -/
def ins (x : Int) : List Int → List Int
  | [] => [x]
  | y :: ys => if x < y then x :: y :: ys else if x = y then y :: ys else y :: ins x ys
def asc (l : List Int) : List Int := l.foldr ins []
theorem ins_mem {x k : Int} : ∀ {l : List Int}, k ∈ ins x l ↔ k = x ∨ k ∈ l
  | [] => by simp [ins]
  | y :: ys => by
    unfold ins
    split
    · simp
    · split
      · next e => subst e; simp
      · simp [ins_mem (l := ys)]
        constructor
        · rintro (h | h | h)
          · exact .inr (.inl h)
          · exact .inl h
          · exact .inr (.inr h)
        · rintro (h | h | h)
          · exact .inr (.inl h)
          · exact .inl h
          · exact .inr (.inr h)
theorem ins_pw {x : Int} : ∀ {l : List Int}, l.Pairwise (· < ·) → (ins x l).Pairwise (· < ·)
  | [], _ => by simp [ins]
  | y :: ys, h => by
    obtain ⟨h1, h2⟩ := List.pairwise_cons.mp h
    unfold ins
    split
    · next c =>
      refine List.pairwise_cons.mpr ⟨fun z hz => ?_, h⟩
      rcases List.mem_cons.mp hz with e | hz
      · rw [e]; exact c
      · exact Int.lt_trans c (h1 z hz)
    · split
      · exact h
      · refine List.pairwise_cons.mpr ⟨fun z hz => ?_, ins_pw h2⟩
        rcases ins_mem.mp hz with e | hz
        · rw [e]; omega
        · exact h1 z hz
theorem asc_mem {k : Int} : ∀ {l : List Int}, k ∈ asc l ↔ k ∈ l
  | [] => by simp [asc]
  | x :: xs => by
    show k ∈ ins x (asc xs) ↔ _
    rw [ins_mem, asc_mem (l := xs), List.mem_cons]
theorem asc_pw : ∀ l : List Int, (asc l).Pairwise (· < ·)
  | [] => by simp [asc]
  | x :: xs => ins_pw (asc_pw xs)
theorem pw_unique : ∀ {l m : List Int}, l.Pairwise (· < ·) → m.Pairwise (· < ·) → (∀ k, k ∈ l ↔ k ∈ m) → l = m
  | [], [], _, _, _ => rfl
  | [], y :: ys, _, _, h => by have := (h y).mpr (by simp); cases this
  | x :: xs, [], _, _, h => by have := (h x).mp (by simp); cases this
  | x :: xs, y :: ys, hl, hm, h => by
    obtain ⟨l1, l2⟩ := List.pairwise_cons.mp hl
    obtain ⟨m1, m2⟩ := List.pairwise_cons.mp hm
    have e : x = y := by
      have a := (h x).mp (by simp)
      have b := (h y).mpr (by simp)
      rcases List.mem_cons.mp a with a | a
      · exact a
      · rcases List.mem_cons.mp b with b | b
        · exact b.symm
        · have := m1 x a
          have := l1 y b
          omega
    subst e
    rw [pw_unique l2 m2 fun k => ?_]
    have q := h k
    rw [List.mem_cons, List.mem_cons] at q
    constructor
    · intro hk
      rcases q.mp (.inr hk) with e | e
      · have := l1 k hk; omega
      · exact e
    · intro hk
      rcases q.mpr (.inr hk) with e | e
      · have := m1 k hk; omega
      · exact e
theorem asc_of {r l : List Int} (hr : r.Pairwise (· < ·)) (h : ∀ k, k ∈ r ↔ k ∈ l) : r = asc l := pw_unique hr (asc_pw l) fun k => by rw [h k, asc_mem]
theorem asc_eq {l m : List Int} (h : ∀ k, k ∈ l ↔ k ∈ m) : asc l = asc m := asc_of (asc_pw l) fun k => by rw [asc_mem, h k]
theorem asc_self {l : List Int} (h : l.Pairwise (· < ·)) : asc l = l := (asc_of h fun k => Iff.rfl).symm
theorem asc_len (l : List Int) : (asc l).length ≤ l.length := by
  induction l with
  | nil => exact Nat.le_refl _
  | cons x xs ih =>
    have : ∀ (x : Int) (l : List Int), (ins x l).length ≤ l.length + 1 := by
      intro x l
      induction l with
      | nil => exact Nat.le_refl _
      | cons y ys ih =>
        unfold ins
        split
        · exact Nat.le_refl _
        · split
          · exact Nat.le_succ _
          · rw [List.length_cons]; exact Nat.succ_le_succ ih
    exact Nat.le_trans (this x (asc xs)) (Nat.succ_le_succ ih)
theorem nodup_same_len : ∀ {l m : List Int}, l.Nodup → m.Nodup → (∀ k, k ∈ l ↔ k ∈ m) → l.length = m.length := fun {l m} h1 h2 h => ((List.perm_ext_iff_of_nodup h1 h2).mpr h).length_eq
section
variable {k : D → Prop} {ns : List Int}
theorem e_sset : ssetD (.list (ns.map PyData.int)) k = (ns.length ≤ 4000 ∧ k (.list ((asc ns).map PyData.int))) := by
  refine propext ⟨fun ⟨ms, h1, h2, h⟩ => ?_, fun ⟨h2, h⟩ => ⟨ns, rfl, h2, fun r h3 h4 => ?_⟩⟩
  · have e := int_inj h1
    subst e
    exact ⟨h2, h _ (asc_pw _) fun _ => asc_mem⟩
  · rw [asc_of h3 h4]; exact h
theorem e_lset : lsetD (.list (ns.map PyData.int)) k = (ns.length ≤ 4000 ∧ k (.int ((asc ns).length : Nat))) := by
  have nd : ∀ l : List Int, (asc l).Nodup := fun l => (asc_pw l).imp fun h => Int.ne_of_lt h
  refine propext ⟨fun ⟨ms, h1, h2, h⟩ => ?_, fun ⟨h2, h⟩ => ⟨ns, rfl, h2, fun r h3 h4 => ?_⟩⟩
  · have e := int_inj h1
    subst e
    exact ⟨h2, h _ (nd _) fun _ => asc_mem⟩
  · rw [nodup_same_len h3 (nd ns) fun k => by rw [h4 k, asc_mem]]; exact h
/-! ### the least tuple -/
theorem lexB_irrefl : ∀ ns : List Int, lexB ns ns = false
  | [] => rfl
  | x :: xs => by unfold lexB; rw [if_pos rfl]; exact lexB_irrefl xs
theorem lexB_trans : ∀ {a b c : List Int}, lexB a b = true → lexB b c = true → lexB a c = true
  | [], [], _, h, _ => by cases h
  | [], _ :: _, [], _, h => by cases h
  | [], _ :: _, _ :: _, _, _ => rfl
  | _ :: _, [], _, h, _ => by cases h
  | _ :: _, _ :: _, [], _, h => by cases h
  | x :: xs, y :: ys, z :: zs, h1, h2 => by
    unfold lexB at h1 h2 ⊢
    split at h1
    · next e =>
      subst e
      split at h2
      · next e2 => rw [if_pos e2]; exact lexB_trans h1 h2
      · next e2 => rw [if_neg e2]; exact h2
    · next e =>
      have h1' := of_decide_eq_true h1
      split at h2
      · next e2 => subst e2; rw [if_neg e]; exact h1
      · next e2 =>
        have h2' := of_decide_eq_true h2
        rw [if_neg (by omega)]
        exact decide_eq_true (by omega)
theorem lexB_conn : ∀ {a b : List Int}, lexB a b = false → lexB b a = false → a = b
  | [], [], _, _ => rfl
  | [], _ :: _, h, _ => by cases h
  | _ :: _, [], _, h => by cases h
  | x :: xs, y :: ys, h1, h2 => by
    unfold lexB at h1 h2
    by_cases e : x = y
    · subst e
      rw [if_pos rfl] at h1 h2
      rw [lexB_conn h1 h2]
    · rw [if_neg e] at h1
      rw [if_neg (Ne.symm e)] at h2
      have := of_decide_eq_false h1
      have := of_decide_eq_false h2
      omega
def lexMin : List (List Int) → List Int
  | [] => []
  | x :: xs => xs.foldl (fun m y => if lexB y m = true then y else m) x
theorem lexFold : ∀ (xs : List (List Int)) (x : List Int), let m := xs.foldl (fun m y => if lexB y m = true then y else m) x; (m = x ∨ m ∈ xs) ∧ lexB x m = false ∧ ∀ y ∈ xs, lexB y m = false
  | [], x => ⟨.inl rfl, lexB_irrefl x, fun _ h => absurd h List.not_mem_nil⟩
  | y :: ys, x => by
    intro m
    have ih := lexFold ys (if lexB y x = true then y else x)
    have em : m = ys.foldl (fun m y => if lexB y m = true then y else m) (if lexB y x = true then y else x) := rfl
    rw [em]
    obtain ⟨h1, h2, h3⟩ := ih
    generalize ys.foldl (fun m y => if lexB y m = true then y else m) (if lexB y x = true then y else x) = z at *
    by_cases c : lexB y x = true
    · rw [if_pos c] at h1 h2
      refine ⟨?_, ?_, fun w hw => ?_⟩
      · rcases h1 with h | h
        · exact .inr (by rw [h]; simp)
        · exact .inr (List.mem_cons_of_mem _ h)
      · cases q : lexB x z with
        | false => rfl
        | true => rw [lexB_trans c q] at h2; cases h2
      · rcases List.mem_cons.mp hw with e | hw
        · rw [e]; exact h2
        · exact h3 w hw
    · rw [if_neg c] at h1 h2
      refine ⟨?_, h2, fun w hw => ?_⟩
      · rcases h1 with h | h
        · exact .inl h
        · exact .inr (List.mem_cons_of_mem _ h)
      · rcases List.mem_cons.mp hw with e | hw
        · rw [e]
          cases q : lexB y z with
          | false => rfl
          | true =>
            rcases h1 with h | h
            · rw [h] at q; exact absurd q c
            · cases q2 : lexB z x with
              | true => rw [lexB_trans q q2] at c; exact absurd rfl c
              | false =>
                have e2 := lexB_conn q2 h2
                rw [e2] at q
                exact absurd q c
        · exact h3 w hw
theorem lexMin_spec {xs : List (List Int)} (h : xs ≠ []) : lexMin xs ∈ xs ∧ ∀ y ∈ xs, lexB y (lexMin xs) = false := by
  cases xs with
  | nil => exact absurd rfl h
  | cons x xs =>
    obtain ⟨h1, h2, h3⟩ := lexFold xs x
    refine ⟨?_, fun y hy => ?_⟩
    · show xs.foldl _ x ∈ _
      rcases h1 with h | h
      · exact List.mem_cons.mpr (.inl h)
      · exact List.mem_cons_of_mem _ h
    · rcases List.mem_cons.mp hy with e | hy
      · rw [e]; exact h2
      · exact h3 y hy
theorem lexMin_of {xs : List (List Int)} {m : List Int} (h : m ∈ xs) (hm : ∀ y ∈ xs, lexB y m = false) : m = lexMin xs := by
  have hne : xs ≠ [] := fun e => by rw [e] at h; cases h
  obtain ⟨h1, h2⟩ := lexMin_spec hne
  exact lexB_conn (h2 m h) (hm _ h1)
theorem min_tups {xs : List (List Int)} (hne : xs ≠ []) (h : k (tI (lexMin xs))) : fnD .min [.list (xs.map tI)] k :=
  .inr ⟨xs, rfl, hne, fun m h1 h2 => by rw [lexMin_of h1 h2]; exact h⟩
/-- the greatest of ints -/
def maxI : List Int → Int
  | [] => 0
  | x :: xs => xs.foldl (fun m y => if m < y then y else m) x
def minI : List Int → Int
  | [] => 0
  | x :: xs => xs.foldl (fun m y => if y < m then y else m) x
theorem maxFold : ∀ (xs : List Int) (x : Int), let m := xs.foldl (fun m y => if m < y then y else m) x; (m = x ∨ m ∈ xs) ∧ x ≤ m ∧ ∀ y ∈ xs, y ≤ m
  | [], x => ⟨.inl rfl, Int.le_refl x, fun _ h => absurd h List.not_mem_nil⟩
  | y :: ys, x => by
    intro m
    obtain ⟨h1, h2, h3⟩ := maxFold ys (if x < y then y else x)
    have em : m = ys.foldl (fun m y => if m < y then y else m) (if x < y then y else x) := rfl
    rw [em]
    generalize ys.foldl (fun m y => if m < y then y else m) (if x < y then y else x) = z at *
    refine ⟨?_, ?_, fun w hw => ?_⟩
    · rcases h1 with h | h
      · split at h
        · exact .inr (by rw [h]; simp)
        · exact .inl h
      · exact .inr (List.mem_cons_of_mem _ h)
    · split at h2 <;> omega
    · rcases List.mem_cons.mp hw with e | hw
      · rw [e]; split at h2 <;> omega
      · exact h3 w hw
theorem minFold : ∀ (xs : List Int) (x : Int), let m := xs.foldl (fun m y => if y < m then y else m) x; (m = x ∨ m ∈ xs) ∧ m ≤ x ∧ ∀ y ∈ xs, m ≤ y
  | [], x => ⟨.inl rfl, Int.le_refl x, fun _ h => absurd h List.not_mem_nil⟩
  | y :: ys, x => by
    intro m
    obtain ⟨h1, h2, h3⟩ := minFold ys (if y < x then y else x)
    have em : m = ys.foldl (fun m y => if y < m then y else m) (if y < x then y else x) := rfl
    rw [em]
    generalize ys.foldl (fun m y => if y < m then y else m) (if y < x then y else x) = z at *
    refine ⟨?_, ?_, fun w hw => ?_⟩
    · rcases h1 with h | h
      · split at h
        · exact .inr (by rw [h]; simp)
        · exact .inl h
      · exact .inr (List.mem_cons_of_mem _ h)
    · split at h2 <;> omega
    · rcases List.mem_cons.mp hw with e | hw
      · rw [e]; split at h2 <;> omega
      · exact h3 w hw
theorem maxI_spec {xs : List Int} (h : xs ≠ []) : maxI xs ∈ xs ∧ ∀ y ∈ xs, y ≤ maxI xs := by
  cases xs with
  | nil => exact absurd rfl h
  | cons x xs =>
    obtain ⟨h1, h2, h3⟩ := maxFold xs x
    refine ⟨?_, fun y hy => ?_⟩
    · show xs.foldl _ x ∈ _
      rcases h1 with h | h
      · exact List.mem_cons.mpr (.inl h)
      · exact List.mem_cons_of_mem _ h
    · rcases List.mem_cons.mp hy with e | hy
      · rw [e]; exact h2
      · exact h3 y hy
theorem minI_spec {xs : List Int} (h : xs ≠ []) : minI xs ∈ xs ∧ ∀ y ∈ xs, minI xs ≤ y := by
  cases xs with
  | nil => exact absurd rfl h
  | cons x xs =>
    obtain ⟨h1, h2, h3⟩ := minFold xs x
    refine ⟨?_, fun y hy => ?_⟩
    · show xs.foldl _ x ∈ _
      rcases h1 with h | h
      · exact List.mem_cons.mpr (.inl h)
      · exact List.mem_cons_of_mem _ h
    · rcases List.mem_cons.mp hy with e | hy
      · rw [e]; exact h2
      · exact h3 y hy
theorem max_ints (hne : ns ≠ []) (h : k (.int (maxI ns))) : fnD .max [.list (ns.map PyData.int)] k :=
  ⟨ns, rfl, hne, fun m h1 h2 => by
    obtain ⟨q1, q2⟩ := maxI_spec hne
    have e : m = maxI ns := Int.le_antisymm (q2 m h1) (h2 _ q1)
    rw [e]; exact h⟩
theorem min_ints (hne : ns ≠ []) (h : k (.int (minI ns))) : fnD .min [.list (ns.map PyData.int)] k :=
  .inl ⟨ns, rfl, hne, fun m h1 h2 => by
    obtain ⟨q1, q2⟩ := minI_spec hne
    have e : m = minI ns := Int.le_antisymm (h2 _ q1) (q2 m h1)
    rw [e]; exact h⟩
end
/-! ### comprehensions that make one thing of each item -/
theorem loopC_map {α : Type} {f : D → Nat → (Option D → Nat → Prop) → Prop} {k : List D → Nat → Prop} (inj : α → D) (val : α → D) (g : Nat) : ∀ (l : List α) (acc : List D), acc.length + l.length ≤ sizeLine → (∀ x ∈ l, ∀ K : Option D → Nat → Prop, K (some (val x)) g → f (inj x) g K) → k (acc ++ l.map val) g → loopC f (l.map inj) acc g k
  | [], acc, _, _, h => by rw [List.map_nil, List.append_nil] at h; exact h
  | x :: xs, acc, hl, hf, h => by
    rw [List.length_cons] at hl
    refine hf x (List.mem_cons_self ..) _ ⟨by omega, loopC_map inj val g xs (acc ++ [val x]) (by rw [List.length_append, List.length_singleton]; omega) (fun y hy => hf y (List.mem_cons_of_mem _ hy)) ?_⟩
    rw [List.append_assoc]
    exact h
theorem comp_map {α : Type} {f : D → Nat → (Option D → Nat → Prop) → Prop} {k : List D → Nat → Prop} (inj : α → D) (val : α → D) {l : List α} {g : Nat} (hl : l.length ≤ sizeLine) (hf : ∀ x ∈ l, ∀ K : Option D → Nat → Prop, K (some (val x)) g → f (inj x) g K) (h : k (l.map val) g) : loopC f (l.map inj) [] g k :=
  loopC_map inj val g l [] (by simpa using hl) hf h
theorem loopC_fil {α : Type} {f : D → Nat → (Option D → Nat → Prop) → Prop} {k : List D → Nat → Prop} (inj : α → D) (keep : α → Bool) (val : α → D) (g : Nat) : ∀ (l : List α) (acc : List D), acc.length + l.length ≤ sizeLine → (∀ x ∈ l, ∀ K : Option D → Nat → Prop, (keep x = true → K (some (val x)) g) → (keep x = false → K none g) → f (inj x) g K) → k (acc ++ (l.filter keep).map val) g → loopC f (l.map inj) acc g k
  | [], acc, _, _, h => by rw [List.filter_nil, List.map_nil, List.append_nil] at h; exact h
  | x :: xs, acc, hl, hf, h => by
    rw [List.length_cons] at hl
    refine hf x (List.mem_cons_self ..) _ (fun e => ⟨by omega, loopC_fil inj keep val g xs (acc ++ [val x]) (by rw [List.length_append, List.length_singleton]; omega) (fun y hy => hf y (List.mem_cons_of_mem _ hy)) ?_⟩) fun e => loopC_fil inj keep val g xs acc (by omega) (fun y hy => hf y (List.mem_cons_of_mem _ hy)) ?_
    · rw [List.append_assoc]
      rw [List.filter_cons_of_pos e] at h
      exact h
    · rw [List.filter_cons_of_neg (by rw [e]; exact Bool.false_ne_true)] at h
      exact h
theorem comp_fil {α : Type} {f : D → Nat → (Option D → Nat → Prop) → Prop} {k : List D → Nat → Prop} (inj : α → D) (keep : α → Bool) (val : α → D) {l : List α} {g : Nat} (hl : l.length ≤ sizeLine) (hf : ∀ x ∈ l, ∀ K : Option D → Nat → Prop, (keep x = true → K (some (val x)) g) → (keep x = false → K none g) → f (inj x) g K) (h : k ((l.filter keep).map val) g) : loopC f (l.map inj) [] g k :=
  loopC_fil inj keep val g l [] (by simpa using hl) hf h
/-- two clauses: each outer item gives a row -/
theorem loopN_flat {α : Type} {f : D → List D → Nat → (List D → Nat → Prop) → Prop} {k : List D → Nat → Prop} (inj : α → D) (row : α → List D) (g tot : Nat) : ∀ (l : List α) (acc : List D), acc.length + (l.flatMap row).length ≤ tot → (∀ x ∈ l, ∀ (acc : List D) (K : List D → Nat → Prop), acc.length + (row x).length ≤ tot → K (acc ++ row x) g → f (inj x) acc g K) → k (acc ++ l.flatMap row) g → loopN f (l.map inj) acc g k
  | [], acc, _, _, h => by rw [List.flatMap_nil, List.append_nil] at h; exact h
  | x :: xs, acc, ht, hf, h => by
    rw [List.flatMap_cons, List.length_append] at ht
    refine hf x (List.mem_cons_self ..) acc _ (by omega) (loopN_flat inj row g tot xs (acc ++ row x) (by rw [List.length_append]; omega) (fun y hy => hf y (List.mem_cons_of_mem _ hy)) ?_)
    rw [List.append_assoc]
    rw [List.flatMap_cons] at h
    exact h
theorem rangeD_map (lo hi : Int) : rangeD lo hi = (List.range (hi - lo).toNat).map fun k : Nat => PyData.int (lo + (k : Int)) := rfl
theorem downD_map (i j : Int) : downD i j = (List.range (i - j).toNat).map fun k : Nat => PyData.int (i - (k : Int)) := rfl
theorem enumD_map : ∀ (l : List D), enumD l = (List.range l.length).map fun i => PyData.tuple [.int (i : Nat), l.getD i .none] := fun l => by
  unfold enumD zipD
  apply List.ext_getElem
  · simp
  · intro i h1 h2
    simp at h1 h2
    simp [h1]
/-! ### while loops over plain data -/
/-- what is still to be done is told by a list that grows shorter -/
inductive Res | ok (d : D) | ex (m : Nat)
def finR (X : XR) (Q : Rs) (g : Nat) : Res → Prop
  | .ok d => Q d g
  | .ex m => X (.cls m) g
theorem fin_ok {X : XR} {Q : Rs} {g : Nat} {d : D} : finR X Q g (.ok d) = Q d g := rfl
theorem fin_ex {X : XR} {Q : Rs} {g m : Nat} : finR X Q g (.ex m) = X (.cls m) g := rfl
/-- what a law is told of a call -/
def tolD : Res → D
  | .ok d => .tuple [.str "told", d]
  | .ex m => .tuple [.str (kname m)]
theorem fin_told {Q : Rs} {g : Nat} {r : Res} (hm : ∀ m, r = .ex m → m < 3) (h : Q (tolD r) g) : finR (fun x g1 => ∃ m, m < 3 ∧ x = .cls m ∧ Q (.tuple [.str (kname m)]) g1) (fun d g1 => Q (.tuple [.str "told", d]) g1) g r := by
  cases r with
  | ok d => exact h
  | ex m => exact ⟨m, hm m rfl, rfl, h⟩
theorem small' {n : Nat} (h : n ≤ 100000) : n ≤ sizeLine := by rw [sizeLine_eq]; omega
end Dz
set_option Elab.async false
set_option linter.all false
set_option maxRecDepth 100000
/-! Dz: data that == may look at; searches by loops. -/
namespace Dz
open PySem
/-- what == asks of d: at most n levels -/
def Sp (n : Nat) (d : D) : Prop := d.canLay0 = true ∧ d.depth ≤ n
def SpA (n : Nat) (xs : List D) : Prop := PyData.canLayAll0 xs = true ∧ PyData.depthAll xs ≤ n
theorem sp_int {n : Nat} {i : Int} : Sp n (.int i) := ⟨by simp only [PyData.canLay0], by simp only [PyData.depth]; exact Nat.zero_le _⟩
theorem sp_bool {n : Nat} {b : Bool} : Sp n (.bool b) := ⟨by simp only [PyData.canLay0], by simp only [PyData.depth]; exact Nat.zero_le _⟩
theorem sp_none {n : Nat} : Sp n .none := ⟨by simp only [PyData.canLay0], by simp only [PyData.depth]; exact Nat.zero_le _⟩
theorem sp_str {n : Nat} {x : Str} (h : PyData.strOk x = true) : Sp n (.str x) := ⟨by simp only [PyData.canLay0]; exact h, by simp only [PyData.depth]; exact Nat.zero_le _⟩
theorem sp_list {n : Nat} {xs : List D} (h : SpA n xs) : Sp (n + 1) (.list xs) := ⟨by simp only [PyData.canLay0]; exact h.1, by simp only [PyData.depth]; exact Nat.succ_le_succ h.2⟩
theorem sp_tup {n : Nat} {xs : List D} (h : SpA n xs) : Sp (n + 1) (.tuple xs) := ⟨by simp only [PyData.canLay0]; exact h.1, by simp only [PyData.depth]; exact Nat.succ_le_succ h.2⟩
theorem SpA.nil {n : Nat} : SpA n [] := ⟨by simp only [PyData.canLayAll0], by simp only [PyData.depthAll]; exact Nat.zero_le _⟩
theorem SpA.cons {n : Nat} {x : D} {xs : List D} (h : Sp n x) (r : SpA n xs) : SpA n (x :: xs) := ⟨by simp only [PyData.canLayAll0, h.1, r.1, Bool.and_self], by simp only [PyData.depthAll]; exact Nat.max_le.mpr ⟨h.2, r.2⟩⟩
theorem SpA.all {n : Nat} : ∀ {xs : List D}, (∀ x ∈ xs, Sp n x) → SpA n xs
  | [], _ => .nil
  | x :: xs, h => .cons (h x (List.mem_cons_self ..)) (SpA.all fun y hy => h y (List.mem_cons_of_mem _ hy))
theorem SpA.map {α : Type} {n : Nat} {f : α → D} {l : List α} (h : ∀ x ∈ l, Sp n (f x)) : SpA n (l.map f) := SpA.all fun y hy => by
  obtain ⟨x, hx, e⟩ := List.mem_map.mp hy
  rw [← e]; exact h x hx
theorem SpA.rep {n m : Nat} {x : D} (h : Sp n x) : SpA n (List.replicate m x) := SpA.all fun y hy => by rw [List.eq_of_mem_replicate hy]; exact h
theorem Sp.mono {n m : Nat} {d : D} (h : Sp n d) (l : n ≤ m) : Sp m d := ⟨h.1, Nat.le_trans h.2 l⟩
theorem Sp.ok {n : Nat} {d : D} (h : Sp n d) (l : n ≤ 64) : SeqAt.shaped d = true := by
  unfold SeqAt.shaped
  rw [h.1, decide_eq_true (Nat.le_trans h.2 l)]; rfl
theorem sp_lI {n : Nat} (ns : List Int) : Sp (n + 1) (lI ns) := sp_list (SpA.map fun _ _ => sp_int)
theorem sp_tI {n : Nat} (ns : List Int) : Sp (n + 1) (tI ns) := sp_tup (SpA.map fun _ _ => sp_int)
theorem sp_ltI {n : Nat} (nss : List (List Int)) : Sp (n + 2) (.list (nss.map tI)) := sp_list (SpA.map fun _ _ => sp_tI _)
theorem eqvAll_ints : ∀ ns ms : List Int, PyData.eqvAll (ns.map PyData.int) (ms.map PyData.int) = decide (ns = ms)
  | [], [] => by simp [PyData.eqvAll]
  | [], _ :: _ => by simp [PyData.eqvAll]
  | _ :: _, [] => by simp [PyData.eqvAll]
  | a :: r, b :: t => by
    rw [List.map_cons, List.map_cons, PyData.eqvAll, eqvAll_ints r t, PyData.eqv]
    by_cases h : a = b
    · subst h; simp
    · simp [h]
theorem eqvAll_tups : ∀ ns ms : List (List Int), PyData.eqvAll (ns.map tI) (ms.map tI) = decide (ns = ms)
  | [], [] => by simp [PyData.eqvAll]
  | [], _ :: _ => by simp [PyData.eqvAll]
  | _ :: _, [] => by simp [PyData.eqvAll]
  | a :: r, b :: t => by
    rw [List.map_cons, List.map_cons, PyData.eqvAll, eqvAll_tups r t, PyData.eqv, eqvAll_ints]
    by_cases h : a = b
    · subst h; simp
    · simp [h]
section
variable {k : D → Prop} {ns ms : List Int} {xs ys : List D} {nss mss : List (List Int)}
theorem e_eqLL : cmpD .eq (.list (ns.map PyData.int)) (.list (ms.map PyData.int)) k = k (.bool (decide (ns = ms))) := by
  show ((SeqAt.shaped _ = true ∧ SeqAt.shaped _ = true) ∧ k (.bool (PyData.eqv _ _))) = _
  rw [(sp_lI (n := 0) ns).ok (by decide), (sp_lI (n := 0) ms).ok (by decide), PyData.eqv, eqvAll_ints]
  simp
theorem e_eqTT : cmpD .eq (.tuple (ns.map PyData.int)) (.tuple (ms.map PyData.int)) k = k (.bool (decide (ns = ms))) := by
  show ((SeqAt.shaped _ = true ∧ SeqAt.shaped _ = true) ∧ k (.bool (PyData.eqv _ _))) = _
  rw [(sp_tI (n := 0) ns).ok (by decide), (sp_tI (n := 0) ms).ok (by decide), PyData.eqv, eqvAll_ints]
  simp
theorem e_neLL : cmpD .ne (.list (ns.map PyData.int)) (.list (ms.map PyData.int)) k = k (.bool (!decide (ns = ms))) := by
  show ((SeqAt.shaped _ = true ∧ SeqAt.shaped _ = true) ∧ k (.bool (!PyData.eqv _ _))) = _
  rw [(sp_lI (n := 0) ns).ok (by decide), (sp_lI (n := 0) ms).ok (by decide), PyData.eqv, eqvAll_ints]
  simp
theorem e_eqLT : cmpD .eq (.list (nss.map tI)) (.list (mss.map tI)) k = k (.bool (decide (nss = mss))) := by
  show ((SeqAt.shaped _ = true ∧ SeqAt.shaped _ = true) ∧ k (.bool (PyData.eqv _ _))) = _
  rw [(sp_ltI (n := 0) nss).ok (by decide), (sp_ltI (n := 0) mss).ok (by decide), PyData.eqv, eqvAll_tups]
  simp
theorem e_memL {i : Int} {k : Bool → Prop} : memD (.int i) (.list (ns.map PyData.int)) k = k (decide (i ∈ ns)) := by
  show ((SeqAt.shaped (.int i) = true ∧ SeqAt.shaped (.list (ns.map PyData.int)) = true) ∧ k _) = _
  rw [any_eqv, (sp_lI (n := 0) ns).ok (by decide), (sp_int (n := 0)).ok (by decide)]
  simp
/-- == of equal data -/
theorem eq_self {d : D} {n : Nat} (h : Sp n d) (hn : n ≤ 64) (q : k (.bool true)) : cmpD .eq d d k := by
  have s := h.ok hn
  cases d <;> first
    | (show k (.bool (decide (_ = _))); rw [decide_eq_true rfl]; exact q)
    | (refine ⟨⟨s, s⟩, ?_⟩; rw [SeqAt.eqv_refl _ h.1]; exact q)
theorem ne_self {d : D} {n : Nat} (h : Sp n d) (hn : n ≤ 64) (q : k (.bool false)) : cmpD .ne d d k := by
  have s := h.ok hn
  cases d <;> first
    | (show k (.bool (!decide (_ = _))); rw [decide_eq_true rfl]; exact q)
    | (refine ⟨⟨s, s⟩, ?_⟩; rw [SeqAt.eqv_refl _ h.1]; exact q)
end
theorem log_small {i : Int} {a : Nat} (h : i.natAbs < 2 ^ a) : i.natAbs.log2 ≤ a := by
  by_cases z : i.natAbs = 0
  · rw [z]; exact Nat.zero_le _
  · exact Nat.le_of_lt ((Nat.log2_lt z).mpr h)
/-- xs[:-1] -/
theorem cut_butlast (xs : List D) : cutD xs none (some (-1)) = xs.dropLast := by
  unfold cutD
  show (xs.drop 0).take (sIx xs.length xs.length (some (-1)) - 0) = _
  rw [List.drop_zero, Nat.sub_zero, List.dropLast_eq_take]
  congr 1
  show (if (-1 : Int) < 0 then ((-1 : Int) + (xs.length : Int)).toNat else min (-1 : Int).toNat xs.length) = xs.length - 1
  rw [if_pos (by decide)]
  omega
theorem at_nat {xs : List D} {i : Nat} (h : i < xs.length) : at_ xs (i : Int) = some xs[i] := at_of (List.getElem?_eq_getElem h)
/-- the item of a row of ints at a place -/
theorem at_ints {ns : List Int} {i : Int} (h0 : 0 ≤ i) (h : i < ns.length) : at_ (ns.map PyData.int) i = some (.int (ns.getD i.toNat 0)) := by
  have e : i = (i.toNat : Int) := by omega
  have hl : i.toNat < ns.length := by omega
  rw [e, at_of (xs := ns.map PyData.int) (i := i.toNat) (d := .int (ns.getD i.toNat 0))]
  · rfl
  · rw [List.getElem?_map, List.getElem?_eq_getElem hl, List.getD_eq_getElem?_getD, List.getElem?_eq_getElem hl]
    rfl
/-- a loop that looks for the first good one -/
theorem for_find {α : Type} {tg : Tg} {body : Ev → Nat → Kt → Prop} {k : Kt} {g : Nat} (inj : α → D) (l : List α) (p : α → Bool) (J : Ev → Prop) {ρ : Ev} (h0 : J ρ)
    (st : ∀ x ∈ l, ∀ (ρ : Ev) (nx : Ev → Nat → Prop), J ρ → (p x = true → l.find? p = some x) → (p x = false → ∀ ρ', J ρ' → nx ρ' g) → ∃ ρ', bindT tg (inj x) ρ = some ρ' ∧ body ρ' g ⟨nx, k.rt, k.nx, nx⟩)
    (e : l.find? p = none → ∀ ρ, J ρ → k.nx ρ g) : loopF tg body (l.map inj) ρ g k := by
  have go : ∀ (post pre : List α) (ρ : Ev), l = pre ++ post → pre.find? p = none → J ρ → loopF tg body (post.map inj) ρ g k := by
    intro post
    induction post with
    | nil =>
      intro pre ρ el hp hj
      rw [List.append_nil] at el
      exact e (by rw [el]; exact hp) ρ hj
    | cons x xs ih =>
      intro pre ρ el hp hj
      have hx : x ∈ l := by rw [el]; simp
      refine st x hx ρ _ hj (fun hpx => ?_) fun hpx ρ' hj' => ih (pre ++ [x]) ρ' (by rw [el, List.append_assoc]; rfl) ?_ hj'
      · rw [el, List.find?_append, hp, List.find?_cons, hpx]
        rfl
      · rw [List.find?_append, hp, List.find?_cons, hpx]
        rfl
  exact go l [] ρ rfl rfl h0
/-- a loop whose turns find nothing, or the first that finds ends it -/
theorem for_findSome {α β : Type} {tg : Tg} {body : Ev → Nat → Kt → Prop} {k : Kt} {g : Nat} (inj : α → D) (l : List α) (p : α → Option β) (J : Ev → Prop) {ρ : Ev} (h0 : J ρ)
    (st : ∀ x ∈ l, ∀ (ρ : Ev) (nx : Ev → Nat → Prop), J ρ → (∀ y, p x = some y → l.findSome? p = some y) → (p x = none → ∀ ρ', J ρ' → nx ρ' g) → ∃ ρ', bindT tg (inj x) ρ = some ρ' ∧ body ρ' g ⟨nx, k.rt, k.nx, nx⟩)
    (e : l.findSome? p = none → ∀ ρ, J ρ → k.nx ρ g) : loopF tg body (l.map inj) ρ g k := by
  have go : ∀ (post pre : List α) (ρ : Ev), l = pre ++ post → pre.findSome? p = none → J ρ → loopF tg body (post.map inj) ρ g k := by
    intro post
    induction post with
    | nil =>
      intro pre ρ el hp hj
      rw [List.append_nil] at el
      exact e (by rw [el]; exact hp) ρ hj
    | cons x xs ih =>
      intro pre ρ el hp hj
      have hx : x ∈ l := by rw [el]; simp
      refine st x hx ρ _ hj (fun y hpx => ?_) fun hpx ρ' hj' => ih (pre ++ [x]) ρ' (by rw [el, List.append_assoc]; rfl) ?_ hj'
      · rw [el, List.findSome?_append, hp, List.findSome?_cons, hpx]
        rfl
      · rw [List.findSome?_append, hp, List.findSome?_cons, hpx]
        rfl
  exact go l [] ρ rfl rfl h0
/-- a loop whose state is told by what was walked already -/
theorem for_fold {α σ : Type} {tg : Tg} {body : Ev → Nat → Kt → Prop} {k : Kt} {g : Nat} (inj : α → D) (f : σ → α → σ) (J : σ → Ev → Prop) : ∀ (l : List α) (s : σ) (ρ : Ev), J s ρ →
    (∀ x ∈ l, ∀ (s : σ) (ρ : Ev) (nx : Ev → Nat → Prop), J s ρ → (∀ ρ', J (f s x) ρ' → nx ρ' g) → ∃ ρ', bindT tg (inj x) ρ = some ρ' ∧ body ρ' g ⟨nx, k.rt, k.nx, nx⟩) →
    (∀ ρ, J (l.foldl f s) ρ → k.nx ρ g) → loopF tg body (l.map inj) ρ g k
  | [], s, ρ, h, _, e => e ρ h
  | x :: xs, s, ρ, h, st, e => st x (List.mem_cons_self ..) s ρ _ h fun ρ' h' => for_fold inj f J xs (f s x) ρ' h' (fun y hy => st y (List.mem_cons_of_mem _ hy)) e
/-- a while loop whose state steps on, as long as all is well -/
def runW {σ : Type} (more ok : σ → Bool) (step : σ → σ) : Nat → σ → Option σ
  | 0, s => if more s = true then none else some s
  | n + 1, s => if more s = true then (if ok s = true then runW more ok step n (step s) else none) else some s
theorem while_run {σ : Type} {c : Ev → Nat → (Bool → Nat → Prop) → Prop} {body : Ev → Nat → Kt → Prop} {k : Kt} {g : Nat} (J : σ → Ev → Prop) (more ok : σ → Bool) (step : σ → σ) {s' : σ}
    (hc : ∀ s ρ (kc : Bool → Nat → Prop), J s ρ → kc (more s) g → c ρ g kc)
    (hb : ∀ s ρ (nx : Ev → Nat → Prop), J s ρ → more s = true → ok s = true → (∀ ρ', J (step s) ρ' → nx ρ' g) → body ρ g ⟨nx, k.rt, k.nx, nx⟩)
    (he : ∀ ρ, J s' ρ → k.nx ρ g) : ∀ (n : Nat) (s : σ) (ρ : Ev), J s ρ → runW more ok step n s = some s' → ∃ m, loopW c body m ρ g k := by
  have go : ∀ (n : Nat) (s : σ) (ρ : Ev), J s ρ → runW more ok step n s = some s' → loopW c body (n + 1) ρ g k := by
    intro n
    induction n with
    | zero =>
      intro s ρ h hr
      refine hc s ρ _ h ?_
      unfold runW at hr
      by_cases q : more s = true
      · rw [if_pos q] at hr; cases hr
      · rw [if_neg q] at hr
        cases hr
        rw [if_neg q]
        exact he ρ h
    | succ n ih =>
      intro s ρ h hr
      refine hc s ρ _ h ?_
      unfold runW at hr
      by_cases q : more s = true
      · rw [if_pos q] at hr
        rw [if_pos q]
        by_cases q2 : ok s = true
        · rw [if_pos q2] at hr
          exact hb s ρ _ h q q2 fun ρ' h' => ih _ ρ' h' hr
        · rw [if_neg q2] at hr; cases hr
      · rw [if_neg q] at hr
        cases hr
        rw [if_neg q]
        exact he ρ h
  exact fun n s ρ h hr => ⟨n + 1, go n s ρ h hr⟩
end Dz
set_option Elab.async false
set_option linter.all false
set_option maxRecDepth 100000
/-! Dz: sorted lists, places, loops that push. -/
namespace Dz
open PySem
/-! ### sorted -/
def oins (x : Int) : List Int → List Int
  | [] => [x]
  | y :: ys => if x ≤ y then x :: y :: ys else y :: oins x ys
def ord (l : List Int) : List Int := l.foldr oins []
theorem oins_perm (x : Int) : ∀ l : List Int, (oins x l).Perm (x :: l)
  | [] => .refl _
  | y :: ys => by
    unfold oins
    split
    · exact .refl _
    · exact ((oins_perm x ys).cons y).trans (.swap x y ys)
theorem ord_perm : ∀ l : List Int, (ord l).Perm l
  | [] => .refl _
  | x :: xs => (oins_perm x (ord xs)).trans ((ord_perm xs).cons x)
theorem oins_pw {x : Int} : ∀ {l : List Int}, l.Pairwise (· ≤ ·) → (oins x l).Pairwise (· ≤ ·)
  | [], _ => List.pairwise_singleton _ _
  | y :: ys, h => by
    obtain ⟨h1, h2⟩ := List.pairwise_cons.mp h
    unfold oins
    split
    · next q => exact List.pairwise_cons.mpr ⟨fun z hz => by
        rcases List.mem_cons.mp hz with rfl | hz
        · exact q
        · exact Int.le_trans q (h1 z hz), h⟩
    · next q => exact List.pairwise_cons.mpr ⟨fun z hz => by
        rcases List.mem_cons.mp ((oins_perm x ys).mem_iff.mp hz) with rfl | hz
        · omega
        · exact h1 z hz, oins_pw h2⟩
theorem ord_pw : ∀ l : List Int, (ord l).Pairwise (· ≤ ·)
  | [] => .nil
  | _ :: xs => oins_pw (ord_pw xs)
theorem ord_of {r l : List Int} (hp : r.Perm l) (hr : r.Pairwise (· ≤ ·)) : r = ord l :=
  List.Perm.eq_of_pairwise (fun _ _ _ _ a b => Int.le_antisymm a b) hr (ord_pw l) (hp.trans (ord_perm l).symm)
theorem ord_mem {l : List Int} {x : Int} : x ∈ ord l ↔ x ∈ l := (ord_perm l).mem_iff
theorem ord_len (l : List Int) : (ord l).length = l.length := (ord_perm l).length_eq
theorem ord_lt {l : List Int} (h : l.Nodup) : (ord l).Pairwise (· < ·) := by
  have a := ord_pw l
  have b : (ord l).Nodup := (ord_perm l).nodup_iff.mpr h
  exact (a.and b).imp fun ⟨h1, h2⟩ => by omega
section
variable {k : D → Prop} {ns : List Int}
theorem e_ord : fnD .sorted [.list (ns.map PyData.int)] k = k (.list ((ord ns).map PyData.int)) := by
  refine propext ⟨fun ⟨ms, h1, h⟩ => ?_, fun h => ⟨ns, rfl, fun r h1 h2 => ?_⟩⟩
  · rw [int_inj h1]; exact h _ (ord_perm ms) (ord_pw ms)
  · rw [ord_of h1 h2]; exact h
theorem e_eqL0 : cmpD .eq (.list (ns.map PyData.int)) (.list []) k = k (.bool (decide (ns = []))) := e_eqLL (ms := [])
theorem e_eqLT0 {nss : List (List Int)} : cmpD .eq (.list (nss.map tI)) (.list []) k = k (.bool (decide (nss = []))) := e_eqLT (mss := [])
theorem e_neTT {ms : List Int} : cmpD .ne (.tuple (ns.map PyData.int)) (.tuple (ms.map PyData.int)) k = k (.bool (!decide (ns = ms))) := by
  show ((SeqAt.shaped _ = true ∧ SeqAt.shaped _ = true) ∧ k (.bool (!PyData.eqv _ _))) = _
  rw [(sp_tI (n := 0) ns).ok (by decide), (sp_tI (n := 0) ms).ok (by decide), PyData.eqv, eqvAll_ints]
  simp
theorem e_neB {a b : Bool} : cmpD .ne (.bool a) (.bool b) k = k (.bool (xor a b)) := by
  show ((SeqAt.shaped _ = true ∧ SeqAt.shaped _ = true) ∧ k (.bool (!PyData.eqv _ _))) = _
  rw [(sp_bool (n := 0) (b := a)).ok (by decide), (sp_bool (n := 0) (b := b)).ok (by decide)]
  cases a <;> cases b <;> simp [PyData.eqv]
end
/-! ### places -/
theorem at_map {α : Type} {f : α → D} {l : List α} {x : Int} (h0 : 0 ≤ x) (h : x < l.length) : ∃ a, a ∈ l ∧ at_ (l.map f) x = some (f a) := by
  obtain ⟨i, rfl⟩ : ∃ i : Nat, x = (i : Int) := ⟨x.toNat, by omega⟩
  have hi : i < l.length := by omega
  exact ⟨l[i], List.getElem_mem hi, at_of (by rw [List.getElem?_map, List.getElem?_eq_getElem hi]; rfl)⟩
theorem map_at {α : Type} {f : α → D} {l : List α} {i : Nat} {d : D} (h : (l.map f)[i]? = some d) : ∃ a, l[i]? = some a ∧ a ∈ l ∧ d = f a ∧ l.take (i + 1) = l.take i ++ [a] ∧ i < l.length := by
  rw [List.getElem?_map] at h
  cases e : l[i]? with
  | none => rw [e] at h; cases h
  | some a =>
    rw [e] at h
    refine ⟨a, rfl, List.mem_of_getElem? e, (Option.some.inj h).symm, ?_, (List.getElem?_eq_some_iff.mp e).1⟩
    rw [List.take_succ, e]; rfl
theorem getD_mem {ns : List Int} {i : Nat} (h : i < ns.length) : ns.getD i 0 ∈ ns := by
  rw [List.getD_eq_getElem?_getD, List.getElem?_eq_getElem h]; exact List.getElem_mem h
/-- the last one -/
theorem at_last {ns : List Int} (h : ns ≠ []) : at_ (ns.map PyData.int) (-1) = some (.int (ns.getD (ns.length - 1) 0)) := by
  have hl : 0 < ns.length := List.length_pos_iff.mpr h
  unfold at_ ixN
  rw [if_neg (by decide), List.length_map, if_pos (by omega)]
  show (ns.map PyData.int)[(-1 + (ns.length : Int)).toNat]? = _
  rw [show (-1 + (ns.length : Int)).toNat = ns.length - 1 by omega, List.getElem?_map, List.getD_eq_getElem?_getD, List.getElem?_eq_getElem (by omega)]; rfl
theorem at_0 {d : D} {ds : List D} : at_ (d :: ds) 0 = some d := at_of (i := 0) rfl
theorem at_1 {d e : D} {ds : List D} : at_ (d :: e :: ds) 1 = some e := at_of (i := 1) rfl
theorem at_2 {d e f : D} {ds : List D} : at_ (d :: e :: f :: ds) 2 = some f := at_of (i := 2) rfl
/-! ### loops that push -/
theorem for_push {α : Type} {tg : Tg} {body : Ev → Nat → Kt → Prop} {k : Kt} {g tot : Nat} (inj : α → D) (p : α → Bool) (val : α → D) (J : List D → Ev → Prop) : ∀ (l : List α) (acc : List D) (ρ : Ev), J acc ρ → acc.length + l.length ≤ tot →
    (∀ x ∈ l, ∀ (acc : List D) (ρ : Ev) (nx : Ev → Nat → Prop), J acc ρ → acc.length < tot → (p x = true → ∀ ρ', J (acc ++ [val x]) ρ' → nx ρ' g) → (p x = false → ∀ ρ', J acc ρ' → nx ρ' g) → ∃ ρ', bindT tg (inj x) ρ = some ρ' ∧ body ρ' g ⟨nx, k.rt, k.nx, nx⟩) →
    (∀ ρ, J (acc ++ (l.filter p).map val) ρ → k.nx ρ g) → loopF tg body (l.map inj) ρ g k
  | [], acc, ρ, h, _, _, e => e ρ (by simpa using h)
  | x :: xs, acc, ρ, h, hl, st, e => by
    rw [List.length_cons] at hl
    refine st x (List.mem_cons_self ..) acc ρ _ h (by omega) (fun q ρ' h' => ?_) (fun q ρ' h' => ?_)
    · refine for_push inj p val J xs (acc ++ [val x]) ρ' h' (by rw [List.length_append, List.length_singleton]; omega) (fun y hy => st y (List.mem_cons_of_mem _ hy)) fun ρ hρ => e ρ ?_
      rw [List.filter_cons, if_pos q, List.map_cons]
      simpa using hρ
    · refine for_push inj p val J xs acc ρ' h' (by omega) (fun y hy => st y (List.mem_cons_of_mem _ hy)) fun ρ hρ => e ρ ?_
      rw [List.filter_cons, if_neg (by rw [q]; exact Bool.false_ne_true)]
      exact hρ
/-- the ints from lo down -/
def dwn (lo hi : Int) : List Int := (List.range (lo - hi).toNat).map fun k : Nat => lo - (k : Int)
theorem dwn_map (i j : Int) : downD i j = (dwn i j).map PyData.int := by
  rw [downD_map]
  unfold dwn
  rw [List.map_map]; rfl
theorem dwn_mem {i j x : Int} (h : x ∈ dwn i j) : j < x ∧ x ≤ i := by
  obtain ⟨k, hk, e⟩ := List.mem_map.mp h
  have := List.mem_range.mp hk
  omega
theorem dwn_len (i j : Int) : (dwn i j).length = (i - j).toNat := by simp [dwn]
/-- the ints from lo up -/
def rng (lo hi : Int) : List Int := (List.range (hi - lo).toNat).map fun k : Nat => lo + (k : Int)
theorem rng_map (i j : Int) : rangeD i j = (rng i j).map PyData.int := by
  rw [rangeD_map]
  unfold rng
  rw [List.map_map]; rfl
theorem rng_mem {i j x : Int} : x ∈ rng i j ↔ i ≤ x ∧ x < j := by
  constructor
  · intro h
    obtain ⟨k, hk, e⟩ := List.mem_map.mp h
    have := List.mem_range.mp hk
    omega
  · intro h
    exact List.mem_map.mpr ⟨(x - i).toNat, List.mem_range.mpr (by omega), by omega⟩
theorem rng_len' (i j : Int) : (rng i j).length = (j - i).toNat := by simp [rng]
theorem tI_snoc (r : List Int) (c : Int) : PyData.tuple (r.map PyData.int ++ [PyData.int c]) = tI (r ++ [c]) := by
  show PyData.tuple _ = PyData.tuple _
  rw [List.map_append]; rfl
theorem cut_ints (row : List Int) (i : Nat) : cutD (row.map PyData.int) none (some (i : Int)) = (row.take i).map PyData.int := by rw [cut_to, List.map_take]
theorem all_cong {α : Type} {p q : α → Bool} : ∀ {l : List α}, (∀ x ∈ l, p x = q x) → l.all p = l.all q
  | [], _ => rfl
  | x :: xs, h => by
    rw [List.all_cons, List.all_cons, h x (List.mem_cons_self ..), all_cong fun y hy => h y (List.mem_cons_of_mem _ hy)]
theorem line_lt {m : Nat} (h : m ≤ 100000) : m < sizeLine := by rw [sizeLine_eq]; omega
/-! ### what repr is asked -/
def Lo (row : List Int) : Prop := row.length ≤ 900 ∧ ∀ x ∈ row, x.natAbs.log2 < 1920
theorem sh_row {row : List Int} (h : Lo row) : Sh 1 1800000 (tI row) := by
  refine (sh_tup (dp := 0) (ShA.all (m := 1925) (xs := row.map PyData.int) fun x hx => ?_)).mono (Nat.le_refl _) (by rw [List.length_map]; have := h.1; omega)
  obtain ⟨y, hy, rfl⟩ := List.mem_map.mp hx
  exact sh_int (h.2 y hy)
theorem sh_toldT {dp m : Nat} {d : D} (h : Sh dp m d) : Sh (dp + 1) (m + 100) (.tuple [.str "told", d]) := (sh_tup (.cons (sh_str (m := 10) (by decide +kernel)) (.cons h .nil))).mono (Nat.le_refl _) (by omega)
theorem sh_kn {dp : Nat} {m : Nat} (hm : m < 3) : Sh (dp + 1) 100 (.tuple [.str (kname m)]) := by
  rcases (by omega : m = 0 ∨ m = 1 ∨ m = 2) with rfl | rfl | rfl <;> exact (sh_tup (.cons (sh_str (m := 20) (by decide +kernel)) .nil)).mono (Nat.le_refl _) (by omega)
theorem lo_of {row : List Int} (h : row.length ≤ 900) (h2 : ∀ x ∈ row, x.natAbs < 1024) : Lo row := ⟨h, fun x hx => Nat.lt_of_le_of_lt (log_small (a := 10) (h2 x hx)) (by decide)⟩
theorem sh_small {dp : Nat} {i : Int} (h : i.natAbs < 2 ^ 60) : Sh dp 1925 (.int i) := sh_int (Nat.lt_of_le_of_lt (log_small (a := 60) h) (by decide))
end Dz
set_option Elab.async false
set_option linter.all false
set_option maxRecDepth 100000
/-! the defs of the law, in the small language -/
namespace Dz
open PySem
/-- _law_stream: 0 script, 1 numbers, 2 cell, 3 rest, 4 k, 5 stirred -/
def b_law_stream_9 : SL := (.cons .brk .nil)
def b_law_stream_8 : SL := (.cons (.ifs (.cmp .eq (.var 3) (.int 0)) b_law_stream_9 .nil) .nil)
def b_law_stream_7 : SL := (.cons (.set 3 (.bin .fdiv (.var 3) (.int 1009))) b_law_stream_8)
def b_law_stream_6 : SL := (.cons (.append 1 (.bin .mod (.fn .int (.cons (.var 3) .nil)) (.int 1009))) b_law_stream_7)
def b_law_stream_5 : SL := (.cons (.for_ (.v 4) (.range1 (.int 60)) b_law_stream_6) .nil)
def b_law_stream_14 : SL := (.cons (.append 1 (.bin .mod (.bin .mod (.fn .int (.cons (.bin .add (.bin .mul (.var 5) (.int 69621)) (.var 4)) .nil)) (.int 2147483629)) (.int 1009))) .nil)
def b_law_stream_13 : SL := (.cons (.set 5 (.bin .mod (.fn .int (.cons (.bin .add (.bin .add (.bin .mul (.var 5) (.int 48271)) (.bin .mul (.int 7) (.var 4))) (.int 11)) .nil)) (.int 2147483647))) b_law_stream_14)
def b_law_stream_12 : SL := (.cons (.for_ (.v 4) (.range1 (.int 10)) b_law_stream_13) .nil)
def b_law_stream_11 : SL := (.cons (.set 5 (.bin .mod (.fn .int (.cons (.var 3) .nil)) (.int 2147483647))) b_law_stream_12)
def b_law_stream_4 : SL := (.cons (.ifs (.cmp .ge (.var 3) (.bin .pow (.int 10) (.int 18))) b_law_stream_5 b_law_stream_11) .nil)
def b_law_stream_3 : SL := (.cons (.set 3 (.fn .abs (.cons (.fn .int (.cons (.var 2) .nil)) .nil))) b_law_stream_4)
def b_law_stream_16 : SL := (.cons (.append 1 (.int 0)) .nil)
def b_law_stream_17 : SL := (.cons (.freeze 1) (.cons (.ret (.var 1)) .nil))
def b_law_stream_15 : SL := (.cons (.ifs (.cmp .eq (.fn .len (.cons (.own 1) .nil)) (.int 0)) b_law_stream_16 .nil) b_law_stream_17)
def b_law_stream_2 : SL := (.cons (.for_ (.v 2) (.of (.slice (.var 0) .no (.ye (.int 63)))) b_law_stream_3) b_law_stream_15)
def b_law_stream_1 : SL := (.cons (.setO 1 (.lst .nil)) b_law_stream_2)
abbrev b_law_stream : SL := b_law_stream_1
def d_law_stream : Def := ⟨"_law_stream", ["script"], ["script", "numbers", "cell", "rest", "k", "stirred"], b_law_stream⟩
/-- _law_apart: 0 modulus, 1 row, 2 found, 3 one, 4 other -/
def b_law_apart_3 : SL := (.cons (.set 2 (.bin .add (.var 2) (.comp (.bin .mod (.fn .int (.cons (.bin .sub (.var 3) (.var 4)) .nil)) (.var 0)) (.v 4) (.of (.var 1)) (.cons (.cmp .ne (.var 4) (.var 3)) .nil) [4]))) .nil)
def b_law_apart_4 : SL := (.cons (.ret (.var 2)) .nil)
def b_law_apart_2 : SL := (.cons (.for_ (.v 3) (.of (.var 1)) b_law_apart_3) b_law_apart_4)
def b_law_apart_1 : SL := (.cons (.set 2 (.lst .nil)) b_law_apart_2)
abbrev b_law_apart : SL := b_law_apart_1
def d_law_apart : Def := ⟨"_law_apart", ["modulus", "row"], ["modulus", "row", "found", "one", "other"], b_law_apart⟩
/-- _law_fits: 0 modulus, 1 row, 2 rows -/
def b_law_fits_2 : SL := (.cons (.ret (.cmp .eq (.lset (.var 2)) (.fn .len (.cons (.var 2) .nil)))) .nil)
def b_law_fits_1 : SL := (.cons (.set 2 (.call 1 (.cons (.var 0) (.cons (.var 1) .nil)))) b_law_fits_2)
abbrev b_law_fits : SL := b_law_fits_1
def d_law_fits : Def := ⟨"_law_fits", ["modulus", "row"], ["modulus", "row", "rows"], b_law_fits⟩
/-- _law_all: 0 modulus, 1 rows, 2 one, 3 row -/
def b_law_all_3 : SL := (.cons (.set 1 (.bin .add (.var 1) (.comp (.bin .add (.var 3) (.tup (.cons (.var 2) .nil))) (.v 3) (.of (.var 1)) (.cons (.call 2 (.cons (.var 0) (.cons (.bin .add (.var 3) (.tup (.cons (.var 2) .nil))) .nil))) .nil) [3]))) .nil)
def b_law_all_4 : SL := (.cons (.ret (.var 1)) .nil)
def b_law_all_2 : SL := (.cons (.for_ (.v 2) (.range (.int 1) (.var 0)) b_law_all_3) b_law_all_4)
def b_law_all_1 : SL := (.cons (.set 1 (.lst (.cons (.tup (.cons (.int 0) .nil)) .nil))) b_law_all_2)
abbrev b_law_all : SL := b_law_all_1
def d_law_all : Def := ⟨"_law_all", ["modulus"], ["modulus", "rows", "one", "row"], b_law_all⟩
/-- _law_wrong_ring: 0 state, 1 modulus, 2 members, 3 bad -/
def b_law_wrong_ring_2 : SL := (.cons (.ret (.ix (.var 3) (.draw 0 (.int 6)))) .nil)
def b_law_wrong_ring_1 : SL := (.cons (.set 3 (.lst (.cons (.tup (.cons (.int 0) (.cons (.var 2) .nil))) (.cons (.tup (.cons (.int 61) (.cons (.var 2) .nil))) (.cons (.tup (.cons (.var 1) (.cons (.tup .nil) .nil))) (.cons (.tup (.cons (.var 1) (.cons (.bin .add (.var 2) (.tup (.cons (.var 1) .nil))) .nil))) (.cons (.tup (.cons (.var 1) (.cons (.bin .add (.tup (.cons (.neg (.int 1)) .nil)) (.var 2)) .nil))) (.cons (.tup (.cons (.var 1) (.cons (.bin .add (.var 2) (.slice (.var 2) (.ye (.neg (.int 1))) .no)) .nil))) .nil)))))))) b_law_wrong_ring_2)
abbrev b_law_wrong_ring : SL := b_law_wrong_ring_1
def d_law_wrong_ring : Def := ⟨"_law_wrong_ring", ["state", "modulus", "members"], ["state", "modulus", "members", "bad"], b_law_wrong_ring⟩
/-- _law_same: 0 told, 1 due -/
def b_law_same_1 : SL := (.cons (.ret (.cmp .eq (.fn .repr (.cons (.lst (.cons (.var 0) .nil)) .nil)) (.fn .repr (.cons (.lst (.cons (.var 1) .nil)) .nil)))) .nil)
abbrev b_law_same : SL := b_law_same_1
def d_law_same : Def := ⟨"_law_same", ["told", "due"], ["told", "due"], b_law_same⟩
/-- perfect_of: 0 members, 1 modulus, 2 line, 3 one, 4 row, 5 used, 6 fresh, 7 other, 8 gap -/
def b_perfect_of_2 : SL := (.cons (.raise 0) .nil)
def b_perfect_of_8 : SL := (.cons (.ret (.tup (.cons (.var 1) (.cons (.var 4) .nil)))) .nil)
def b_perfect_of_12 : SL := (.cons (.append 2 (.tup (.cons (.tup (.star (.var 4) (.cons (.var 3) .nil))) (.cons (.tup (.star (.var 5) (.star (.var 6) .nil))) .nil)))) .nil)
def b_perfect_of_11 : SL := (.cons (.ifs (.and (.cmp .eq (.lset (.var 6)) (.fn .len (.cons (.var 6) .nil))) (.not (.fn .any (.cons (.comp (.mem false (.var 8) (.var 5)) (.v 8) (.of (.var 6)) .nil [8]) .nil)))) b_perfect_of_12 .nil) .nil)
def b_perfect_of_10 : SL := (.cons (.set 6 (.comp2 (.var 8) (.v 7) (.of (.var 4)) .nil (.v 8) (.of (.tup (.cons (.bin .mod (.bin .sub (.var 3) (.var 7)) (.var 1)) (.cons (.bin .mod (.bin .sub (.var 7) (.var 3)) (.var 1)) .nil)))) .nil [7, 8] [8])) b_perfect_of_11)
def b_perfect_of_9 : SL := (.cons (.for_ (.v 3) (.down (.bin .sub (.var 1) (.int 1)) (.ix (.var 4) (.neg (.int 1)))) b_perfect_of_10) .nil)
def b_perfect_of_7 : SL := (.cons (.ifs (.cmp .eq (.fn .len (.cons (.var 4) .nil)) (.var 0)) b_perfect_of_8 .nil) b_perfect_of_9)
def b_perfect_of_6 : SL := (.cons (.pop (.t [4, 5]) 2) b_perfect_of_7)
def b_perfect_of_13 : SL := (.cons (.raise 2) .nil)
def b_perfect_of_5 : SL := (.cons (.while_ (.cmp .gt (.fn .len (.cons (.own 2) .nil)) (.int 0)) b_perfect_of_6) b_perfect_of_13)
def b_perfect_of_4 : SL := (.cons (.setO 2 (.lst (.cons (.tup (.cons (.tup (.cons (.int 0) (.cons (.int 1) .nil))) (.cons (.tup (.cons (.int 1) (.cons (.bin .sub (.var 1) (.int 1)) .nil))) .nil))) .nil))) b_perfect_of_5)
def b_perfect_of_3 : SL := (.cons (.set 1 (.bin .add (.bin .mul (.var 0) (.bin .sub (.var 0) (.int 1))) (.int 1))) b_perfect_of_4)
def b_perfect_of_1 : SL := (.cons (.ifs (.not (.chain .le .le (.int 2) (.var 0) (.int 6))) b_perfect_of_2 .nil) b_perfect_of_3)
abbrev b_perfect_of : SL := b_perfect_of_1
def d_perfect_of : Def := ⟨"perfect_of", ["members"], ["members", "modulus", "line", "one", "row", "used", "fresh", "other", "gap"], b_perfect_of⟩
/-- _law_ring: 0 state, 1 modulus, 2 size, 3 found, 4 pick, 5 step, 6 good, 7 more, 8 one, 9 k -/
def b_law_ring_5 : SL := (.cons (.set 3 (.comp (.bin .mod (.fn .int (.cons (.bin .add (.ix (.var 3) (.int 0)) (.bin .mul (.var 5) (.var 9))) .nil)) (.var 1)) (.v 9) (.range1 (.fn .len (.cons (.var 3) .nil))) .nil [9])) .nil)
def b_law_ring_4 : SL := (.cons (.set 5 (.bin .add (.int 1) (.draw 0 (.var 1)))) b_law_ring_5)
def b_law_ring_11 : SL := (.cons (.set 7 (.bin .add (.var 7) (.comp (.bin .mod (.fn .int (.cons (.bin .add (.var 8) (.bin .mul (.var 5) (.var 9))) .nil)) (.var 1)) (.v 9) (.range1 (.bin .fdiv (.var 1) (.var 5))) .nil [9]))) .nil)
def b_law_ring_12 : SL := (.cons (.set 3 (.var 7)) .nil)
def b_law_ring_10 : SL := (.cons (.for_ (.v 8) (.of (.var 3)) b_law_ring_11) b_law_ring_12)
def b_law_ring_9 : SL := (.cons (.set 7 (.lst .nil)) b_law_ring_10)
def b_law_ring_8 : SL := (.cons (.set 5 (.ix (.var 6) (.draw 0 (.fn .len (.cons (.var 6) .nil))))) b_law_ring_9)
def b_law_ring_7 : SL := (.cons (.set 6 (.comp (.var 8) (.v 8) (.range (.int 1) (.bin .add (.var 1) (.int 1))) (.cons (.cmp .eq (.bin .mod (.fn .int (.cons (.var 1) .nil)) (.var 8)) (.int 0)) .nil) [8])) b_law_ring_8)
def b_law_ring_13 : SL := (.cons (.ret (.fn .tuple (.cons (.sset (.var 3)) .nil))) .nil)
def b_law_ring_6 : SL := (.cons (.ifs (.cmp .eq (.var 4) (.int 1)) b_law_ring_7 .nil) b_law_ring_13)
def b_law_ring_3 : SL := (.cons (.ifs (.cmp .eq (.var 4) (.int 0)) b_law_ring_4 .nil) b_law_ring_6)
def b_law_ring_2 : SL := (.cons (.set 4 (.draw 0 (.int 4))) b_law_ring_3)
def b_law_ring_1 : SL := (.cons (.set 3 (.comp (.draw 0 (.var 1)) (.v 9) (.range1 (.bin .add (.int 1) (.draw 0 (.var 2)))) .nil [9])) b_law_ring_2)
abbrev b_law_ring : SL := b_law_ring_1
def d_law_ring : Def := ⟨"_law_ring", ["state", "modulus", "size"], ["state", "modulus", "size", "found", "pick", "step", "good", "more", "one", "k"], b_law_ring⟩
/-- _law_divisor: 0 first, 1 second -/
def b_law_divisor_4 : SL := (.cons (.par [0, 1] (.cons (.var 1) (.cons (.bin .mod (.fn .int (.cons (.var 0) .nil)) (.var 1)) .nil))) .nil)
def b_law_divisor_5 : SL := (.cons (.ret (.var 0)) .nil)
def b_law_divisor_3 : SL := (.cons (.while_ (.cmp .gt (.var 1) (.int 0)) b_law_divisor_4) b_law_divisor_5)
def b_law_divisor_2 : SL := (.cons (.set 1 (.fn .max (.cons (.var 1) (.cons (.bin .sub (.int 0) (.var 1)) .nil)))) b_law_divisor_3)
def b_law_divisor_1 : SL := (.cons (.set 0 (.fn .max (.cons (.var 0) (.cons (.bin .sub (.int 0) (.var 0)) .nil)))) b_law_divisor_2)
abbrev b_law_divisor : SL := b_law_divisor_1
def d_law_divisor : Def := ⟨"_law_divisor", ["first", "second"], ["first", "second"], b_law_divisor⟩
/-- check_ring: 0 modulus, 1 members, 2 one, 3 other -/
def b_check_ring_2 : SL := (.cons (.raise 0) .nil)
def b_check_ring_4 : SL := (.cons (.raise 0) .nil)
def b_check_ring_6 : SL := (.cons (.raise 0) .nil)
def b_check_ring_5 : SL := (.cons (.ifs (.not (.fn .all (.cons (.comp (.cmp .lt (.var 2) (.var 3)) (.t [2, 3]) (.zip (.var 1) (.slice (.var 1) (.ye (.int 1)) .no)) .nil [2, 3]) .nil))) b_check_ring_6 .nil) .nil)
def b_check_ring_3 : SL := (.cons (.ifs (.or (.cmp .eq (.fn .len (.cons (.var 1) .nil)) (.int 0)) (.not (.fn .all (.cons (.comp (.chain .le .lt (.int 0) (.var 2) (.var 0)) (.v 2) (.of (.var 1)) .nil [2]) .nil)))) b_check_ring_4 .nil) b_check_ring_5)
def b_check_ring_1 : SL := (.cons (.ifs (.not (.chain .le .le (.int 1) (.var 0) (.int 60))) b_check_ring_2 .nil) b_check_ring_3)
abbrev b_check_ring : SL := b_check_ring_1
def d_check_ring : Def := ⟨"check_ring", ["modulus", "members"], ["modulus", "members", "one", "other"], b_check_ring⟩
/-- is_ring_unlike: 0 modulus, 1 members, 2 found, 3 one, 4 other -/
def b_is_ring_unlike_3 : SL := (.cons (.ret (.cmp .eq (.lset (.var 2)) (.fn .len (.cons (.var 2) .nil)))) .nil)
def b_is_ring_unlike_2 : SL := (.cons (.set 2 (.comp2 (.bin .mod (.bin .sub (.var 3) (.var 4)) (.var 0)) (.v 3) (.of (.var 1)) .nil (.v 4) (.of (.var 1)) (.cons (.cmp .ne (.var 3) (.var 4)) .nil) [3, 4] [4])) b_is_ring_unlike_3)
def b_is_ring_unlike_1 : SL := (.cons (.expr (.call 9 (.cons (.var 0) (.cons (.var 1) .nil)))) b_is_ring_unlike_2)
abbrev b_is_ring_unlike : SL := b_is_ring_unlike_1
def d_is_ring_unlike : Def := ⟨"is_ring_unlike", ["modulus", "members"], ["modulus", "members", "found", "one", "other"], b_is_ring_unlike⟩
/-- is_ring_perfect: 0 modulus, 1 members, 2 found, 3 one, 4 other -/
def b_is_ring_perfect_3 : SL := (.cons (.ret (.cmp .eq (.var 2) (.rngL false (.int 1) (.var 0)))) .nil)
def b_is_ring_perfect_2 : SL := (.cons (.set 2 (.fn .sorted (.cons (.comp2 (.bin .mod (.bin .sub (.var 3) (.var 4)) (.var 0)) (.v 3) (.of (.var 1)) .nil (.v 4) (.of (.var 1)) (.cons (.cmp .ne (.var 3) (.var 4)) .nil) [3, 4] [4]) .nil))) b_is_ring_perfect_3)
def b_is_ring_perfect_1 : SL := (.cons (.expr (.call 9 (.cons (.var 0) (.cons (.var 1) .nil)))) b_is_ring_perfect_2)
abbrev b_is_ring_perfect : SL := b_is_ring_perfect_1
def d_is_ring_perfect : Def := ⟨"is_ring_perfect", ["modulus", "members"], ["modulus", "members", "found", "one", "other"], b_is_ring_perfect⟩
/-- ring_most: 0 modulus, 1 best, 2 line, 3 one, 4 row, 5 used, 6 fresh, 7 other, 8 gap -/
def b_ring_most_2 : SL := (.cons (.raise 0) .nil)
def b_ring_most_8 : SL := (.cons (.set 1 (.var 4)) .nil)
def b_ring_most_12 : SL := (.cons (.append 2 (.tup (.cons (.tup (.star (.var 4) (.cons (.var 3) .nil))) (.cons (.tup (.star (.var 5) (.star (.var 6) .nil))) .nil)))) .nil)
def b_ring_most_11 : SL := (.cons (.ifs (.and (.cmp .eq (.lset (.var 6)) (.fn .len (.cons (.var 6) .nil))) (.not (.fn .any (.cons (.comp (.mem false (.var 8) (.var 5)) (.v 8) (.of (.var 6)) .nil [8]) .nil)))) b_ring_most_12 .nil) .nil)
def b_ring_most_10 : SL := (.cons (.set 6 (.comp2 (.var 8) (.v 7) (.of (.var 4)) .nil (.v 8) (.of (.tup (.cons (.bin .mod (.bin .sub (.var 3) (.var 7)) (.var 0)) (.cons (.bin .mod (.bin .sub (.var 7) (.var 3)) (.var 0)) .nil)))) .nil [7, 8] [8])) b_ring_most_11)
def b_ring_most_9 : SL := (.cons (.for_ (.v 3) (.down (.bin .sub (.var 0) (.int 1)) (.ix (.var 4) (.neg (.int 1)))) b_ring_most_10) .nil)
def b_ring_most_7 : SL := (.cons (.ifs (.or (.cmp .gt (.fn .len (.cons (.var 4) .nil)) (.fn .len (.cons (.var 1) .nil))) (.and (.cmp .eq (.fn .len (.cons (.var 4) .nil)) (.fn .len (.cons (.var 1) .nil))) (.cmp .lt (.var 4) (.var 1)))) b_ring_most_8 .nil) b_ring_most_9)
def b_ring_most_6 : SL := (.cons (.pop (.t [4, 5]) 2) b_ring_most_7)
def b_ring_most_13 : SL := (.cons (.ret (.var 1)) .nil)
def b_ring_most_5 : SL := (.cons (.while_ (.cmp .gt (.fn .len (.cons (.own 2) .nil)) (.int 0)) b_ring_most_6) b_ring_most_13)
def b_ring_most_4 : SL := (.cons (.setO 2 (.lst (.cons (.tup (.cons (.tup (.cons (.int 0) .nil)) (.cons (.tup .nil) .nil))) .nil))) b_ring_most_5)
def b_ring_most_3 : SL := (.cons (.set 1 (.tup (.cons (.int 0) .nil))) b_ring_most_4)
def b_ring_most_1 : SL := (.cons (.ifs (.not (.chain .le .le (.int 1) (.var 0) (.int 31))) b_ring_most_2 .nil) b_ring_most_3)
abbrev b_ring_most : SL := b_ring_most_1
def d_ring_most : Def := ⟨"ring_most", ["modulus"], ["modulus", "best", "line", "one", "row", "used", "fresh", "other", "gap"], b_ring_most⟩
/-- law: 0 script, 1 state, 2 turn, 3 modulus, 4 every, 5 many, 6 best, 7 size, 8 told, 9 step, 10 factor, 11 times, 12 moved, 13 bent, 14 bad, 15 odd, 16 whole, 17 row, 18 ring, 19 members, 20 good, 21 full, 22 one -/
def b_law_8 : SL := (.cons (.ret (.bl false)) .nil)
def b_law_12 : SL := (.cons (.ret (.bl false)) .nil)
def b_law_15 : SL := (.cons (.ret (.bl false)) .nil)
def b_law_26 : SL := (.cons (.ret (.bl false)) .nil)
def b_law_25 : SL := (.cons (.ifs (.not (.call 5 (.cons (.var 8) (.cons (.lst (.cons (.tup (.cons (.str "told") (.cons (.var 20) .nil))) (.cons (.tup (.cons (.str "told") (.cons (.var 21) .nil))) .nil))) .nil)))) b_law_26 .nil) .nil)
def b_law_24 : SL := (.cons (.set 8 (.lst (.cons (.told (.call 10 (.cons (.var 18) (.cons (.var 19) .nil))) []) (.cons (.told (.call 11 (.cons (.var 18) (.cons (.var 19) .nil))) []) .nil)))) b_law_25)
def b_law_23 : SL := (.cons (.set 21 (.cmp .eq (.fn .sorted (.cons (.call 1 (.cons (.var 18) (.cons (.var 19) .nil))) .nil)) (.rngL false (.int 1) (.var 18)))) b_law_24)
def b_law_22 : SL := (.cons (.set 20 (.call 2 (.cons (.var 18) (.cons (.var 19) .nil)))) b_law_23)
def b_law_30 : SL := (.cons (.ret (.bl false)) .nil)
def b_law_29 : SL := (.cons (.ifs (.cmp .ne (.var 15) (.bin .mul (.lst (.cons (.tup (.cons (.str "refused") .nil)) .nil)) (.int 6))) b_law_30 .nil) .nil)
def b_law_28 : SL := (.cons (.set 15 (.lst (.cons (.told (.call 10 (.cons (.ix (.var 14) (.int 0)) (.cons (.ix (.var 14) (.int 1)) .nil))) []) (.cons (.told (.call 11 (.cons (.ix (.var 14) (.int 0)) (.cons (.ix (.var 14) (.int 1)) .nil))) []) (.cons (.told (.call 12 (.cons (.int 0) .nil)) []) (.cons (.told (.call 12 (.cons (.int 32) .nil)) []) (.cons (.told (.call 6 (.cons (.int 1) .nil)) []) (.cons (.told (.call 6 (.cons (.int 7) .nil)) []) .nil)))))))) b_law_29)
def b_law_27 : SL := (.cons (.set 14 (.call 4 (.st 1 (.cons (.var 3) (.cons (.tup (.cons (.int 0) .nil)) .nil))))) b_law_28)
def b_law_21 : SL := (.cons (.for_ (.t [18, 19]) (.of (.lst (.cons (.tup (.cons (.var 16) (.cons (.var 12) .nil))) (.cons (.tup (.cons (.var 16) (.cons (.var 13) .nil))) (.cons (.tup (.cons (.var 3) (.cons (.call 7 (.st 1 (.cons (.var 3) (.cons (.int 4) .nil)))) .nil))) (.cons (.tup (.cons (.var 16) (.cons (.slice (.var 12) (.ye (.int 1)) .no) .nil))) .nil)))))) b_law_22) b_law_27)
def b_law_20 : SL := (.cons (.set 13 (.fn .tuple (.cons (.sset (.bin .add (.lst (.cons (.bin .mod (.fn .int (.cons (.bin .add (.bin .add (.ix (.var 12) (.int 0)) (.int 1)) (.draw 1 (.bin .sub (.var 16) (.int 1)))) .nil)) (.var 16)) .nil)) (.fn .list (.cons (.slice (.var 12) (.ye (.int 1)) .no) .nil)))) .nil))) b_law_21)
def b_law_19 : SL := (.cons (.set 12 (.fn .tuple (.cons (.fn .sorted (.cons (.comp (.bin .mod (.fn .int (.cons (.bin .add (.bin .mul (.var 22) (.var 11)) (.var 9)) .nil)) (.var 16)) (.v 22) (.of (.var 17)) .nil [22]) .nil)) .nil))) b_law_20)
def b_law_18 : SL := (.cons (.set 11 (.ix (.var 10) (.draw 1 (.fn .len (.cons (.var 10) .nil))))) b_law_19)
def b_law_17 : SL := (.cons (.set 10 (.comp (.var 22) (.v 22) (.range (.int 1) (.var 16)) (.cons (.cmp .eq (.call 8 (.cons (.var 22) (.cons (.var 16) .nil))) (.int 1)) .nil) [22])) b_law_18)
def b_law_16 : SL := (.cons (.set 9 (.draw 1 (.var 16))) b_law_17)
def b_law_14 : SL := (.cons (.ifs (.or (.cmp .ne (.fn .sorted (.cons (.call 1 (.cons (.var 16) (.cons (.var 17) .nil))) .nil)) (.rngL false (.int 1) (.var 16))) (.and (.cmp .lt (.var 7) (.int 5)) (.cmp .ne (.var 17) (.fn .min (.cons (.comp (.var 22) (.v 22) (.of (.call 3 (.cons (.var 16) .nil))) (.cons (.cmp .eq (.fn .len (.cons (.var 22) .nil)) (.var 7)) .nil) [22]) .nil))))) b_law_15 .nil) b_law_16)
def b_law_13 : SL := (.cons (.unpack [16, 17] (.ix (.var 8) (.int 1))) b_law_14)
def b_law_11 : SL := (.cons (.ifs (.or (.cmp .ne (.ix (.var 8) (.int 0)) (.str "told")) (.or (.cmp .ne (.ix (.ix (.var 8) (.int 1)) (.int 0)) (.bin .add (.bin .mul (.var 7) (.bin .sub (.var 7) (.int 1))) (.int 1))) (.or (.cmp .ne (.fn .len (.cons (.ix (.ix (.var 8) (.int 1)) (.int 1)) .nil)) (.var 7)) (.cmp .ne (.ix (.ix (.ix (.var 8) (.int 1)) (.int 1)) (.int 0)) (.int 0))))) b_law_12 .nil) b_law_13)
def b_law_10 : SL := (.cons (.set 8 (.told (.call 6 (.cons (.var 7) .nil)) [])) b_law_11)
def b_law_9 : SL := (.cons (.set 7 (.bin .add (.int 2) (.draw 1 (.int 5)))) b_law_10)
def b_law_7 : SL := (.cons (.ifs (.not (.call 5 (.cons (.told (.call 12 (.cons (.var 3) .nil)) []) (.cons (.tup (.cons (.str "told") (.cons (.var 6) .nil))) .nil)))) b_law_8 .nil) b_law_9)
def b_law_6 : SL := (.cons (.set 6 (.fn .min (.cons (.comp (.var 17) (.v 17) (.of (.var 4)) (.cons (.cmp .eq (.fn .len (.cons (.var 17) .nil)) (.var 5)) .nil) [17]) .nil))) b_law_7)
def b_law_5 : SL := (.cons (.set 5 (.fn .max (.cons (.comp (.fn .len (.cons (.var 17) .nil)) (.v 17) (.of (.var 4)) .nil [17]) .nil))) b_law_6)
def b_law_4 : SL := (.cons (.set 4 (.call 3 (.cons (.var 3) .nil))) b_law_5)
def b_law_3 : SL := (.cons (.set 3 (.bin .add (.int 1) (.draw 1 (.int 13)))) b_law_4)
def b_law_31 : SL := (.cons (.ret (.bl true)) .nil)
def b_law_2 : SL := (.cons (.for_ (.v 2) (.range1 (.int 5)) b_law_3) b_law_31)
def b_law_1 : SL := (.cons (.mkst 1 (.call 0 (.cons (.var 0) .nil))) b_law_2)
abbrev b_law : SL := b_law_1
def d_law : Def := ⟨"law", ["script"], ["script", "state", "turn", "modulus", "every", "many", "best", "size", "told", "step", "factor", "times", "moved", "bent", "bad", "odd", "whole", "row", "ring", "members", "good", "full", "one"], b_law⟩
def tb : Tab := ⟨[d_law_stream, d_law_apart, d_law_fits, d_law_all, d_law_wrong_ring, d_law_same, d_perfect_of, d_law_ring, d_law_divisor, d_check_ring, d_is_ring_unlike, d_is_ring_perfect, d_ring_most], [("MAX_MODULUS", 60), ("MAX_RING", 31)], []⟩
theorem phi_law_stream {n : Nat} {s0 : SV} {g : Nat} {X : XR} {Q : Rs} (h : wpSL (Phi tb n) b_law_stream [s0, .un, .un, .un, .un, .un] g X ⟨fun _ g => Q .none g, Q, fun _ _ => False, fun _ _ => False⟩) : Phi tb (n + 1) 0 [s0] g X Q := ⟨rfl, h⟩
theorem phi_law_apart {n : Nat} {s0 s1 : SV} {g : Nat} {X : XR} {Q : Rs} (h : wpSL (Phi tb n) b_law_apart [s0, s1, .un, .un, .un] g X ⟨fun _ g => Q .none g, Q, fun _ _ => False, fun _ _ => False⟩) : Phi tb (n + 1) 1 [s0, s1] g X Q := ⟨rfl, h⟩
theorem phi_law_fits {n : Nat} {s0 s1 : SV} {g : Nat} {X : XR} {Q : Rs} (h : wpSL (Phi tb n) b_law_fits [s0, s1, .un] g X ⟨fun _ g => Q .none g, Q, fun _ _ => False, fun _ _ => False⟩) : Phi tb (n + 1) 2 [s0, s1] g X Q := ⟨rfl, h⟩
theorem phi_law_all {n : Nat} {s0 : SV} {g : Nat} {X : XR} {Q : Rs} (h : wpSL (Phi tb n) b_law_all [s0, .un, .un, .un] g X ⟨fun _ g => Q .none g, Q, fun _ _ => False, fun _ _ => False⟩) : Phi tb (n + 1) 3 [s0] g X Q := ⟨rfl, h⟩
theorem phi_law_wrong_ring {n : Nat} {s0 s1 s2 : SV} {g : Nat} {X : XR} {Q : Rs} (h : wpSL (Phi tb n) b_law_wrong_ring [s0, s1, s2, .un] g X ⟨fun _ g => Q .none g, Q, fun _ _ => False, fun _ _ => False⟩) : Phi tb (n + 1) 4 [s0, s1, s2] g X Q := ⟨rfl, h⟩
theorem phi_law_same {n : Nat} {s0 s1 : SV} {g : Nat} {X : XR} {Q : Rs} (h : wpSL (Phi tb n) b_law_same [s0, s1] g X ⟨fun _ g => Q .none g, Q, fun _ _ => False, fun _ _ => False⟩) : Phi tb (n + 1) 5 [s0, s1] g X Q := ⟨rfl, h⟩
theorem phi_perfect_of {n : Nat} {s0 : SV} {g : Nat} {X : XR} {Q : Rs} (h : wpSL (Phi tb n) b_perfect_of [s0, .un, .un, .un, .un, .un, .un, .un, .un] g X ⟨fun _ g => Q .none g, Q, fun _ _ => False, fun _ _ => False⟩) : Phi tb (n + 1) 6 [s0] g X Q := ⟨rfl, h⟩
theorem phi_law_ring {n : Nat} {s0 s1 s2 : SV} {g : Nat} {X : XR} {Q : Rs} (h : wpSL (Phi tb n) b_law_ring [s0, s1, s2, .un, .un, .un, .un, .un, .un, .un] g X ⟨fun _ g => Q .none g, Q, fun _ _ => False, fun _ _ => False⟩) : Phi tb (n + 1) 7 [s0, s1, s2] g X Q := ⟨rfl, h⟩
theorem phi_law_divisor {n : Nat} {s0 s1 : SV} {g : Nat} {X : XR} {Q : Rs} (h : wpSL (Phi tb n) b_law_divisor [s0, s1] g X ⟨fun _ g => Q .none g, Q, fun _ _ => False, fun _ _ => False⟩) : Phi tb (n + 1) 8 [s0, s1] g X Q := ⟨rfl, h⟩
theorem phi_check_ring {n : Nat} {s0 s1 : SV} {g : Nat} {X : XR} {Q : Rs} (h : wpSL (Phi tb n) b_check_ring [s0, s1, .un, .un] g X ⟨fun _ g => Q .none g, Q, fun _ _ => False, fun _ _ => False⟩) : Phi tb (n + 1) 9 [s0, s1] g X Q := ⟨rfl, h⟩
theorem phi_is_ring_unlike {n : Nat} {s0 s1 : SV} {g : Nat} {X : XR} {Q : Rs} (h : wpSL (Phi tb n) b_is_ring_unlike [s0, s1, .un, .un, .un] g X ⟨fun _ g => Q .none g, Q, fun _ _ => False, fun _ _ => False⟩) : Phi tb (n + 1) 10 [s0, s1] g X Q := ⟨rfl, h⟩
theorem phi_is_ring_perfect {n : Nat} {s0 s1 : SV} {g : Nat} {X : XR} {Q : Rs} (h : wpSL (Phi tb n) b_is_ring_perfect [s0, s1, .un, .un, .un] g X ⟨fun _ g => Q .none g, Q, fun _ _ => False, fun _ _ => False⟩) : Phi tb (n + 1) 11 [s0, s1] g X Q := ⟨rfl, h⟩
theorem phi_ring_most {n : Nat} {s0 : SV} {g : Nat} {X : XR} {Q : Rs} (h : wpSL (Phi tb n) b_ring_most [s0, .un, .un, .un, .un, .un, .un, .un, .un] g X ⟨fun _ g => Q .none g, Q, fun _ _ => False, fun _ _ => False⟩) : Phi tb (n + 1) 12 [s0] g X Q := ⟨rfl, h⟩
end Dz
set_option Elab.async false
set_option linter.all false
set_option maxRecDepth 100000
/-! the defs of the law as they stand in its text -/
namespace Dz
open PySem PySem.Spec PyProof PyProof.Rows L2
def topS (i : Nat) : Stmt := PySem.Challenge.pw_setsadded_k09_whole_unlike_rings.main.body.getD i (.Pass ⟨0, 0, 0, 0⟩)
def exs : List Nat := [0, 2]
abbrev t_law_stream : Stmt := topS 18
theorem sc_law_stream : FnScope d_law_stream.N d_law_stream.ps (defScope t_law_stream) := ⟨rfl, rfl, rfl, by decide +kernel, rfl, by decide +kernel, by decide +kernel⟩
theorem is_law_stream : isSL tb d_law_stream.N false exs d_law_stream.body (defScope t_law_stream) (defBody t_law_stream) = true := by decide +kernel
abbrev t_law_apart : Stmt := topS 31
theorem sc_law_apart : FnScope d_law_apart.N d_law_apart.ps (defScope t_law_apart) := ⟨rfl, rfl, rfl, by decide +kernel, rfl, by decide +kernel, by decide +kernel⟩
theorem is_law_apart : isSL tb d_law_apart.N false exs d_law_apart.body (defScope t_law_apart) (defBody t_law_apart) = true := by decide +kernel
abbrev t_law_fits : Stmt := topS 32
theorem sc_law_fits : FnScope d_law_fits.N d_law_fits.ps (defScope t_law_fits) := ⟨rfl, rfl, rfl, by decide +kernel, rfl, by decide +kernel, by decide +kernel⟩
theorem is_law_fits : isSL tb d_law_fits.N false exs d_law_fits.body (defScope t_law_fits) (defBody t_law_fits) = true := by decide +kernel
abbrev t_law_all : Stmt := topS 33
theorem sc_law_all : FnScope d_law_all.N d_law_all.ps (defScope t_law_all) := ⟨rfl, rfl, rfl, by decide +kernel, rfl, by decide +kernel, by decide +kernel⟩
theorem is_law_all : isSL tb d_law_all.N false exs d_law_all.body (defScope t_law_all) (defBody t_law_all) = true := by decide +kernel
abbrev t_law_wrong_ring : Stmt := topS 30
theorem sc_law_wrong_ring : FnScope d_law_wrong_ring.N d_law_wrong_ring.ps (defScope t_law_wrong_ring) := ⟨rfl, rfl, rfl, by decide +kernel, rfl, by decide +kernel, by decide +kernel⟩
theorem is_law_wrong_ring : isSL tb d_law_wrong_ring.N false exs d_law_wrong_ring.body (defScope t_law_wrong_ring) (defBody t_law_wrong_ring) = true := by decide +kernel
abbrev t_law_same : Stmt := topS 17
theorem sc_law_same : FnScope d_law_same.N d_law_same.ps (defScope t_law_same) := ⟨rfl, rfl, rfl, by decide +kernel, rfl, by decide +kernel, by decide +kernel⟩
theorem is_law_same : isSL tb d_law_same.N false exs d_law_same.body (defScope t_law_same) (defBody t_law_same) = true := by decide +kernel
abbrev t_perfect_of : Stmt := topS 15
theorem sc_perfect_of : FnScope d_perfect_of.N d_perfect_of.ps (defScope t_perfect_of) := ⟨rfl, rfl, rfl, by decide +kernel, rfl, by decide +kernel, by decide +kernel⟩
theorem is_perfect_of : isSL tb d_perfect_of.N false exs d_perfect_of.body (defScope t_perfect_of) (defBody t_perfect_of) = true := by decide +kernel
abbrev t_law_ring : Stmt := topS 28
theorem sc_law_ring : FnScope d_law_ring.N d_law_ring.ps (defScope t_law_ring) := ⟨rfl, rfl, rfl, by decide +kernel, rfl, by decide +kernel, by decide +kernel⟩
theorem is_law_ring : isSL tb d_law_ring.N false exs d_law_ring.body (defScope t_law_ring) (defBody t_law_ring) = true := by decide +kernel
abbrev t_law_divisor : Stmt := topS 21
theorem sc_law_divisor : FnScope d_law_divisor.N d_law_divisor.ps (defScope t_law_divisor) := ⟨rfl, rfl, rfl, by decide +kernel, rfl, by decide +kernel, by decide +kernel⟩
theorem is_law_divisor : isSL tb d_law_divisor.N false exs d_law_divisor.body (defScope t_law_divisor) (defBody t_law_divisor) = true := by decide +kernel
abbrev t_check_ring : Stmt := topS 9
theorem sc_check_ring : FnScope d_check_ring.N d_check_ring.ps (defScope t_check_ring) := ⟨rfl, rfl, rfl, by decide +kernel, rfl, by decide +kernel, by decide +kernel⟩
theorem is_check_ring : isSL tb d_check_ring.N false exs d_check_ring.body (defScope t_check_ring) (defBody t_check_ring) = true := by decide +kernel
abbrev t_is_ring_unlike : Stmt := topS 12
theorem sc_is_ring_unlike : FnScope d_is_ring_unlike.N d_is_ring_unlike.ps (defScope t_is_ring_unlike) := ⟨rfl, rfl, rfl, by decide +kernel, rfl, by decide +kernel, by decide +kernel⟩
theorem is_is_ring_unlike : isSL tb d_is_ring_unlike.N false exs d_is_ring_unlike.body (defScope t_is_ring_unlike) (defBody t_is_ring_unlike) = true := by decide +kernel
abbrev t_is_ring_perfect : Stmt := topS 13
theorem sc_is_ring_perfect : FnScope d_is_ring_perfect.N d_is_ring_perfect.ps (defScope t_is_ring_perfect) := ⟨rfl, rfl, rfl, by decide +kernel, rfl, by decide +kernel, by decide +kernel⟩
theorem is_is_ring_perfect : isSL tb d_is_ring_perfect.N false exs d_is_ring_perfect.body (defScope t_is_ring_perfect) (defBody t_is_ring_perfect) = true := by decide +kernel
abbrev t_ring_most : Stmt := topS 14
theorem sc_ring_most : FnScope d_ring_most.N d_ring_most.ps (defScope t_ring_most) := ⟨rfl, rfl, rfl, by decide +kernel, rfl, by decide +kernel, by decide +kernel⟩
theorem is_ring_most : isSL tb d_ring_most.N false exs d_ring_most.body (defScope t_ring_most) (defBody t_ring_most) = true := by decide +kernel
abbrev t_law : Stmt := topS 34
theorem sc_law : FnScope d_law.N d_law.ps (defScope t_law) := ⟨rfl, rfl, rfl, by decide +kernel, rfl, by decide +kernel, by decide +kernel⟩
theorem is_law : isSL tb d_law.N true exs d_law.body (defScope t_law) (defBody t_law) = true := by decide +kernel
abbrev t_next : Stmt := topS 19
abbrev t_told : Stmt := topS 20
theorem sc_told : defScope t_told = toldSc := rfl
theorem body_told : ToldBody (defBody t_told) := by
  refine' ⟨⟨_, _, _, _, _, _, _, _, _, _, _, (_, _, _, _), (_, _, _, _), (_, _, _, _), (_, _, _, _), (_, _, _, _), _, _, _, _, _, _, _, _, _, _, _, _, _, _, _, _, _, _, _, _, _, _, _, _, _, _, _, _, _, _, _, _, _, _, _, _, _, ?h, ?e⟩⟩
  case e => exact rfl
  case h => rfl
  all_goals exact ⟨0, 0, 0, 0⟩
end Dz
set_option Elab.async false
set_option linter.all false
set_option maxRecDepth 100000
/-! k09: differences in a ring, the law's own sets. -/
namespace Dz
open PySem
variable {n g : Nat} {X : XR} {Q : Rs}
def rowA (m : Int) (row : List Int) (one : Int) : List Int := (row.filter fun other => !decide (other = one)).map fun other => (one - other).fmod m
def apartF (m : Int) (row : List Int) : List Int := row.flatMap (rowA m row)
def fitsF (m : Int) (row : List Int) : Bool := decide (((asc (apartF m row)).length : Int) = ((apartF m row).length : Int))
def pastF (m : Int) (row : List Int) : Bool := decide (ord (apartF m row) = rng 1 m)
theorem rowA_len (m : Int) (row : List Int) (one : Int) : (rowA m row one).length ≤ row.length := by
  unfold rowA
  rw [List.length_map]
  exact List.length_filter_le _ _
theorem flat_len (m : Int) (row : List Int) : ∀ l : List Int, (l.flatMap (rowA m row)).length ≤ l.length * row.length
  | [] => by simp
  | x :: xs => by
    rw [List.flatMap_cons, List.length_append, List.length_cons, Nat.add_mul, Nat.one_mul]
    have := flat_len m row xs
    have := rowA_len m row x
    omega
theorem apart_len (m : Int) (row : List Int) : (apartF m row).length ≤ row.length * row.length := flat_len m row row
theorem s_law_apart {m : Int} {row : List Int} (hm : m ≠ 0) (hl : row.length ≤ 60) (h : Q (.list ((apartF m row).map PyData.int)) g) : Phi tb (n + 1) 1 [.fz (.int m), .fz (tI row)] g X Q := by
  refine phi_law_apart ?_
  simp only [b_law_apart, b_law_apart_1, b_law_apart_2, Bool.not_true, Bool.not_false, Bool.false_xor, Bool.true_xor, Bool.xor_false, Bool.xor_true, wpSL, wpS, wpE, wpL, wpA, wpJ, wpC, wpO, wpI, setD, setAll, setAllX, bindT, wipeE, List.set_cons_zero, List.set_cons_succ, List.getElem?_cons_zero, List.getElem?_cons_succ, e_fz, e_ow, e_st, e_int, e_int2, e_list, e_seqs1, e_seqs2, e_seq1, e_seq2, e_bool, e_kept0, e_kept1, e_add, e_cat, e_sub, e_mul, e_fdiv, e_mod, e_pow, e_catL, e_catT, e_repL, e_repT, e_eqI, e_eqS, e_neI, e_neS, e_lt, e_le, e_gt, e_ge, e_ltT, e_ixL, e_ixT, e_slL, e_slT, e_lenL, e_lenT, e_abs, e_intI, e_intB, e_str, e_max, e_min, e_repr, e_any, e_all, e_sum, e_listL, e_listT, e_tupL, e_tupT, e_n0, e_n1, e_n2, e_n3, e_n4, e_n5, e_memT, e_sset, e_lset, e_fI, e_fS, e_memL, e_ord, e_eqLL, e_eqL0, e_eqLT0, e_eqTT, e_neLL, e_neTT, e_neB, some_ex, if_tt, if_ff]
  refine ⟨Nat.zero_le _, ?_⟩
  refine for_inv (fun i ρ g' => g' = g ∧ ∃ s3 s4, ρ = [.fz (.int m), .fz (tI row), .fz (.list (((row.take i).flatMap (rowA m row)).map PyData.int)), s3, s4]) ⟨rfl, _, _, rfl⟩ ?_ ?_
  · rintro i d ρ g' nx hd ⟨rfl, s3, s4, rfl⟩ nxt
    obtain ⟨one, _, ho, rfl, ht, hi⟩ := map_at hd
    refine ⟨_, rfl, ?_⟩
    simp only [b_law_apart_3, Bool.not_true, Bool.not_false, Bool.false_xor, Bool.true_xor, Bool.xor_false, Bool.xor_true, wpSL, wpS, wpE, wpL, wpA, wpJ, wpC, wpO, wpI, setD, setAll, setAllX, bindT, wipeE, List.set_cons_zero, List.set_cons_succ, List.getElem?_cons_zero, List.getElem?_cons_succ, e_fz, e_ow, e_st, e_int, e_int2, e_list, e_seqs1, e_seqs2, e_seq1, e_seq2, e_bool, e_kept0, e_kept1, e_add, e_cat, e_sub, e_mul, e_fdiv, e_mod, e_pow, e_catL, e_catT, e_repL, e_repT, e_eqI, e_eqS, e_neI, e_neS, e_lt, e_le, e_gt, e_ge, e_ltT, e_ixL, e_ixT, e_slL, e_slT, e_lenL, e_lenT, e_abs, e_intI, e_intB, e_str, e_max, e_min, e_repr, e_any, e_all, e_sum, e_listL, e_listT, e_tupL, e_tupT, e_n0, e_n1, e_n2, e_n3, e_n4, e_n5, e_memT, e_sset, e_lset, e_fI, e_fS, e_memL, e_ord, e_eqLL, e_eqL0, e_eqLT0, e_eqTT, e_neLL, e_neTT, e_neB, some_ex, if_tt, if_ff]
    refine comp_fil PyData.int (fun other => !decide (other = one)) (fun other => PyData.int ((one - other).fmod m)) (small' (by omega)) (fun x hx K a b => ?_) ?_
    · simp only [Bool.not_true, Bool.not_false, Bool.false_xor, Bool.true_xor, Bool.xor_false, Bool.xor_true, wpSL, wpS, wpE, wpL, wpA, wpJ, wpC, wpO, wpI, setD, setAll, setAllX, bindT, wipeE, List.set_cons_zero, List.set_cons_succ, List.getElem?_cons_zero, List.getElem?_cons_succ, e_fz, e_ow, e_st, e_int, e_int2, e_list, e_seqs1, e_seqs2, e_seq1, e_seq2, e_bool, e_kept0, e_kept1, e_add, e_cat, e_sub, e_mul, e_fdiv, e_mod, e_pow, e_catL, e_catT, e_repL, e_repT, e_eqI, e_eqS, e_neI, e_neS, e_lt, e_le, e_gt, e_ge, e_ltT, e_ixL, e_ixT, e_slL, e_slT, e_lenL, e_lenT, e_abs, e_intI, e_intB, e_str, e_max, e_min, e_repr, e_any, e_all, e_sum, e_listL, e_listT, e_tupL, e_tupT, e_n0, e_n1, e_n2, e_n3, e_n4, e_n5, e_memT, e_sset, e_lset, e_fI, e_fS, e_memL, e_ord, e_eqLL, e_eqL0, e_eqLT0, e_eqTT, e_neLL, e_neTT, e_neB, some_ex, if_tt, if_ff]
      split
      · next q => exact ⟨hm, a q⟩
      · next q => exact b (eq_false_of_ne_true q)
    have e : (row.filter fun other => !decide (other = one)).map (fun other => PyData.int ((one - other).fmod m)) = (rowA m row one).map PyData.int := by
      unfold rowA
      rw [List.map_map]; rfl
    rw [e]
    have b1 := flat_len m row (row.take i)
    have b2 := rowA_len m row one
    have b3 : (row.take i).length * row.length ≤ 60 * 60 := Nat.mul_le_mul (by rw [List.length_take]; omega) hl
    refine ⟨by rw [sizeLine_eq, List.length_map, List.length_map]; omega, ?_⟩
    rw [← List.map_append]
    refine nxt _ _ ⟨rfl, .fz (.int one), s4, ?_⟩
    rw [ht, List.flatMap_append, List.flatMap_cons, List.flatMap_nil, List.append_nil]
  · rintro ρ g' ⟨rfl, s3, s4, rfl⟩
    rw [List.length_map, List.take_length]
    simp only [b_law_apart_4, Bool.not_true, Bool.not_false, Bool.false_xor, Bool.true_xor, Bool.xor_false, Bool.xor_true, wpSL, wpS, wpE, wpL, wpA, wpJ, wpC, wpO, wpI, setD, setAll, setAllX, bindT, wipeE, List.set_cons_zero, List.set_cons_succ, List.getElem?_cons_zero, List.getElem?_cons_succ, e_fz, e_ow, e_st, e_int, e_int2, e_list, e_seqs1, e_seqs2, e_seq1, e_seq2, e_bool, e_kept0, e_kept1, e_add, e_cat, e_sub, e_mul, e_fdiv, e_mod, e_pow, e_catL, e_catT, e_repL, e_repT, e_eqI, e_eqS, e_neI, e_neS, e_lt, e_le, e_gt, e_ge, e_ltT, e_ixL, e_ixT, e_slL, e_slT, e_lenL, e_lenT, e_abs, e_intI, e_intB, e_str, e_max, e_min, e_repr, e_any, e_all, e_sum, e_listL, e_listT, e_tupL, e_tupT, e_n0, e_n1, e_n2, e_n3, e_n4, e_n5, e_memT, e_sset, e_lset, e_fI, e_fS, e_memL, e_ord, e_eqLL, e_eqL0, e_eqLT0, e_eqTT, e_neLL, e_neTT, e_neB, some_ex, if_tt, if_ff]
    exact h
theorem s_law_fits {m : Int} {row : List Int} (hm : m ≠ 0) (hl : row.length ≤ 60) (h : Q (.bool (fitsF m row)) g) : Phi tb (n + 2) 2 [.fz (.int m), .fz (tI row)] g X Q := by
  refine phi_law_fits ?_
  simp only [b_law_fits, b_law_fits_1, b_law_fits_2, Bool.not_true, Bool.not_false, Bool.false_xor, Bool.true_xor, Bool.xor_false, Bool.xor_true, wpSL, wpS, wpE, wpL, wpA, wpJ, wpC, wpO, wpI, setD, setAll, setAllX, bindT, wipeE, List.set_cons_zero, List.set_cons_succ, List.getElem?_cons_zero, List.getElem?_cons_succ, e_fz, e_ow, e_st, e_int, e_int2, e_list, e_seqs1, e_seqs2, e_seq1, e_seq2, e_bool, e_kept0, e_kept1, e_add, e_cat, e_sub, e_mul, e_fdiv, e_mod, e_pow, e_catL, e_catT, e_repL, e_repT, e_eqI, e_eqS, e_neI, e_neS, e_lt, e_le, e_gt, e_ge, e_ltT, e_ixL, e_ixT, e_slL, e_slT, e_lenL, e_lenT, e_abs, e_intI, e_intB, e_str, e_max, e_min, e_repr, e_any, e_all, e_sum, e_listL, e_listT, e_tupL, e_tupT, e_n0, e_n1, e_n2, e_n3, e_n4, e_n5, e_memT, e_sset, e_lset, e_fI, e_fS, e_memL, e_ord, e_eqLL, e_eqL0, e_eqLT0, e_eqTT, e_neLL, e_neTT, e_neB, some_ex, if_tt, if_ff]
  refine s_law_apart hm hl ?_
  simp only [Bool.not_true, Bool.not_false, Bool.false_xor, Bool.true_xor, Bool.xor_false, Bool.xor_true, wpSL, wpS, wpE, wpL, wpA, wpJ, wpC, wpO, wpI, setD, setAll, setAllX, bindT, wipeE, List.set_cons_zero, List.set_cons_succ, List.getElem?_cons_zero, List.getElem?_cons_succ, e_fz, e_ow, e_st, e_int, e_int2, e_list, e_seqs1, e_seqs2, e_seq1, e_seq2, e_bool, e_kept0, e_kept1, e_add, e_cat, e_sub, e_mul, e_fdiv, e_mod, e_pow, e_catL, e_catT, e_repL, e_repT, e_eqI, e_eqS, e_neI, e_neS, e_lt, e_le, e_gt, e_ge, e_ltT, e_ixL, e_ixT, e_slL, e_slT, e_lenL, e_lenT, e_abs, e_intI, e_intB, e_str, e_max, e_min, e_repr, e_any, e_all, e_sum, e_listL, e_listT, e_tupL, e_tupT, e_n0, e_n1, e_n2, e_n3, e_n4, e_n5, e_memT, e_sset, e_lset, e_fI, e_fS, e_memL, e_ord, e_eqLL, e_eqL0, e_eqLT0, e_eqTT, e_neLL, e_neTT, e_neB, some_ex, if_tt, if_ff, List.length_map]
  have b1 := apart_len m row
  have b3 : row.length * row.length ≤ 60 * 60 := Nat.mul_le_mul hl hl
  exact ⟨by omega, h⟩
/-- the law's rows up to i -/
def allF (m : Int) : Nat → List (List Int)
  | 0 => [[0]]
  | i + 1 => allF m i ++ ((allF m i).filter fun r => fitsF m (r ++ [1 + (i : Int)])).map fun r => r ++ [1 + (i : Int)]
theorem allF_len (m : Int) : ∀ i, (allF m i).length ≤ 2 ^ i
  | 0 => Nat.le_refl _
  | i + 1 => by
    unfold allF
    rw [List.length_append, List.length_map, Nat.pow_succ]
    have := allF_len m i
    have := List.length_filter_le (fun r => fitsF m (r ++ [1 + (i : Int)])) (allF m i)
    omega
theorem allF_row (m : Int) : ∀ {i : Nat} {r : List Int}, r ∈ allF m i → r.length ≤ i + 1
  | 0, r, h => by rw [List.mem_singleton.mp h]; exact Nat.le_refl _
  | i + 1, r, h => by
    unfold allF at h
    rcases List.mem_append.mp h with h | h
    · have := allF_row m h
      omega
    · obtain ⟨q, hq, e⟩ := List.mem_map.mp h
      have := allF_row m (List.mem_filter.mp hq).1
      rw [← e, List.length_append, List.length_singleton]
      omega
theorem s_law_all {m : Nat} (h1 : 1 ≤ m) (h2 : m ≤ 13) (h : Q (.list ((allF m (m - 1)).map tI)) g) : Phi tb (n + 3) 3 [.fz (.int m)] g X Q := by
  refine phi_law_all ?_
  simp only [b_law_all, b_law_all_1, b_law_all_2, Bool.not_true, Bool.not_false, Bool.false_xor, Bool.true_xor, Bool.xor_false, Bool.xor_true, wpSL, wpS, wpE, wpL, wpA, wpJ, wpC, wpO, wpI, setD, setAll, setAllX, bindT, wipeE, List.set_cons_zero, List.set_cons_succ, List.getElem?_cons_zero, List.getElem?_cons_succ, e_fz, e_ow, e_st, e_int, e_int2, e_list, e_seqs1, e_seqs2, e_seq1, e_seq2, e_bool, e_kept0, e_kept1, e_add, e_cat, e_sub, e_mul, e_fdiv, e_mod, e_pow, e_catL, e_catT, e_repL, e_repT, e_eqI, e_eqS, e_neI, e_neS, e_lt, e_le, e_gt, e_ge, e_ltT, e_ixL, e_ixT, e_slL, e_slT, e_lenL, e_lenT, e_abs, e_intI, e_intB, e_str, e_max, e_min, e_repr, e_any, e_all, e_sum, e_listL, e_listT, e_tupL, e_tupT, e_n0, e_n1, e_n2, e_n3, e_n4, e_n5, e_memT, e_sset, e_lset, e_fI, e_fS, e_memL, e_ord, e_eqLL, e_eqL0, e_eqLT0, e_eqTT, e_neLL, e_neTT, e_neB, some_ex, if_tt, if_ff]
  refine ⟨small' (by simp), small' (by simp), ⟨by decide, by decide, by omega, by omega⟩, ?_⟩
  refine for_inv (fun i ρ g' => g' = g ∧ ∃ s2 s3, ρ = [.fz (.int m), .fz (.list ((allF m i).map tI)), s2, s3]) ⟨rfl, _, _, rfl⟩ ?_ ?_
  · rintro i d ρ g' nx hd ⟨rfl, s2, s3, rfl⟩ nxt
    obtain ⟨rfl, hi⟩ := rng_at hd
    refine ⟨_, rfl, ?_⟩
    have l1 := allF_len m i
    have l2 : 2 ^ i ≤ 2 ^ 13 := Nat.pow_le_pow_right (by decide) (by omega)
    simp only [b_law_all_3, Bool.not_true, Bool.not_false, Bool.false_xor, Bool.true_xor, Bool.xor_false, Bool.xor_true, wpSL, wpS, wpE, wpL, wpA, wpJ, wpC, wpO, wpI, setD, setAll, setAllX, bindT, wipeE, List.set_cons_zero, List.set_cons_succ, List.getElem?_cons_zero, List.getElem?_cons_succ, e_fz, e_ow, e_st, e_int, e_int2, e_list, e_seqs1, e_seqs2, e_seq1, e_seq2, e_bool, e_kept0, e_kept1, e_add, e_cat, e_sub, e_mul, e_fdiv, e_mod, e_pow, e_catL, e_catT, e_repL, e_repT, e_eqI, e_eqS, e_neI, e_neS, e_lt, e_le, e_gt, e_ge, e_ltT, e_ixL, e_ixT, e_slL, e_slT, e_lenL, e_lenT, e_abs, e_intI, e_intB, e_str, e_max, e_min, e_repr, e_any, e_all, e_sum, e_listL, e_listT, e_tupL, e_tupT, e_n0, e_n1, e_n2, e_n3, e_n4, e_n5, e_memT, e_sset, e_lset, e_fI, e_fS, e_memL, e_ord, e_eqLL, e_eqL0, e_eqLT0, e_eqTT, e_neLL, e_neTT, e_neB, some_ex, if_tt, if_ff]
    refine comp_fil tI (fun r => fitsF m (r ++ [1 + (i : Int)])) (fun r => tI (r ++ [1 + (i : Int)])) (small' (by omega)) (fun r hr K a b => ?_) ?_
    · have lr := allF_row m hr
      simp only [Bool.not_true, Bool.not_false, Bool.false_xor, Bool.true_xor, Bool.xor_false, Bool.xor_true, wpSL, wpS, wpE, wpL, wpA, wpJ, wpC, wpO, wpI, setD, setAll, setAllX, bindT, wipeE, List.set_cons_zero, List.set_cons_succ, List.getElem?_cons_zero, List.getElem?_cons_succ, e_fz, e_ow, e_st, e_int, e_int2, e_list, e_seqs1, e_seqs2, e_seq1, e_seq2, e_bool, e_kept0, e_kept1, e_add, e_cat, e_sub, e_mul, e_fdiv, e_mod, e_pow, e_catL, e_catT, e_repL, e_repT, e_eqI, e_eqS, e_neI, e_neS, e_lt, e_le, e_gt, e_ge, e_ltT, e_ixL, e_ixT, e_slL, e_slT, e_lenL, e_lenT, e_abs, e_intI, e_intB, e_str, e_max, e_min, e_repr, e_any, e_all, e_sum, e_listL, e_listT, e_tupL, e_tupT, e_n0, e_n1, e_n2, e_n3, e_n4, e_n5, e_memT, e_sset, e_lset, e_fI, e_fS, e_memL, e_ord, e_eqLL, e_eqL0, e_eqLT0, e_eqTT, e_neLL, e_neTT, e_neB, some_ex, if_tt, if_ff, tI_snoc]
      refine ⟨small' (by simp), small' (by simp; omega), ?_⟩
      refine s_law_fits (by omega) (by simp; omega) ?_
      rw [e_bool]
      split
      · next q => exact ⟨small' (by simp), small' (by simp; omega), a q⟩
      · next q => exact b (eq_false_of_ne_true q)
    have e : ((allF m i).filter fun r => fitsF m (r ++ [1 + (i : Int)])).map (fun r => tI (r ++ [1 + (i : Int)])) = (((allF m i).filter fun r => fitsF m (r ++ [1 + (i : Int)])).map fun r => r ++ [1 + (i : Int)]).map tI := by
      rw [List.map_map]; rfl
    rw [e, ← List.map_append]
    have l3 := List.length_filter_le (fun r => fitsF m (r ++ [1 + (i : Int)])) (allF m i)
    refine ⟨by rw [sizeLine_eq, List.length_map, List.length_map, List.length_map]; omega, ?_⟩
    exact nxt _ _ ⟨rfl, _, _, rfl⟩
  · rintro ρ g' ⟨rfl, s2, s3, rfl⟩
    rw [rng_len, show ((m : Int) - 1).toNat = m - 1 by omega]
    simp only [b_law_all_4, Bool.not_true, Bool.not_false, Bool.false_xor, Bool.true_xor, Bool.xor_false, Bool.xor_true, wpSL, wpS, wpE, wpL, wpA, wpJ, wpC, wpO, wpI, setD, setAll, setAllX, bindT, wipeE, List.set_cons_zero, List.set_cons_succ, List.getElem?_cons_zero, List.getElem?_cons_succ, e_fz, e_ow, e_st, e_int, e_int2, e_list, e_seqs1, e_seqs2, e_seq1, e_seq2, e_bool, e_kept0, e_kept1, e_add, e_cat, e_sub, e_mul, e_fdiv, e_mod, e_pow, e_catL, e_catT, e_repL, e_repT, e_eqI, e_eqS, e_neI, e_neS, e_lt, e_le, e_gt, e_ge, e_ltT, e_ixL, e_ixT, e_slL, e_slT, e_lenL, e_lenT, e_abs, e_intI, e_intB, e_str, e_max, e_min, e_repr, e_any, e_all, e_sum, e_listL, e_listT, e_tupL, e_tupT, e_n0, e_n1, e_n2, e_n3, e_n4, e_n5, e_memT, e_sset, e_lset, e_fI, e_fS, e_memL, e_ord, e_eqLL, e_eqL0, e_eqLT0, e_eqTT, e_neLL, e_neTT, e_neB, some_ex, if_tt, if_ff]
    exact h
end Dz
set_option Elab.async false
set_option linter.all false
set_option maxRecDepth 100000
/-! k09: ring_most, perfect_of. -/
namespace Dz
open PySem
variable {n g : Nat} {X : XR} {Q : Rs}
structure Rm where
  best : List Int
  line : List (List Int × List Int)
def freshF (m : Int) (row : List Int) (one : Int) : List Int := row.flatMap fun other => [(one - other).fmod m, (other - one).fmod m]
def freeF (m : Int) (p : List Int × List Int) (one : Int) : Bool := decide (((asc (freshF m p.1 one)).length : Int) = ((freshF m p.1 one).length : Int)) && !((freshF m p.1 one).any fun gap => decide (gap ∈ p.2))
def pushF (m : Int) (p : List Int × List Int) : List (List Int × List Int) := ((dwn (m - 1) (p.1.getD (p.1.length - 1) 0)).filter (freeF m p)).map fun one => (p.1 ++ [one], p.2 ++ freshF m p.1 one)
def pairD (p : List Int × List Int) : D := .tuple [tI p.1, tI p.2]
def headP (l : List (List Int × List Int)) : List Int × List Int := l.headD ([], [])
def okP (m : Int) (line : List (List Int × List Int)) : Bool := decide ((headP line).1.length < 30 ∧ 0 < (headP line).1.length ∧ (headP line).2.length < 2000 ∧ line.length < 3000 ∧ 0 ≤ (headP line).1.getD ((headP line).1.length - 1) 0 ∧ (headP line).1.getD ((headP line).1.length - 1) 0 ≤ m)
def Rm.more (z : Rm) : Bool := decide (0 < z.line.length)
def Rm.step (m : Int) (z : Rm) : Rm := ⟨if z.best.length < (headP z.line).1.length ∨ (z.best.length = (headP z.line).1.length ∧ lexB (headP z.line).1 z.best = true) then (headP z.line).1 else z.best, (pushF m (headP z.line)).reverse ++ z.line.tail⟩
theorem fresh_len (m : Int) (one : Int) : ∀ row : List Int, (freshF m row one).length = 2 * row.length
  | [] => rfl
  | x :: xs => by
    have := fresh_len m one xs
    unfold freshF at this ⊢
    rw [List.flatMap_cons, List.length_append, this]
    show 2 + 2 * xs.length = 2 * (xs.length + 1)
    omega
section
variable {kt : Kt} {s1 : SV}
theorem s_ring_most {m : Nat} {b : List Int} {M : Nat} (h1 : 1 ≤ m) (h2 : m ≤ 31) (hr : (runW Rm.more (fun z => okP m z.line) (Rm.step m) M ⟨[0], [([0], [])]⟩).map Rm.best = some b) (h : Q (tI b) g) : Phi tb (n + 1) 12 [.fz (.int m)] g X Q := by
  obtain ⟨z, hz, hb⟩ := Option.map_eq_some_iff.mp hr
  refine phi_ring_most ?_
  simp only [b_ring_most, b_ring_most_1, Bool.not_true, Bool.not_false, Bool.false_xor, Bool.true_xor, Bool.xor_false, Bool.xor_true, wpSL, wpS, wpE, wpL, wpA, wpJ, wpC, wpO, wpI, setD, setAll, setAllX, bindT, wipeE, List.set_cons_zero, List.set_cons_succ, List.getElem?_cons_zero, List.getElem?_cons_succ, e_fz, e_ow, e_st, e_int, e_int2, e_list, e_seqs1, e_seqs2, e_seq1, e_seq2, e_bool, e_kept0, e_kept1, e_add, e_cat, e_sub, e_mul, e_fdiv, e_mod, e_pow, e_catL, e_catT, e_repL, e_repT, e_eqI, e_eqS, e_neI, e_neS, e_lt, e_le, e_gt, e_ge, e_ltT, e_ixL, e_ixT, e_slL, e_slT, e_lenL, e_lenT, e_abs, e_intI, e_intB, e_str, e_max, e_min, e_repr, e_any, e_all, e_sum, e_listL, e_listT, e_tupL, e_tupT, e_n0, e_n1, e_n2, e_n3, e_n4, e_n5, e_memT, e_sset, e_lset, e_fI, e_fS, e_memL, e_ord, e_eqLL, e_eqL0, e_eqLT0, e_eqTT, e_neLL, e_neTT, e_neB, some_ex, if_tt, if_ff]
  rw [decide_eq_true (by omega), decide_eq_true (by omega)]
  simp only [b_ring_most_3, b_ring_most_4, b_ring_most_5, Bool.not_true, Bool.not_false, Bool.false_xor, Bool.true_xor, Bool.xor_false, Bool.xor_true, wpSL, wpS, wpE, wpL, wpA, wpJ, wpC, wpO, wpI, setD, setAll, setAllX, bindT, wipeE, List.set_cons_zero, List.set_cons_succ, List.getElem?_cons_zero, List.getElem?_cons_succ, e_fz, e_ow, e_st, e_int, e_int2, e_list, e_seqs1, e_seqs2, e_seq1, e_seq2, e_bool, e_kept0, e_kept1, e_add, e_cat, e_sub, e_mul, e_fdiv, e_mod, e_pow, e_catL, e_catT, e_repL, e_repT, e_eqI, e_eqS, e_neI, e_neS, e_lt, e_le, e_gt, e_ge, e_ltT, e_ixL, e_ixT, e_slL, e_slT, e_lenL, e_lenT, e_abs, e_intI, e_intB, e_str, e_max, e_min, e_repr, e_any, e_all, e_sum, e_listL, e_listT, e_tupL, e_tupT, e_n0, e_n1, e_n2, e_n3, e_n4, e_n5, e_memT, e_sset, e_lset, e_fI, e_fS, e_memL, e_ord, e_eqLL, e_eqL0, e_eqLT0, e_eqTT, e_neLL, e_neTT, e_neB, some_ex, if_tt, if_ff, if_true]
  refine ⟨small' (by simp), small' (by simp), small' (by simp), small' (by simp), small' (by simp), ?_⟩
  refine while_run (fun (z : Rm) ρ => ∃ s3 s4 s5 s6 s7 s8, ρ = [.fz (.int m), .fz (tI z.best), .ow (.list (z.line.reverse.map pairD)), s3, s4, s5, s6, s7, s8]) Rm.more (fun z => okP m z.line) (Rm.step m) ?_ ?_ ?_ M ⟨[0], [([0], [])]⟩ _ ⟨_, _, _, _, _, _, rfl⟩ hz
  · rintro z ρ kc ⟨s3, s4, s5, s6, s7, s8, rfl⟩ hk
    simp only [Bool.not_true, Bool.not_false, Bool.false_xor, Bool.true_xor, Bool.xor_false, Bool.xor_true, wpSL, wpS, wpE, wpL, wpA, wpJ, wpC, wpO, wpI, setD, setAll, setAllX, bindT, wipeE, List.set_cons_zero, List.set_cons_succ, List.getElem?_cons_zero, List.getElem?_cons_succ, e_fz, e_ow, e_st, e_int, e_int2, e_list, e_seqs1, e_seqs2, e_seq1, e_seq2, e_bool, e_kept0, e_kept1, e_add, e_cat, e_sub, e_mul, e_fdiv, e_mod, e_pow, e_catL, e_catT, e_repL, e_repT, e_eqI, e_eqS, e_neI, e_neS, e_lt, e_le, e_gt, e_ge, e_ltT, e_ixL, e_ixT, e_slL, e_slT, e_lenL, e_lenT, e_abs, e_intI, e_intB, e_str, e_max, e_min, e_repr, e_any, e_all, e_sum, e_listL, e_listT, e_tupL, e_tupT, e_n0, e_n1, e_n2, e_n3, e_n4, e_n5, e_memT, e_sset, e_lset, e_fI, e_fS, e_memL, e_ord, e_eqLL, e_eqL0, e_eqLT0, e_eqTT, e_neLL, e_neTT, e_neB, some_ex, if_tt, if_ff, List.length_map, List.length_reverse]
    unfold Rm.more at hk
    by_cases q : 0 < z.line.length
    · rw [decide_eq_true q] at hk
      rw [decide_eq_true (by omega)]
      exact hk
    · rw [decide_eq_false q] at hk
      rw [decide_eq_false (by omega)]
      exact hk
  · rintro ⟨best, line⟩ ρ nx ⟨s3, s4, s5, s6, s7, s8, rfl⟩ hm ho nxt
    cases line with
    | nil => cases hm
    | cons p rest =>
      obtain ⟨row, used⟩ := p
      have ho' := of_decide_eq_true ho
      obtain ⟨o1, o2, o3, o4, o5, o6⟩ : row.length < 30 ∧ 0 < row.length ∧ used.length < 2000 ∧ ((row, used) :: rest).length < 3000 ∧ 0 ≤ row.getD (row.length - 1) 0 ∧ row.getD (row.length - 1) 0 ≤ m := ho'
      rw [List.length_cons] at o4
      have el : ((row, used) :: rest).reverse.map pairD = rest.reverse.map pairD ++ [pairD (row, used)] := by rw [List.reverse_cons, List.map_append]; rfl
      simp only [b_ring_most_6, Bool.not_true, Bool.not_false, Bool.false_xor, Bool.true_xor, Bool.xor_false, Bool.xor_true, wpSL, wpS, wpE, wpL, wpA, wpJ, wpC, wpO, wpI, setD, setAll, setAllX, bindT, wipeE, List.set_cons_zero, List.set_cons_succ, List.getElem?_cons_zero, List.getElem?_cons_succ, e_fz, e_ow, e_st, e_int, e_int2, e_list, e_seqs1, e_seqs2, e_seq1, e_seq2, e_bool, e_kept0, e_kept1, e_add, e_cat, e_sub, e_mul, e_fdiv, e_mod, e_pow, e_catL, e_catT, e_repL, e_repT, e_eqI, e_eqS, e_neI, e_neS, e_lt, e_le, e_gt, e_ge, e_ltT, e_ixL, e_ixT, e_slL, e_slT, e_lenL, e_lenT, e_abs, e_intI, e_intB, e_str, e_max, e_min, e_repr, e_any, e_all, e_sum, e_listL, e_listT, e_tupL, e_tupT, e_n0, e_n1, e_n2, e_n3, e_n4, e_n5, e_memT, e_sset, e_lset, e_fI, e_fS, e_memL, e_ord, e_eqLL, e_eqL0, e_eqLT0, e_eqTT, e_neLL, e_neTT, e_neB, some_ex, if_tt, if_ff, if_true]
      rw [el]
      refine ⟨pairD (row, used), _, List.getLast?_concat, rfl, ?_⟩
      rw [List.dropLast_concat]
      have hne : row ≠ [] := List.length_pos_iff.mp o2
      have go : ∀ (bst : List Int) (bk : Ev → Nat → Prop), bst = (Rm.step m ⟨best, (row, used) :: rest⟩).best → wpSL (Phi tb n) b_ring_most_9 [.fz (.int m), .fz (tI bst), .ow (.list (rest.reverse.map pairD)), s3, .fz (tI row), .fz (tI used), s6, s7, s8] g X ⟨nx, Q, bk, nx⟩ := by
        intro bst bk hbst
        simp only [b_ring_most_9, Bool.not_true, Bool.not_false, Bool.false_xor, Bool.true_xor, Bool.xor_false, Bool.xor_true, wpSL, wpS, wpE, wpL, wpA, wpJ, wpC, wpO, wpI, setD, setAll, setAllX, bindT, wipeE, List.set_cons_zero, List.set_cons_succ, List.getElem?_cons_zero, List.getElem?_cons_succ, e_fz, e_ow, e_st, e_int, e_int2, e_list, e_seqs1, e_seqs2, e_seq1, e_seq2, e_bool, e_kept0, e_kept1, e_add, e_cat, e_sub, e_mul, e_fdiv, e_mod, e_pow, e_catL, e_catT, e_repL, e_repT, e_eqI, e_eqS, e_neI, e_neS, e_lt, e_le, e_gt, e_ge, e_ltT, e_ixL, e_ixT, e_slL, e_slT, e_lenL, e_lenT, e_abs, e_intI, e_intB, e_str, e_max, e_min, e_repr, e_any, e_all, e_sum, e_listL, e_listT, e_tupL, e_tupT, e_n0, e_n1, e_n2, e_n3, e_n4, e_n5, e_memT, e_sset, e_lset, e_fI, e_fS, e_memL, e_ord, e_eqLL, e_eqL0, e_eqLT0, e_eqTT, e_neLL, e_neTT, e_neB, some_ex, if_tt, if_ff]
        rw [at_last hne]
        simp only [Bool.not_true, Bool.not_false, Bool.false_xor, Bool.true_xor, Bool.xor_false, Bool.xor_true, wpSL, wpS, wpE, wpL, wpA, wpJ, wpC, wpO, wpI, setD, setAll, setAllX, bindT, wipeE, List.set_cons_zero, List.set_cons_succ, List.getElem?_cons_zero, List.getElem?_cons_succ, e_fz, e_ow, e_st, e_int, e_int2, e_list, e_seqs1, e_seqs2, e_seq1, e_seq2, e_bool, e_kept0, e_kept1, e_add, e_cat, e_sub, e_mul, e_fdiv, e_mod, e_pow, e_catL, e_catT, e_repL, e_repT, e_eqI, e_eqS, e_neI, e_neS, e_lt, e_le, e_gt, e_ge, e_ltT, e_ixL, e_ixT, e_slL, e_slT, e_lenL, e_lenT, e_abs, e_intI, e_intB, e_str, e_max, e_min, e_repr, e_any, e_all, e_sum, e_listL, e_listT, e_tupL, e_tupT, e_n0, e_n1, e_n2, e_n3, e_n4, e_n5, e_memT, e_sset, e_lset, e_fI, e_fS, e_memL, e_ord, e_eqLL, e_eqL0, e_eqLT0, e_eqTT, e_neLL, e_neTT, e_neB, some_ex, if_tt, if_ff]
        refine ⟨⟨by omega, by omega, by omega, by omega⟩, ?_⟩
        rw [dwn_map]
        refine for_push (tot := 4000) PyData.int (freeF m (row, used)) (fun one => pairD (row ++ [one], used ++ freshF m row one)) (fun acc ρ => ∃ s3 s6 s7 s8, ρ = [.fz (.int m), .fz (tI bst), .ow (.list acc), s3, .fz (tI row), .fz (tI used), s6, s7, s8]) _ (rest.reverse.map pairD) _ ⟨_, _, _, _, rfl⟩ (by rw [dwn_len, List.length_map, List.length_reverse]; omega) ?_ ?_
        · rintro one hone acc ρ nx2 ⟨s3, s6, s7, s8, rfl⟩ hacc hit miss
          refine ⟨_, rfl, ?_⟩
          simp only [b_ring_most_10, Bool.not_true, Bool.not_false, Bool.false_xor, Bool.true_xor, Bool.xor_false, Bool.xor_true, wpSL, wpS, wpE, wpL, wpA, wpJ, wpC, wpO, wpI, setD, setAll, setAllX, bindT, wipeE, List.set_cons_zero, List.set_cons_succ, List.getElem?_cons_zero, List.getElem?_cons_succ, e_fz, e_ow, e_st, e_int, e_int2, e_list, e_seqs1, e_seqs2, e_seq1, e_seq2, e_bool, e_kept0, e_kept1, e_add, e_cat, e_sub, e_mul, e_fdiv, e_mod, e_pow, e_catL, e_catT, e_repL, e_repT, e_eqI, e_eqS, e_neI, e_neS, e_lt, e_le, e_gt, e_ge, e_ltT, e_ixL, e_ixT, e_slL, e_slT, e_lenL, e_lenT, e_abs, e_intI, e_intB, e_str, e_max, e_min, e_repr, e_any, e_all, e_sum, e_listL, e_listT, e_tupL, e_tupT, e_n0, e_n1, e_n2, e_n3, e_n4, e_n5, e_memT, e_sset, e_lset, e_fI, e_fS, e_memL, e_ord, e_eqLL, e_eqL0, e_eqLT0, e_eqTT, e_neLL, e_neTT, e_neB, some_ex, if_tt, if_ff, if_true]
          have fl := fresh_len m one row
          refine loopN_flat PyData.int (fun other => [PyData.int ((one - other).fmod m), .int ((other - one).fmod m)]) g 60 row [] ?_ (fun r hr acc K hacc hK => ?_) ?_
          · have e : ∀ l : List Int, (l.flatMap fun other => [PyData.int ((one - other).fmod m), PyData.int ((other - one).fmod m)]).length = 2 * l.length := fun l => by
              induction l with
              | nil => rfl
              | cons x xs ih =>
                rw [List.flatMap_cons, List.length_append, ih]
                show 2 + 2 * xs.length = 2 * (xs.length + 1)
                omega
            rw [e, List.length_nil]; omega
          · have hm0 : (m : Int) ≠ 0 := by omega
            have hac : acc.length + 2 ≤ 60 := hacc
            simp only [Bool.not_true, Bool.not_false, Bool.false_xor, Bool.true_xor, Bool.xor_false, Bool.xor_true, wpSL, wpS, wpE, wpL, wpA, wpJ, wpC, wpO, wpI, setD, setAll, setAllX, bindT, wipeE, List.set_cons_zero, List.set_cons_succ, List.getElem?_cons_zero, List.getElem?_cons_succ, e_fz, e_ow, e_st, e_int, e_int2, e_list, e_seqs1, e_seqs2, e_seq1, e_seq2, e_bool, e_kept0, e_kept1, e_add, e_cat, e_sub, e_mul, e_fdiv, e_mod, e_pow, e_catL, e_catT, e_repL, e_repT, e_eqI, e_eqS, e_neI, e_neS, e_lt, e_le, e_gt, e_ge, e_ltT, e_ixL, e_ixT, e_slL, e_slT, e_lenL, e_lenT, e_abs, e_intI, e_intB, e_str, e_max, e_min, e_repr, e_any, e_all, e_sum, e_listL, e_listT, e_tupL, e_tupT, e_n0, e_n1, e_n2, e_n3, e_n4, e_n5, e_memT, e_sset, e_lset, e_fI, e_fS, e_memL, e_ord, e_eqLL, e_eqL0, e_eqLT0, e_eqTT, e_neLL, e_neTT, e_neB, some_ex, if_tt, if_ff]
            refine ⟨hm0, hm0, small' (by simp), line_lt (by omega), line_lt (by rw [List.length_append, List.length_singleton]; omega), ?_⟩
            show K ((acc ++ [_]) ++ [_]) g
            rw [List.append_assoc]
            exact hK
          have ef : [] ++ row.flatMap (fun other => [PyData.int ((one - other).fmod m), PyData.int ((other - one).fmod m)]) = (freshF m row one).map PyData.int := by
            unfold freshF
            rw [List.nil_append, List.map_flatMap]; rfl
          rw [ef]
          simp only [b_ring_most_11, Bool.not_true, Bool.not_false, Bool.false_xor, Bool.true_xor, Bool.xor_false, Bool.xor_true, wpSL, wpS, wpE, wpL, wpA, wpJ, wpC, wpO, wpI, setD, setAll, setAllX, bindT, wipeE, List.set_cons_zero, List.set_cons_succ, List.getElem?_cons_zero, List.getElem?_cons_succ, e_fz, e_ow, e_st, e_int, e_int2, e_list, e_seqs1, e_seqs2, e_seq1, e_seq2, e_bool, e_kept0, e_kept1, e_add, e_cat, e_sub, e_mul, e_fdiv, e_mod, e_pow, e_catL, e_catT, e_repL, e_repT, e_eqI, e_eqS, e_neI, e_neS, e_lt, e_le, e_gt, e_ge, e_ltT, e_ixL, e_ixT, e_slL, e_slT, e_lenL, e_lenT, e_abs, e_intI, e_intB, e_str, e_max, e_min, e_repr, e_any, e_all, e_sum, e_listL, e_listT, e_tupL, e_tupT, e_n0, e_n1, e_n2, e_n3, e_n4, e_n5, e_memT, e_sset, e_lset, e_fI, e_fS, e_memL, e_ord, e_eqLL, e_eqL0, e_eqLT0, e_eqTT, e_neLL, e_neTT, e_neB, some_ex, if_tt, if_ff, List.length_map]
          refine ⟨by omega, ?_⟩
          simp only [if_true]
          have am : ∀ {P : List D → Nat → Prop}, P ((freshF m row one).map fun gap => PyData.bool (decide (gap ∈ used))) g → loopC (fun d g k => memD d (tI used) fun t => k (some (.bool t)) g) ((freshF m row one).map PyData.int) [] g P := fun {P} h => by
            refine comp_map PyData.int (fun gap => PyData.bool (decide (gap ∈ used))) (small' (by omega)) (fun x hx K h => ?_) h
            rw [e_memT]
            exact h
          have ff : freeF m (row, used) one = (decide (((asc (freshF m row one)).length : Int) = ((freshF m row one).length : Int)) && !((freshF m row one).any fun gap => decide (gap ∈ used))) := rfl
          rw [ff] at hit miss
          by_cases q : ((asc (freshF m row one)).length : Int) = ((freshF m row one).length : Int)
          · rw [if_pos (decide_eq_true q)]
            rw [decide_eq_true q, Bool.true_and] at hit miss
            refine am ?_
            simp only [Bool.not_true, Bool.not_false, Bool.false_xor, Bool.true_xor, Bool.xor_false, Bool.xor_true, wpSL, wpS, wpE, wpL, wpA, wpJ, wpC, wpO, wpI, setD, setAll, setAllX, bindT, wipeE, List.set_cons_zero, List.set_cons_succ, List.getElem?_cons_zero, List.getElem?_cons_succ, e_fz, e_ow, e_st, e_int, e_int2, e_list, e_seqs1, e_seqs2, e_seq1, e_seq2, e_bool, e_kept0, e_kept1, e_add, e_cat, e_sub, e_mul, e_fdiv, e_mod, e_pow, e_catL, e_catT, e_repL, e_repT, e_eqI, e_eqS, e_neI, e_neS, e_lt, e_le, e_gt, e_ge, e_ltT, e_ixL, e_ixT, e_slL, e_slT, e_lenL, e_lenT, e_abs, e_intI, e_intB, e_str, e_max, e_min, e_repr, e_any, e_all, e_sum, e_listL, e_listT, e_tupL, e_tupT, e_n0, e_n1, e_n2, e_n3, e_n4, e_n5, e_memT, e_sset, e_lset, e_fI, e_fS, e_memL, e_ord, e_eqLL, e_eqL0, e_eqLT0, e_eqTT, e_neLL, e_neTT, e_neB, some_ex, if_tt, if_ff]
            by_cases q2 : (!((freshF m row one).any fun gap => decide (gap ∈ used))) = true
            · rw [if_pos q2]
              simp only [b_ring_most_12, Bool.not_true, Bool.not_false, Bool.false_xor, Bool.true_xor, Bool.xor_false, Bool.xor_true, wpSL, wpS, wpE, wpL, wpA, wpJ, wpC, wpO, wpI, setD, setAll, setAllX, bindT, wipeE, List.set_cons_zero, List.set_cons_succ, List.getElem?_cons_zero, List.getElem?_cons_succ, e_fz, e_ow, e_st, e_int, e_int2, e_list, e_seqs1, e_seqs2, e_seq1, e_seq2, e_bool, e_kept0, e_kept1, e_add, e_cat, e_sub, e_mul, e_fdiv, e_mod, e_pow, e_catL, e_catT, e_repL, e_repT, e_eqI, e_eqS, e_neI, e_neS, e_lt, e_le, e_gt, e_ge, e_ltT, e_ixL, e_ixT, e_slL, e_slT, e_lenL, e_lenT, e_abs, e_intI, e_intB, e_str, e_max, e_min, e_repr, e_any, e_all, e_sum, e_listL, e_listT, e_tupL, e_tupT, e_n0, e_n1, e_n2, e_n3, e_n4, e_n5, e_memT, e_sset, e_lset, e_fI, e_fS, e_memL, e_ord, e_eqLL, e_eqL0, e_eqLT0, e_eqTT, e_neLL, e_neTT, e_neB, some_ex, if_tt, if_ff, tI_snoc]
              refine ⟨small' (by simp; omega), small' (by simp; omega), small' (by simp), line_lt (by omega), ?_⟩
              refine hit q2 _ ⟨.fz (.int one), .fz (.list ((freshF m row one).map PyData.int)), s7, s8, ?_⟩
              have e3 : PyData.tuple (used.map PyData.int ++ ((freshF m row one).map PyData.int ++ [])) = tI (used ++ freshF m row one) := by
                show PyData.tuple _ = PyData.tuple _
                rw [List.append_nil, List.map_append]
              unfold pairD
              rw [e3]
            · rw [if_neg q2]
              exact miss (eq_false_of_ne_true q2) _ ⟨_, _, _, _, rfl⟩
          · rw [if_neg (by rw [decide_eq_true_eq]; exact q)]
            exact miss (by rw [decide_eq_false q]; rfl) _ ⟨_, _, _, _, rfl⟩
        · rintro ρ ⟨s3, s6, s7, s8, rfl⟩
          refine nxt _ ⟨s3, .fz (tI row), .fz (tI used), s6, s7, s8, ?_⟩
          have e1 : (Rm.step m ⟨best, (row, used) :: rest⟩).line.reverse.map pairD = rest.reverse.map pairD ++ ((dwn (m - 1) (row.getD (row.length - 1) 0)).filter (freeF m (row, used))).map (fun one => pairD (row ++ [one], used ++ freshF m row one)) := by
            show ((pushF m (row, used)).reverse ++ rest).reverse.map pairD = _
            rw [List.reverse_append, List.reverse_reverse, List.map_append]
            unfold pushF
            rw [List.map_map]; rfl
          rw [e1, hbst]
      simp only [b_ring_most_7, b_ring_most_8, Bool.not_true, Bool.not_false, Bool.false_xor, Bool.true_xor, Bool.xor_false, Bool.xor_true, wpSL, wpS, wpE, wpL, wpA, wpJ, wpC, wpO, wpI, setD, setAll, setAllX, bindT, wipeE, List.set_cons_zero, List.set_cons_succ, List.getElem?_cons_zero, List.getElem?_cons_succ, e_fz, e_ow, e_st, e_int, e_int2, e_list, e_seqs1, e_seqs2, e_seq1, e_seq2, e_bool, e_kept0, e_kept1, e_add, e_cat, e_sub, e_mul, e_fdiv, e_mod, e_pow, e_catL, e_catT, e_repL, e_repT, e_eqI, e_eqS, e_neI, e_neS, e_lt, e_le, e_gt, e_ge, e_ltT, e_ixL, e_ixT, e_slL, e_slT, e_lenL, e_lenT, e_abs, e_intI, e_intB, e_str, e_max, e_min, e_repr, e_any, e_all, e_sum, e_listL, e_listT, e_tupL, e_tupT, e_n0, e_n1, e_n2, e_n3, e_n4, e_n5, e_memT, e_sset, e_lset, e_fI, e_fS, e_memL, e_ord, e_eqLL, e_eqL0, e_eqLT0, e_eqTT, e_neLL, e_neTT, e_neB, some_ex, if_tt, if_ff, List.length_map]
      have eb : (Rm.step m ⟨best, (row, used) :: rest⟩).best = if best.length < row.length ∨ (best.length = row.length ∧ lexB row best = true) then row else best := rfl
      by_cases q1 : best.length < row.length
      · rw [if_pos (decide_eq_true (by omega)), if_pos trivial]
        exact go _ _ (by rw [eb, if_pos (.inl q1)])
      · rw [if_neg (by rw [decide_eq_true_eq]; omega)]
        by_cases q2 : row.length = best.length
        · rw [if_pos (decide_eq_true (by omega))]
          by_cases q3 : lexB row best = true
          · rw [if_pos q3]
            exact go _ _ (by rw [eb, if_pos (.inr ⟨q2.symm, q3⟩)])
          · rw [if_neg q3]
            exact go _ _ (by rw [eb, if_neg (by rintro (h | ⟨_, h⟩); exact q1 h; exact q3 h)])
        · rw [if_neg (by rw [decide_eq_true_eq]; omega)]
          exact go _ _ (by rw [eb, if_neg (by rintro (h | ⟨h, _⟩); exact q1 h; exact q2 h.symm)])
  · rintro ρ ⟨s3, s4, s5, s6, s7, s8, rfl⟩
    simp only [b_ring_most_13, Bool.not_true, Bool.not_false, Bool.false_xor, Bool.true_xor, Bool.xor_false, Bool.xor_true, wpSL, wpS, wpE, wpL, wpA, wpJ, wpC, wpO, wpI, setD, setAll, setAllX, bindT, wipeE, List.set_cons_zero, List.set_cons_succ, List.getElem?_cons_zero, List.getElem?_cons_succ, e_fz, e_ow, e_st, e_int, e_int2, e_list, e_seqs1, e_seqs2, e_seq1, e_seq2, e_bool, e_kept0, e_kept1, e_add, e_cat, e_sub, e_mul, e_fdiv, e_mod, e_pow, e_catL, e_catT, e_repL, e_repT, e_eqI, e_eqS, e_neI, e_neS, e_lt, e_le, e_gt, e_ge, e_ltT, e_ixL, e_ixT, e_slL, e_slT, e_lenL, e_lenT, e_abs, e_intI, e_intB, e_str, e_max, e_min, e_repr, e_any, e_all, e_sum, e_listL, e_listT, e_tupL, e_tupT, e_n0, e_n1, e_n2, e_n3, e_n4, e_n5, e_memT, e_sset, e_lset, e_fI, e_fS, e_memL, e_ord, e_eqLL, e_eqL0, e_eqLT0, e_eqTT, e_neLL, e_neTT, e_neB, some_ex, if_tt, if_ff]
    rw [hb]
    exact h
end
end Dz
set_option Elab.async false
set_option linter.all false
set_option maxRecDepth 100000
/-! k09: perfect_of. -/
namespace Dz
open PySem
variable {n g : Nat} {X : XR} {Q : Rs}
def runR {σ β : Type} (fi : σ → Option β) (ok : σ → Bool) (step : σ → σ) : Nat → σ → Option β
  | 0, _ => none
  | n + 1, s => if ok s = true then (match fi s with | some r => some r | none => runR fi ok step n (step s)) else none
theorem while_ret {σ β : Type} {c : Ev → Nat → (Bool → Nat → Prop) → Prop} {body : Ev → Nat → Kt → Prop} {k : Kt} {g : Nat} (J : σ → Ev → Prop) (fi : σ → Option β) (ok : σ → Bool) (step : σ → σ) {r0 : β}
    (hc : ∀ s ρ (kc : Bool → Nat → Prop), J s ρ → ok s = true → kc true g → c ρ g kc)
    (hb : ∀ s ρ (nx : Ev → Nat → Prop), J s ρ → ok s = true → (fi s = none → ∀ ρ', J (step s) ρ' → nx ρ' g) → (∀ r, fi s = some r → r = r0) → body ρ g ⟨nx, k.rt, k.nx, nx⟩) : ∀ (n : Nat) (s : σ) (ρ : Ev), J s ρ → runR fi ok step n s = some r0 → ∃ m, loopW c body m ρ g k := by
  have go : ∀ (n : Nat) (s : σ) (ρ : Ev), J s ρ → runR fi ok step n s = some r0 → loopW c body n ρ g k := by
    intro n
    induction n with
    | zero => intro s ρ h hr; cases hr
    | succ n ih =>
      intro s ρ h hr
      unfold runR at hr
      by_cases q : ok s = true
      · rw [if_pos q] at hr
        refine hc s ρ _ h q ?_
        rw [if_pos rfl]
        refine hb s ρ _ h q (fun e ρ' h' => ?_) fun r e => ?_
        · rw [e] at hr
          exact ih _ ρ' h' hr
        · rw [e] at hr
          exact Option.some.inj hr
      · rw [if_neg q] at hr; cases hr
  exact fun n s ρ h hr => ⟨n, go n s ρ h hr⟩
def foundF (size : Nat) (line : List (List Int × List Int)) : Option (List Int) := if (headP line).1.length = size then some (headP line).1 else none
def okQ (m : Int) (line : List (List Int × List Int)) : Bool := okP m line && decide (0 < line.length)
def stepQ (m : Int) (line : List (List Int × List Int)) : List (List Int × List Int) := (pushF m (headP line)).reverse ++ line.tail
section
variable {kt : Kt} {s1 : SV}
theorem s_perfect_of {size : Nat} {m : Int} {b : List Int} {M : Nat} (h1 : 2 ≤ size) (h2 : size ≤ 6) (hm : m = (size : Int) * ((size : Int) - 1) + 1) (hr : runR (foundF size) (okQ m) (stepQ m) M [([0, 1], [1, m - 1])] = some b) (h : Q (.tuple [.int m, tI b]) g) : Phi tb (n + 1) 6 [.fz (.int size)] g X Q := by
  have hm2 : 3 ≤ m ∧ m ≤ 31 := by
    rcases (by omega : size = 2 ∨ size = 3 ∨ size = 4 ∨ size = 5 ∨ size = 6) with rfl | rfl | rfl | rfl | rfl <;> simp at hm <;> omega
  refine phi_perfect_of ?_
  simp only [b_perfect_of, b_perfect_of_1, Bool.not_true, Bool.not_false, Bool.false_xor, Bool.true_xor, Bool.xor_false, Bool.xor_true, wpSL, wpS, wpE, wpL, wpA, wpJ, wpC, wpO, wpI, setD, setAll, setAllX, bindT, wipeE, List.set_cons_zero, List.set_cons_succ, List.getElem?_cons_zero, List.getElem?_cons_succ, e_fz, e_ow, e_st, e_int, e_int2, e_list, e_seqs1, e_seqs2, e_seq1, e_seq2, e_bool, e_kept0, e_kept1, e_add, e_cat, e_sub, e_mul, e_fdiv, e_mod, e_pow, e_catL, e_catT, e_repL, e_repT, e_eqI, e_eqS, e_neI, e_neS, e_lt, e_le, e_gt, e_ge, e_ltT, e_ixL, e_ixT, e_slL, e_slT, e_lenL, e_lenT, e_abs, e_intI, e_intB, e_str, e_max, e_min, e_repr, e_any, e_all, e_sum, e_listL, e_listT, e_tupL, e_tupT, e_n0, e_n1, e_n2, e_n3, e_n4, e_n5, e_memT, e_sset, e_lset, e_fI, e_fS, e_memL, e_ord, e_eqLL, e_eqL0, e_eqLT0, e_eqTT, e_neLL, e_neTT, e_neB, some_ex, if_tt, if_ff]
  rw [decide_eq_true (by omega), decide_eq_true (by omega)]
  simp only [b_perfect_of_3, b_perfect_of_4, b_perfect_of_5, Bool.not_true, Bool.not_false, Bool.false_xor, Bool.true_xor, Bool.xor_false, Bool.xor_true, wpSL, wpS, wpE, wpL, wpA, wpJ, wpC, wpO, wpI, setD, setAll, setAllX, bindT, wipeE, List.set_cons_zero, List.set_cons_succ, List.getElem?_cons_zero, List.getElem?_cons_succ, e_fz, e_ow, e_st, e_int, e_int2, e_list, e_seqs1, e_seqs2, e_seq1, e_seq2, e_bool, e_kept0, e_kept1, e_add, e_cat, e_sub, e_mul, e_fdiv, e_mod, e_pow, e_catL, e_catT, e_repL, e_repT, e_eqI, e_eqS, e_neI, e_neS, e_lt, e_le, e_gt, e_ge, e_ltT, e_ixL, e_ixT, e_slL, e_slT, e_lenL, e_lenT, e_abs, e_intI, e_intB, e_str, e_max, e_min, e_repr, e_any, e_all, e_sum, e_listL, e_listT, e_tupL, e_tupT, e_n0, e_n1, e_n2, e_n3, e_n4, e_n5, e_memT, e_sset, e_lset, e_fI, e_fS, e_memL, e_ord, e_eqLL, e_eqL0, e_eqLT0, e_eqTT, e_neLL, e_neTT, e_neB, some_ex, if_tt, if_ff, if_true]
  rw [← hm]
  trace_state
  refine ⟨.inl ⟨by omega, by omega⟩, small' (by simp), small' (by simp), small' (by simp), small' (by simp), ?_⟩
  refine while_ret (fun (line : List (List Int × List Int)) ρ => ∃ s3 s4 s5 s6 s7 s8, ρ = [.fz (.int size), .fz (.int m), .ow (.list (line.reverse.map pairD)), s3, s4, s5, s6, s7, s8]) (foundF size) (okQ m) (stepQ m) ?_ ?_ M [([0, 1], [1, m - 1])] _ ⟨_, _, _, _, _, _, rfl⟩ hr
  · rintro line ρ kc ⟨s3, s4, s5, s6, s7, s8, rfl⟩ ho hk
    simp only [Bool.not_true, Bool.not_false, Bool.false_xor, Bool.true_xor, Bool.xor_false, Bool.xor_true, wpSL, wpS, wpE, wpL, wpA, wpJ, wpC, wpO, wpI, setD, setAll, setAllX, bindT, wipeE, List.set_cons_zero, List.set_cons_succ, List.getElem?_cons_zero, List.getElem?_cons_succ, e_fz, e_ow, e_st, e_int, e_int2, e_list, e_seqs1, e_seqs2, e_seq1, e_seq2, e_bool, e_kept0, e_kept1, e_add, e_cat, e_sub, e_mul, e_fdiv, e_mod, e_pow, e_catL, e_catT, e_repL, e_repT, e_eqI, e_eqS, e_neI, e_neS, e_lt, e_le, e_gt, e_ge, e_ltT, e_ixL, e_ixT, e_slL, e_slT, e_lenL, e_lenT, e_abs, e_intI, e_intB, e_str, e_max, e_min, e_repr, e_any, e_all, e_sum, e_listL, e_listT, e_tupL, e_tupT, e_n0, e_n1, e_n2, e_n3, e_n4, e_n5, e_memT, e_sset, e_lset, e_fI, e_fS, e_memL, e_ord, e_eqLL, e_eqL0, e_eqLT0, e_eqTT, e_neLL, e_neTT, e_neB, some_ex, if_tt, if_ff, List.length_map, List.length_reverse]
    have : 0 < line.length := by
      unfold okQ at ho
      rw [Bool.and_eq_true, decide_eq_true_eq] at ho
      exact ho.2
    rw [decide_eq_true (by omega)]
    exact hk
  · rintro line ρ nx ⟨s3, s4, s5, s6, s7, s8, rfl⟩ ho nxt fnd
    unfold okQ at ho
    rw [Bool.and_eq_true, decide_eq_true_eq] at ho
    obtain ⟨ho, hlen⟩ := ho
    cases line with
    | nil => cases hlen
    | cons p rest =>
      obtain ⟨row, used⟩ := p
      have ho' := of_decide_eq_true ho
      obtain ⟨o1, o2, o3, o4, o5, o6⟩ : row.length < 30 ∧ 0 < row.length ∧ used.length < 2000 ∧ ((row, used) :: rest).length < 3000 ∧ 0 ≤ row.getD (row.length - 1) 0 ∧ row.getD (row.length - 1) 0 ≤ m := ho'
      rw [List.length_cons] at o4
      have el : ((row, used) :: rest).reverse.map pairD = rest.reverse.map pairD ++ [pairD (row, used)] := by rw [List.reverse_cons, List.map_append]; rfl
      simp only [b_perfect_of_6, Bool.not_true, Bool.not_false, Bool.false_xor, Bool.true_xor, Bool.xor_false, Bool.xor_true, wpSL, wpS, wpE, wpL, wpA, wpJ, wpC, wpO, wpI, setD, setAll, setAllX, bindT, wipeE, List.set_cons_zero, List.set_cons_succ, List.getElem?_cons_zero, List.getElem?_cons_succ, e_fz, e_ow, e_st, e_int, e_int2, e_list, e_seqs1, e_seqs2, e_seq1, e_seq2, e_bool, e_kept0, e_kept1, e_add, e_cat, e_sub, e_mul, e_fdiv, e_mod, e_pow, e_catL, e_catT, e_repL, e_repT, e_eqI, e_eqS, e_neI, e_neS, e_lt, e_le, e_gt, e_ge, e_ltT, e_ixL, e_ixT, e_slL, e_slT, e_lenL, e_lenT, e_abs, e_intI, e_intB, e_str, e_max, e_min, e_repr, e_any, e_all, e_sum, e_listL, e_listT, e_tupL, e_tupT, e_n0, e_n1, e_n2, e_n3, e_n4, e_n5, e_memT, e_sset, e_lset, e_fI, e_fS, e_memL, e_ord, e_eqLL, e_eqL0, e_eqLT0, e_eqTT, e_neLL, e_neTT, e_neB, some_ex, if_tt, if_ff, if_true]
      rw [el]
      refine ⟨pairD (row, used), _, List.getLast?_concat, rfl, ?_⟩
      rw [List.dropLast_concat]
      have hne : row ≠ [] := List.length_pos_iff.mp o2
      have go : ∀ (bk : Ev → Nat → Prop), foundF size ((row, used) :: rest) = none → wpSL (Phi tb n) b_perfect_of_9 [.fz (.int size), .fz (.int m), .ow (.list (rest.reverse.map pairD)), s3, .fz (tI row), .fz (tI used), s6, s7, s8] g X ⟨nx, Q, bk, nx⟩ := by
        intro bk hnone
        simp only [b_perfect_of_9, Bool.not_true, Bool.not_false, Bool.false_xor, Bool.true_xor, Bool.xor_false, Bool.xor_true, wpSL, wpS, wpE, wpL, wpA, wpJ, wpC, wpO, wpI, setD, setAll, setAllX, bindT, wipeE, List.set_cons_zero, List.set_cons_succ, List.getElem?_cons_zero, List.getElem?_cons_succ, e_fz, e_ow, e_st, e_int, e_int2, e_list, e_seqs1, e_seqs2, e_seq1, e_seq2, e_bool, e_kept0, e_kept1, e_add, e_cat, e_sub, e_mul, e_fdiv, e_mod, e_pow, e_catL, e_catT, e_repL, e_repT, e_eqI, e_eqS, e_neI, e_neS, e_lt, e_le, e_gt, e_ge, e_ltT, e_ixL, e_ixT, e_slL, e_slT, e_lenL, e_lenT, e_abs, e_intI, e_intB, e_str, e_max, e_min, e_repr, e_any, e_all, e_sum, e_listL, e_listT, e_tupL, e_tupT, e_n0, e_n1, e_n2, e_n3, e_n4, e_n5, e_memT, e_sset, e_lset, e_fI, e_fS, e_memL, e_ord, e_eqLL, e_eqL0, e_eqLT0, e_eqTT, e_neLL, e_neTT, e_neB, some_ex, if_tt, if_ff]
        rw [at_last hne]
        simp only [Bool.not_true, Bool.not_false, Bool.false_xor, Bool.true_xor, Bool.xor_false, Bool.xor_true, wpSL, wpS, wpE, wpL, wpA, wpJ, wpC, wpO, wpI, setD, setAll, setAllX, bindT, wipeE, List.set_cons_zero, List.set_cons_succ, List.getElem?_cons_zero, List.getElem?_cons_succ, e_fz, e_ow, e_st, e_int, e_int2, e_list, e_seqs1, e_seqs2, e_seq1, e_seq2, e_bool, e_kept0, e_kept1, e_add, e_cat, e_sub, e_mul, e_fdiv, e_mod, e_pow, e_catL, e_catT, e_repL, e_repT, e_eqI, e_eqS, e_neI, e_neS, e_lt, e_le, e_gt, e_ge, e_ltT, e_ixL, e_ixT, e_slL, e_slT, e_lenL, e_lenT, e_abs, e_intI, e_intB, e_str, e_max, e_min, e_repr, e_any, e_all, e_sum, e_listL, e_listT, e_tupL, e_tupT, e_n0, e_n1, e_n2, e_n3, e_n4, e_n5, e_memT, e_sset, e_lset, e_fI, e_fS, e_memL, e_ord, e_eqLL, e_eqL0, e_eqLT0, e_eqTT, e_neLL, e_neTT, e_neB, some_ex, if_tt, if_ff]
        refine ⟨⟨by omega, by omega, by omega, by omega⟩, ?_⟩
        rw [dwn_map]
        refine for_push (tot := 4000) PyData.int (freeF m (row, used)) (fun one => pairD (row ++ [one], used ++ freshF m row one)) (fun acc ρ => ∃ s3 s6 s7 s8, ρ = [.fz (.int size), .fz (.int m), .ow (.list acc), s3, .fz (tI row), .fz (tI used), s6, s7, s8]) _ (rest.reverse.map pairD) _ ⟨_, _, _, _, rfl⟩ (by rw [dwn_len, List.length_map, List.length_reverse]; omega) ?_ ?_
        · rintro one hone acc ρ nx2 ⟨s3, s6, s7, s8, rfl⟩ hacc hit miss
          refine ⟨_, rfl, ?_⟩
          simp only [b_perfect_of_10, Bool.not_true, Bool.not_false, Bool.false_xor, Bool.true_xor, Bool.xor_false, Bool.xor_true, wpSL, wpS, wpE, wpL, wpA, wpJ, wpC, wpO, wpI, setD, setAll, setAllX, bindT, wipeE, List.set_cons_zero, List.set_cons_succ, List.getElem?_cons_zero, List.getElem?_cons_succ, e_fz, e_ow, e_st, e_int, e_int2, e_list, e_seqs1, e_seqs2, e_seq1, e_seq2, e_bool, e_kept0, e_kept1, e_add, e_cat, e_sub, e_mul, e_fdiv, e_mod, e_pow, e_catL, e_catT, e_repL, e_repT, e_eqI, e_eqS, e_neI, e_neS, e_lt, e_le, e_gt, e_ge, e_ltT, e_ixL, e_ixT, e_slL, e_slT, e_lenL, e_lenT, e_abs, e_intI, e_intB, e_str, e_max, e_min, e_repr, e_any, e_all, e_sum, e_listL, e_listT, e_tupL, e_tupT, e_n0, e_n1, e_n2, e_n3, e_n4, e_n5, e_memT, e_sset, e_lset, e_fI, e_fS, e_memL, e_ord, e_eqLL, e_eqL0, e_eqLT0, e_eqTT, e_neLL, e_neTT, e_neB, some_ex, if_tt, if_ff, if_true]
          have fl := fresh_len m one row
          refine loopN_flat PyData.int (fun other => [PyData.int ((one - other).fmod m), .int ((other - one).fmod m)]) g 60 row [] ?_ (fun r hr acc K hacc hK => ?_) ?_
          · have e : ∀ l : List Int, (l.flatMap fun other => [PyData.int ((one - other).fmod m), PyData.int ((other - one).fmod m)]).length = 2 * l.length := fun l => by
              induction l with
              | nil => rfl
              | cons x xs ih =>
                rw [List.flatMap_cons, List.length_append, ih]
                show 2 + 2 * xs.length = 2 * (xs.length + 1)
                omega
            rw [e, List.length_nil]; omega
          · have hm0 : (m : Int) ≠ 0 := by omega
            have hac : acc.length + 2 ≤ 60 := hacc
            simp only [Bool.not_true, Bool.not_false, Bool.false_xor, Bool.true_xor, Bool.xor_false, Bool.xor_true, wpSL, wpS, wpE, wpL, wpA, wpJ, wpC, wpO, wpI, setD, setAll, setAllX, bindT, wipeE, List.set_cons_zero, List.set_cons_succ, List.getElem?_cons_zero, List.getElem?_cons_succ, e_fz, e_ow, e_st, e_int, e_int2, e_list, e_seqs1, e_seqs2, e_seq1, e_seq2, e_bool, e_kept0, e_kept1, e_add, e_cat, e_sub, e_mul, e_fdiv, e_mod, e_pow, e_catL, e_catT, e_repL, e_repT, e_eqI, e_eqS, e_neI, e_neS, e_lt, e_le, e_gt, e_ge, e_ltT, e_ixL, e_ixT, e_slL, e_slT, e_lenL, e_lenT, e_abs, e_intI, e_intB, e_str, e_max, e_min, e_repr, e_any, e_all, e_sum, e_listL, e_listT, e_tupL, e_tupT, e_n0, e_n1, e_n2, e_n3, e_n4, e_n5, e_memT, e_sset, e_lset, e_fI, e_fS, e_memL, e_ord, e_eqLL, e_eqL0, e_eqLT0, e_eqTT, e_neLL, e_neTT, e_neB, some_ex, if_tt, if_ff]
            refine ⟨hm0, hm0, small' (by simp), line_lt (by omega), line_lt (by rw [List.length_append, List.length_singleton]; omega), ?_⟩
            show K ((acc ++ [_]) ++ [_]) g
            rw [List.append_assoc]
            exact hK
          have ef : [] ++ row.flatMap (fun other => [PyData.int ((one - other).fmod m), PyData.int ((other - one).fmod m)]) = (freshF m row one).map PyData.int := by
            unfold freshF
            rw [List.nil_append, List.map_flatMap]; rfl
          rw [ef]
          simp only [b_perfect_of_11, Bool.not_true, Bool.not_false, Bool.false_xor, Bool.true_xor, Bool.xor_false, Bool.xor_true, wpSL, wpS, wpE, wpL, wpA, wpJ, wpC, wpO, wpI, setD, setAll, setAllX, bindT, wipeE, List.set_cons_zero, List.set_cons_succ, List.getElem?_cons_zero, List.getElem?_cons_succ, e_fz, e_ow, e_st, e_int, e_int2, e_list, e_seqs1, e_seqs2, e_seq1, e_seq2, e_bool, e_kept0, e_kept1, e_add, e_cat, e_sub, e_mul, e_fdiv, e_mod, e_pow, e_catL, e_catT, e_repL, e_repT, e_eqI, e_eqS, e_neI, e_neS, e_lt, e_le, e_gt, e_ge, e_ltT, e_ixL, e_ixT, e_slL, e_slT, e_lenL, e_lenT, e_abs, e_intI, e_intB, e_str, e_max, e_min, e_repr, e_any, e_all, e_sum, e_listL, e_listT, e_tupL, e_tupT, e_n0, e_n1, e_n2, e_n3, e_n4, e_n5, e_memT, e_sset, e_lset, e_fI, e_fS, e_memL, e_ord, e_eqLL, e_eqL0, e_eqLT0, e_eqTT, e_neLL, e_neTT, e_neB, some_ex, if_tt, if_ff, List.length_map]
          refine ⟨by omega, ?_⟩
          simp only [if_true]
          have am : ∀ {P : List D → Nat → Prop}, P ((freshF m row one).map fun gap => PyData.bool (decide (gap ∈ used))) g → loopC (fun d g k => memD d (tI used) fun t => k (some (.bool t)) g) ((freshF m row one).map PyData.int) [] g P := fun {P} h => by
            refine comp_map PyData.int (fun gap => PyData.bool (decide (gap ∈ used))) (small' (by omega)) (fun x hx K h => ?_) h
            rw [e_memT]
            exact h
          have ff : freeF m (row, used) one = (decide (((asc (freshF m row one)).length : Int) = ((freshF m row one).length : Int)) && !((freshF m row one).any fun gap => decide (gap ∈ used))) := rfl
          rw [ff] at hit miss
          by_cases q : ((asc (freshF m row one)).length : Int) = ((freshF m row one).length : Int)
          · rw [if_pos (decide_eq_true q)]
            rw [decide_eq_true q, Bool.true_and] at hit miss
            refine am ?_
            simp only [Bool.not_true, Bool.not_false, Bool.false_xor, Bool.true_xor, Bool.xor_false, Bool.xor_true, wpSL, wpS, wpE, wpL, wpA, wpJ, wpC, wpO, wpI, setD, setAll, setAllX, bindT, wipeE, List.set_cons_zero, List.set_cons_succ, List.getElem?_cons_zero, List.getElem?_cons_succ, e_fz, e_ow, e_st, e_int, e_int2, e_list, e_seqs1, e_seqs2, e_seq1, e_seq2, e_bool, e_kept0, e_kept1, e_add, e_cat, e_sub, e_mul, e_fdiv, e_mod, e_pow, e_catL, e_catT, e_repL, e_repT, e_eqI, e_eqS, e_neI, e_neS, e_lt, e_le, e_gt, e_ge, e_ltT, e_ixL, e_ixT, e_slL, e_slT, e_lenL, e_lenT, e_abs, e_intI, e_intB, e_str, e_max, e_min, e_repr, e_any, e_all, e_sum, e_listL, e_listT, e_tupL, e_tupT, e_n0, e_n1, e_n2, e_n3, e_n4, e_n5, e_memT, e_sset, e_lset, e_fI, e_fS, e_memL, e_ord, e_eqLL, e_eqL0, e_eqLT0, e_eqTT, e_neLL, e_neTT, e_neB, some_ex, if_tt, if_ff]
            by_cases q2 : (!((freshF m row one).any fun gap => decide (gap ∈ used))) = true
            · rw [if_pos q2]
              simp only [b_perfect_of_12, Bool.not_true, Bool.not_false, Bool.false_xor, Bool.true_xor, Bool.xor_false, Bool.xor_true, wpSL, wpS, wpE, wpL, wpA, wpJ, wpC, wpO, wpI, setD, setAll, setAllX, bindT, wipeE, List.set_cons_zero, List.set_cons_succ, List.getElem?_cons_zero, List.getElem?_cons_succ, e_fz, e_ow, e_st, e_int, e_int2, e_list, e_seqs1, e_seqs2, e_seq1, e_seq2, e_bool, e_kept0, e_kept1, e_add, e_cat, e_sub, e_mul, e_fdiv, e_mod, e_pow, e_catL, e_catT, e_repL, e_repT, e_eqI, e_eqS, e_neI, e_neS, e_lt, e_le, e_gt, e_ge, e_ltT, e_ixL, e_ixT, e_slL, e_slT, e_lenL, e_lenT, e_abs, e_intI, e_intB, e_str, e_max, e_min, e_repr, e_any, e_all, e_sum, e_listL, e_listT, e_tupL, e_tupT, e_n0, e_n1, e_n2, e_n3, e_n4, e_n5, e_memT, e_sset, e_lset, e_fI, e_fS, e_memL, e_ord, e_eqLL, e_eqL0, e_eqLT0, e_eqTT, e_neLL, e_neTT, e_neB, some_ex, if_tt, if_ff, tI_snoc]
              refine ⟨small' (by simp; omega), small' (by simp; omega), small' (by simp), line_lt (by omega), ?_⟩
              refine hit q2 _ ⟨.fz (.int one), .fz (.list ((freshF m row one).map PyData.int)), s7, s8, ?_⟩
              have e3 : PyData.tuple (used.map PyData.int ++ ((freshF m row one).map PyData.int ++ [])) = tI (used ++ freshF m row one) := by
                show PyData.tuple _ = PyData.tuple _
                rw [List.append_nil, List.map_append]
              unfold pairD
              rw [e3]
            · rw [if_neg q2]
              exact miss (eq_false_of_ne_true q2) _ ⟨_, _, _, _, rfl⟩
          · rw [if_neg (by rw [decide_eq_true_eq]; exact q)]
            exact miss (by rw [decide_eq_false q]; rfl) _ ⟨_, _, _, _, rfl⟩
        · rintro ρ ⟨s3, s6, s7, s8, rfl⟩
          refine nxt hnone _ ⟨s3, .fz (tI row), .fz (tI used), s6, s7, s8, ?_⟩
          have e1 : (stepQ m ((row, used) :: rest)).reverse.map pairD = rest.reverse.map pairD ++ ((dwn (m - 1) (row.getD (row.length - 1) 0)).filter (freeF m (row, used))).map (fun one => pairD (row ++ [one], used ++ freshF m row one)) := by
            show ((pushF m (row, used)).reverse ++ rest).reverse.map pairD = _
            rw [List.reverse_append, List.reverse_reverse, List.map_append]
            unfold pushF
            rw [List.map_map]; rfl
          rw [e1]
      simp only [b_perfect_of_7, Bool.not_true, Bool.not_false, Bool.false_xor, Bool.true_xor, Bool.xor_false, Bool.xor_true, wpSL, wpS, wpE, wpL, wpA, wpJ, wpC, wpO, wpI, setD, setAll, setAllX, bindT, wipeE, List.set_cons_zero, List.set_cons_succ, List.getElem?_cons_zero, List.getElem?_cons_succ, e_fz, e_ow, e_st, e_int, e_int2, e_list, e_seqs1, e_seqs2, e_seq1, e_seq2, e_bool, e_kept0, e_kept1, e_add, e_cat, e_sub, e_mul, e_fdiv, e_mod, e_pow, e_catL, e_catT, e_repL, e_repT, e_eqI, e_eqS, e_neI, e_neS, e_lt, e_le, e_gt, e_ge, e_ltT, e_ixL, e_ixT, e_slL, e_slT, e_lenL, e_lenT, e_abs, e_intI, e_intB, e_str, e_max, e_min, e_repr, e_any, e_all, e_sum, e_listL, e_listT, e_tupL, e_tupT, e_n0, e_n1, e_n2, e_n3, e_n4, e_n5, e_memT, e_sset, e_lset, e_fI, e_fS, e_memL, e_ord, e_eqLL, e_eqL0, e_eqLT0, e_eqTT, e_neLL, e_neTT, e_neB, some_ex, if_tt, if_ff, List.length_map]
      by_cases q : row.length = size
      · rw [if_pos (decide_eq_true (by omega))]
        simp only [b_perfect_of_8, Bool.not_true, Bool.not_false, Bool.false_xor, Bool.true_xor, Bool.xor_false, Bool.xor_true, wpSL, wpS, wpE, wpL, wpA, wpJ, wpC, wpO, wpI, setD, setAll, setAllX, bindT, wipeE, List.set_cons_zero, List.set_cons_succ, List.getElem?_cons_zero, List.getElem?_cons_succ, e_fz, e_ow, e_st, e_int, e_int2, e_list, e_seqs1, e_seqs2, e_seq1, e_seq2, e_bool, e_kept0, e_kept1, e_add, e_cat, e_sub, e_mul, e_fdiv, e_mod, e_pow, e_catL, e_catT, e_repL, e_repT, e_eqI, e_eqS, e_neI, e_neS, e_lt, e_le, e_gt, e_ge, e_ltT, e_ixL, e_ixT, e_slL, e_slT, e_lenL, e_lenT, e_abs, e_intI, e_intB, e_str, e_max, e_min, e_repr, e_any, e_all, e_sum, e_listL, e_listT, e_tupL, e_tupT, e_n0, e_n1, e_n2, e_n3, e_n4, e_n5, e_memT, e_sset, e_lset, e_fI, e_fS, e_memL, e_ord, e_eqLL, e_eqL0, e_eqLT0, e_eqTT, e_neLL, e_neTT, e_neB, some_ex, if_tt, if_ff]
        have e : foundF size ((row, used) :: rest) = some row := if_pos q
        have eb := fnd _ e
        rw [eb]
        exact ⟨small' (by simp), h⟩
      · rw [if_neg (by rw [decide_eq_true_eq]; omega)]
        exact go _ (if_neg q)
end
end Dz
set_option Elab.async false
set_option linter.all false
set_option maxRecDepth 100000
/-! k09: what is looked at first; the two questions. -/
namespace Dz
open PySem
variable {n g : Nat} {X : XR} {Q : Rs}
def adjF (row : List Int) : Bool := (row.zip (row.drop 1)).all fun p => decide (p.1 < p.2)
def inF (m : Int) (row : List Int) : Bool := row.all fun x => decide (0 ≤ x) && decide (x < m)
def rBad (m : Int) (row : List Int) : Bool := !(decide (1 ≤ m) && decide (m ≤ 60)) || ((decide ((row.length : Int) = 0) || !inF m row) || !adjF row)
theorem zip_ints : ∀ a b : List Int, zipD (a.map PyData.int) (b.map PyData.int) = (a.zip b).map fun p => PyData.tuple [.int p.1, .int p.2]
  | [], _ => rfl
  | _ :: _, [] => rfl
  | x :: xs, y :: ys => by
    show PyData.tuple [.int x, .int y] :: zipD _ _ = _
    rw [zip_ints xs ys]; rfl
theorem adj_of : ∀ {row : List Int}, row.Pairwise (· < ·) → adjF row = true
  | [], _ => rfl
  | [_], _ => rfl
  | x :: y :: ys, h => by
    obtain ⟨h1, h2⟩ := List.pairwise_cons.mp h
    have := adj_of h2
    unfold adjF at this ⊢
    show (decide (x < y) && _) = true
    rw [decide_eq_true (h1 y (List.mem_cons_self ..)), Bool.true_and]
    exact this
theorem s_check_ring {m : Int} {row : List Int} (hl : row.length ≤ 1000) (h0 : rBad m row = false → Q .none g) (h1 : rBad m row = true → X (.cls 0) g) : Phi tb (n + 1) 9 [.fz (.int m), .fz (tI row)] g X Q := by
  refine phi_check_ring ?_
  have A : ∀ {P : List D → Nat → Prop}, P (row.map fun x => PyData.bool (decide (0 ≤ x) && decide (x < m))) g → loopC (fun d g k => cmpD Cmp.le (PyData.int 0) d fun z => onBool (fun t g3 => if t = true then cmpD Cmp.lt d (PyData.int m) fun r => k (some r) g3 else k (some (PyData.bool false)) g3) z g) (row.map PyData.int) [] g P := fun {P} h => by
    refine comp_map PyData.int (fun x => PyData.bool (decide (0 ≤ x) && decide (x < m))) (small' (by omega)) (fun x hx K h => ?_) h
    simp only [Bool.not_true, Bool.not_false, Bool.false_xor, Bool.true_xor, Bool.xor_false, Bool.xor_true, wpSL, wpS, wpE, wpL, wpA, wpJ, wpC, wpO, wpI, setD, setAll, setAllX, bindT, wipeE, List.set_cons_zero, List.set_cons_succ, List.getElem?_cons_zero, List.getElem?_cons_succ, e_fz, e_ow, e_st, e_int, e_int2, e_list, e_seqs1, e_seqs2, e_seq1, e_seq2, e_bool, e_kept0, e_kept1, e_add, e_cat, e_sub, e_mul, e_fdiv, e_mod, e_pow, e_catL, e_catT, e_repL, e_repT, e_eqI, e_eqS, e_neI, e_neS, e_lt, e_le, e_gt, e_ge, e_ltT, e_ixL, e_ixT, e_slL, e_slT, e_lenL, e_lenT, e_abs, e_intI, e_intB, e_str, e_max, e_min, e_repr, e_any, e_all, e_sum, e_listL, e_listT, e_tupL, e_tupT, e_n0, e_n1, e_n2, e_n3, e_n4, e_n5, e_memT, e_sset, e_lset, e_fI, e_fS, e_memL, e_ord, e_eqLL, e_eqL0, e_eqLT0, e_eqTT, e_neLL, e_neTT, e_neB, some_ex, if_tt, if_ff]
    revert h
    cases decide (0 ≤ x) <;> intro h <;> simp only [Bool.not_true, Bool.not_false, Bool.false_xor, Bool.true_xor, Bool.xor_false, Bool.xor_true, wpSL, wpS, wpE, wpL, wpA, wpJ, wpC, wpO, wpI, setD, setAll, setAllX, bindT, wipeE, List.set_cons_zero, List.set_cons_succ, List.getElem?_cons_zero, List.getElem?_cons_succ, e_fz, e_ow, e_st, e_int, e_int2, e_list, e_seqs1, e_seqs2, e_seq1, e_seq2, e_bool, e_kept0, e_kept1, e_add, e_cat, e_sub, e_mul, e_fdiv, e_mod, e_pow, e_catL, e_catT, e_repL, e_repT, e_eqI, e_eqS, e_neI, e_neS, e_lt, e_le, e_gt, e_ge, e_ltT, e_ixL, e_ixT, e_slL, e_slT, e_lenL, e_lenT, e_abs, e_intI, e_intB, e_str, e_max, e_min, e_repr, e_any, e_all, e_sum, e_listL, e_listT, e_tupL, e_tupT, e_n0, e_n1, e_n2, e_n3, e_n4, e_n5, e_memT, e_sset, e_lset, e_fI, e_fS, e_memL, e_ord, e_eqLL, e_eqL0, e_eqLT0, e_eqTT, e_neLL, e_neTT, e_neB, some_ex, if_tt, if_ff] <;> exact h
  simp only [b_check_ring, b_check_ring_1, b_check_ring_2, b_check_ring_3, b_check_ring_4, Bool.not_true, Bool.not_false, Bool.false_xor, Bool.true_xor, Bool.xor_false, Bool.xor_true, wpSL, wpS, wpE, wpL, wpA, wpJ, wpC, wpO, wpI, setD, setAll, setAllX, bindT, wipeE, List.set_cons_zero, List.set_cons_succ, List.getElem?_cons_zero, List.getElem?_cons_succ, e_fz, e_ow, e_st, e_int, e_int2, e_list, e_seqs1, e_seqs2, e_seq1, e_seq2, e_bool, e_kept0, e_kept1, e_add, e_cat, e_sub, e_mul, e_fdiv, e_mod, e_pow, e_catL, e_catT, e_repL, e_repT, e_eqI, e_eqS, e_neI, e_neS, e_lt, e_le, e_gt, e_ge, e_ltT, e_ixL, e_ixT, e_slL, e_slT, e_lenL, e_lenT, e_abs, e_intI, e_intB, e_str, e_max, e_min, e_repr, e_any, e_all, e_sum, e_listL, e_listT, e_tupL, e_tupT, e_n0, e_n1, e_n2, e_n3, e_n4, e_n5, e_memT, e_sset, e_lset, e_fI, e_fS, e_memL, e_ord, e_eqLL, e_eqL0, e_eqLT0, e_eqTT, e_neLL, e_neTT, e_neB, some_ex, if_tt, if_ff, List.length_map, if_true]
  unfold rBad at h0 h1
  have last : (adjF row = false → X (.cls 0) g) → (adjF row = true → Q .none g) → wpSL (Phi tb n) b_check_ring_5 [.fz (.int m), .fz (tI row), .un, .un] g X ⟨fun _ g => Q .none g, Q, fun _ _ => False, fun _ _ => False⟩ := fun a b => by
    simp only [b_check_ring_5, b_check_ring_6, Bool.not_true, Bool.not_false, Bool.false_xor, Bool.true_xor, Bool.xor_false, Bool.xor_true, wpSL, wpS, wpE, wpL, wpA, wpJ, wpC, wpO, wpI, setD, setAll, setAllX, bindT, wipeE, List.set_cons_zero, List.set_cons_succ, List.getElem?_cons_zero, List.getElem?_cons_succ, e_fz, e_ow, e_st, e_int, e_int2, e_list, e_seqs1, e_seqs2, e_seq1, e_seq2, e_bool, e_kept0, e_kept1, e_add, e_cat, e_sub, e_mul, e_fdiv, e_mod, e_pow, e_catL, e_catT, e_repL, e_repT, e_eqI, e_eqS, e_neI, e_neS, e_lt, e_le, e_gt, e_ge, e_ltT, e_ixL, e_ixT, e_slL, e_slT, e_lenL, e_lenT, e_abs, e_intI, e_intB, e_str, e_max, e_min, e_repr, e_any, e_all, e_sum, e_listL, e_listT, e_tupL, e_tupT, e_n0, e_n1, e_n2, e_n3, e_n4, e_n5, e_memT, e_sset, e_lset, e_fI, e_fS, e_memL, e_ord, e_eqLL, e_eqL0, e_eqLT0, e_eqTT, e_neLL, e_neTT, e_neB, some_ex, if_tt, if_ff, if_true]
    have ec : cutD (row.map PyData.int) (some 1) none = (row.drop 1).map PyData.int := by
      have := cut_from (row.map PyData.int) 1
      rw [show ((1 : Nat) : Int) = 1 from rfl] at this
      rw [this, List.map_drop]
    rw [ec, zip_ints]
    refine comp_map (fun p : Int × Int => PyData.tuple [.int p.1, .int p.2]) (fun p => PyData.bool (decide (p.1 < p.2))) (small' (by rw [List.length_zip]; omega)) (fun x hx K h => ?_) ?_
    · exact ⟨_, rfl, h⟩
    simp only [Bool.not_true, Bool.not_false, Bool.false_xor, Bool.true_xor, Bool.xor_false, Bool.xor_true, wpSL, wpS, wpE, wpL, wpA, wpJ, wpC, wpO, wpI, setD, setAll, setAllX, bindT, wipeE, List.set_cons_zero, List.set_cons_succ, List.getElem?_cons_zero, List.getElem?_cons_succ, e_fz, e_ow, e_st, e_int, e_int2, e_list, e_seqs1, e_seqs2, e_seq1, e_seq2, e_bool, e_kept0, e_kept1, e_add, e_cat, e_sub, e_mul, e_fdiv, e_mod, e_pow, e_catL, e_catT, e_repL, e_repT, e_eqI, e_eqS, e_neI, e_neS, e_lt, e_le, e_gt, e_ge, e_ltT, e_ixL, e_ixT, e_slL, e_slT, e_lenL, e_lenT, e_abs, e_intI, e_intB, e_str, e_max, e_min, e_repr, e_any, e_all, e_sum, e_listL, e_listT, e_tupL, e_tupT, e_n0, e_n1, e_n2, e_n3, e_n4, e_n5, e_memT, e_sset, e_lset, e_fI, e_fS, e_memL, e_ord, e_eqLL, e_eqL0, e_eqLT0, e_eqTT, e_neLL, e_neTT, e_neB, some_ex, if_tt, if_ff]
    show if (!adjF row) = true then _ else _
    cases q : adjF row with
    | true => exact b q
    | false => exact a q
  have mid : ((decide ((row.length : Int) = 0) || !inF m row) = true → X (.cls 0) g) → ((decide ((row.length : Int) = 0) || !inF m row) = false → wpSL (Phi tb n) b_check_ring_5 [.fz (.int m), .fz (tI row), .un, .un] g X ⟨fun _ g => Q .none g, Q, fun _ _ => False, fun _ _ => False⟩) → (if decide ((row.length : Int) = 0) = true then X (.cls 0) g else loopC (fun d g k => cmpD Cmp.le (PyData.int 0) d fun z => onBool (fun t g3 => if t = true then cmpD Cmp.lt d (PyData.int m) fun r => k (some r) g3 else k (some (PyData.bool false)) g3) z g) (row.map PyData.int) [] g fun r g1 => fnD Fn.all [PyData.list r] fun z => onBool (fun t g1 => if (!t) = true then X (Ex.cls 0) g1 else wpSL (Phi tb n) b_check_ring_5 [.fz (.int m), .fz (tI row), .un, .un] g1 X ⟨fun _ g => Q .none g, Q, fun _ _ => False, fun _ _ => False⟩) z g1) := fun a b => by
    by_cases q : (row.length : Int) = 0
    · rw [if_pos (decide_eq_true q)]
      exact a (by rw [decide_eq_true q]; rfl)
    · rw [if_neg (by rw [decide_eq_true_eq]; exact q)]
      rw [decide_eq_false q, Bool.false_or] at a b
      refine A ?_
      simp only [Bool.not_true, Bool.not_false, Bool.false_xor, Bool.true_xor, Bool.xor_false, Bool.xor_true, wpSL, wpS, wpE, wpL, wpA, wpJ, wpC, wpO, wpI, setD, setAll, setAllX, bindT, wipeE, List.set_cons_zero, List.set_cons_succ, List.getElem?_cons_zero, List.getElem?_cons_succ, e_fz, e_ow, e_st, e_int, e_int2, e_list, e_seqs1, e_seqs2, e_seq1, e_seq2, e_bool, e_kept0, e_kept1, e_add, e_cat, e_sub, e_mul, e_fdiv, e_mod, e_pow, e_catL, e_catT, e_repL, e_repT, e_eqI, e_eqS, e_neI, e_neS, e_lt, e_le, e_gt, e_ge, e_ltT, e_ixL, e_ixT, e_slL, e_slT, e_lenL, e_lenT, e_abs, e_intI, e_intB, e_str, e_max, e_min, e_repr, e_any, e_all, e_sum, e_listL, e_listT, e_tupL, e_tupT, e_n0, e_n1, e_n2, e_n3, e_n4, e_n5, e_memT, e_sset, e_lset, e_fI, e_fS, e_memL, e_ord, e_eqLL, e_eqL0, e_eqLT0, e_eqTT, e_neLL, e_neTT, e_neB, some_ex, if_tt, if_ff]
      show if (!inF m row) = true then _ else _
      cases q2 : inF m row with
      | true => exact b (by rw [q2]; rfl)
      | false => exact a (by rw [q2]; rfl)
  revert h0 h1
  cases decide (1 ≤ m) with
  | false => intro h0 h1; exact h1 rfl
  | true =>
    cases decide (m ≤ 60) with
    | false => intro h0 h1; exact h1 rfl
    | true =>
      intro h0 h1
      exact mid (fun q => h1 (by rw [q]; rfl)) fun q => last (fun q2 => h1 (by rw [q, q2]; rfl)) fun q2 => h0 (by rw [q, q2]; rfl)
theorem rBad_ok {m : Int} {row : List Int} (h1 : 1 ≤ m) (h2 : m ≤ 60) (hne : row ≠ []) (hin : ∀ x ∈ row, 0 ≤ x ∧ x < m) (hp : row.Pairwise (· < ·)) : rBad m row = false := by
  have e1 : inF m row = true := by
    unfold inF
    rw [List.all_eq_true]
    intro x hx
    rw [decide_eq_true (hin x hx).1, decide_eq_true (hin x hx).2]; rfl
  have := List.length_pos_iff.mpr hne
  unfold rBad
  rw [decide_eq_true h1, decide_eq_true h2, e1, adj_of hp, decide_eq_false (by omega)]; rfl
theorem comp2_apart {m : Int} {row : List Int} (hm : m ≠ 0) (hl : row.length ≤ 60) {P : List D → Nat → Prop} (h : P ((apartF m row).map PyData.int) g) : loopN (fun d acc g k => loopC (fun d_1 g k => cmpD Cmp.ne d d_1 fun z => onBool (fun t g1 => if t = true then binD Bin.sub d d_1 fun z => binD Bin.mod z (PyData.int m) fun z => k (some z) g1 else k none g1) z g) (row.map PyData.int) acc g k) (row.map PyData.int) [] g P := by
  have b1 := apart_len m row
  have b3 : row.length * row.length ≤ 60 * 60 := Nat.mul_le_mul hl hl
  refine loopN_flat PyData.int (fun one => (rowA m row one).map PyData.int) g 3600 row [] ?_ (fun one hone acc K hacc hK => ?_) ?_
  · have e : row.flatMap (fun one => (rowA m row one).map PyData.int) = (apartF m row).map PyData.int := by
      unfold apartF
      rw [List.map_flatMap]
    rw [e, List.length_map, List.length_nil]; omega
  · have e : (rowA m row one).map PyData.int = (row.filter fun other => !decide (one = other)).map fun other => PyData.int ((one - other).fmod m) := by
      unfold rowA
      rw [List.map_map]
      have : (fun other : Int => !decide (other = one)) = fun other => !decide (one = other) := by
        funext o
        by_cases q : o = one
        · rw [decide_eq_true q, decide_eq_true q.symm]
        · rw [decide_eq_false q, decide_eq_false fun h => q h.symm]
      rw [this]; rfl
    rw [e] at hK
    rw [List.length_map] at hacc
    refine loopC_fil PyData.int (fun other => !decide (one = other)) (fun other => PyData.int ((one - other).fmod m)) g row acc (small' (by omega)) (fun x hx K a b => ?_) hK
    simp only [Bool.not_true, Bool.not_false, Bool.false_xor, Bool.true_xor, Bool.xor_false, Bool.xor_true, wpSL, wpS, wpE, wpL, wpA, wpJ, wpC, wpO, wpI, setD, setAll, setAllX, bindT, wipeE, List.set_cons_zero, List.set_cons_succ, List.getElem?_cons_zero, List.getElem?_cons_succ, e_fz, e_ow, e_st, e_int, e_int2, e_list, e_seqs1, e_seqs2, e_seq1, e_seq2, e_bool, e_kept0, e_kept1, e_add, e_cat, e_sub, e_mul, e_fdiv, e_mod, e_pow, e_catL, e_catT, e_repL, e_repT, e_eqI, e_eqS, e_neI, e_neS, e_lt, e_le, e_gt, e_ge, e_ltT, e_ixL, e_ixT, e_slL, e_slT, e_lenL, e_lenT, e_abs, e_intI, e_intB, e_str, e_max, e_min, e_repr, e_any, e_all, e_sum, e_listL, e_listT, e_tupL, e_tupT, e_n0, e_n1, e_n2, e_n3, e_n4, e_n5, e_memT, e_sset, e_lset, e_fI, e_fS, e_memL, e_ord, e_eqLL, e_eqL0, e_eqLT0, e_eqTT, e_neLL, e_neTT, e_neB, some_ex, if_tt, if_ff]
    split
    · next q => exact ⟨hm, a q⟩
    · next q => exact b (eq_false_of_ne_true q)
  · have e : [] ++ row.flatMap (fun one => (rowA m row one).map PyData.int) = (apartF m row).map PyData.int := by
      unfold apartF
      rw [List.nil_append, List.map_flatMap]
    rw [e]
    exact h
theorem s_unlike {m : Int} {row : List Int} (hl : row.length ≤ 60) (hb : rBad m row = false) (h : Q (.bool (fitsF m row)) g) : Phi tb (n + 2) 10 [.fz (.int m), .fz (tI row)] g X Q := by
  have hm : m ≠ 0 := fun e => by rw [e] at hb; cases hb
  refine phi_is_ring_unlike ?_
  simp only [b_is_ring_unlike, b_is_ring_unlike_1, b_is_ring_unlike_2, Bool.not_true, Bool.not_false, Bool.false_xor, Bool.true_xor, Bool.xor_false, Bool.xor_true, wpSL, wpS, wpE, wpL, wpA, wpJ, wpC, wpO, wpI, setD, setAll, setAllX, bindT, wipeE, List.set_cons_zero, List.set_cons_succ, List.getElem?_cons_zero, List.getElem?_cons_succ, e_fz, e_ow, e_st, e_int, e_int2, e_list, e_seqs1, e_seqs2, e_seq1, e_seq2, e_bool, e_kept0, e_kept1, e_add, e_cat, e_sub, e_mul, e_fdiv, e_mod, e_pow, e_catL, e_catT, e_repL, e_repT, e_eqI, e_eqS, e_neI, e_neS, e_lt, e_le, e_gt, e_ge, e_ltT, e_ixL, e_ixT, e_slL, e_slT, e_lenL, e_lenT, e_abs, e_intI, e_intB, e_str, e_max, e_min, e_repr, e_any, e_all, e_sum, e_listL, e_listT, e_tupL, e_tupT, e_n0, e_n1, e_n2, e_n3, e_n4, e_n5, e_memT, e_sset, e_lset, e_fI, e_fS, e_memL, e_ord, e_eqLL, e_eqL0, e_eqLT0, e_eqTT, e_neLL, e_neTT, e_neB, some_ex, if_tt, if_ff, if_true]
  refine s_check_ring (by omega) (fun _ => ?_) fun q => by rw [hb] at q; cases q
  refine comp2_apart hm hl ?_
  simp only [b_is_ring_unlike_3, Bool.not_true, Bool.not_false, Bool.false_xor, Bool.true_xor, Bool.xor_false, Bool.xor_true, wpSL, wpS, wpE, wpL, wpA, wpJ, wpC, wpO, wpI, setD, setAll, setAllX, bindT, wipeE, List.set_cons_zero, List.set_cons_succ, List.getElem?_cons_zero, List.getElem?_cons_succ, e_fz, e_ow, e_st, e_int, e_int2, e_list, e_seqs1, e_seqs2, e_seq1, e_seq2, e_bool, e_kept0, e_kept1, e_add, e_cat, e_sub, e_mul, e_fdiv, e_mod, e_pow, e_catL, e_catT, e_repL, e_repT, e_eqI, e_eqS, e_neI, e_neS, e_lt, e_le, e_gt, e_ge, e_ltT, e_ixL, e_ixT, e_slL, e_slT, e_lenL, e_lenT, e_abs, e_intI, e_intB, e_str, e_max, e_min, e_repr, e_any, e_all, e_sum, e_listL, e_listT, e_tupL, e_tupT, e_n0, e_n1, e_n2, e_n3, e_n4, e_n5, e_memT, e_sset, e_lset, e_fI, e_fS, e_memL, e_ord, e_eqLL, e_eqL0, e_eqLT0, e_eqTT, e_neLL, e_neTT, e_neB, some_ex, if_tt, if_ff, List.length_map]
  have b1 := apart_len m row
  have b3 : row.length * row.length ≤ 60 * 60 := Nat.mul_le_mul hl hl
  exact ⟨by omega, h⟩
theorem s_perfect {m : Int} {row : List Int} (hl : row.length ≤ 60) (hb : rBad m row = false) (hm2 : m ≤ 60) (h : Q (.bool (pastF m row)) g) : Phi tb (n + 2) 11 [.fz (.int m), .fz (tI row)] g X Q := by
  have hm : m ≠ 0 := fun e => by rw [e] at hb; cases hb
  have hm1 : 1 ≤ m := by
    by_cases q : 1 ≤ m
    · exact q
    · unfold rBad at hb
      rw [decide_eq_false q] at hb; cases hb
  refine phi_is_ring_perfect ?_
  simp only [b_is_ring_perfect, b_is_ring_perfect_1, b_is_ring_perfect_2, Bool.not_true, Bool.not_false, Bool.false_xor, Bool.true_xor, Bool.xor_false, Bool.xor_true, wpSL, wpS, wpE, wpL, wpA, wpJ, wpC, wpO, wpI, setD, setAll, setAllX, bindT, wipeE, List.set_cons_zero, List.set_cons_succ, List.getElem?_cons_zero, List.getElem?_cons_succ, e_fz, e_ow, e_st, e_int, e_int2, e_list, e_seqs1, e_seqs2, e_seq1, e_seq2, e_bool, e_kept0, e_kept1, e_add, e_cat, e_sub, e_mul, e_fdiv, e_mod, e_pow, e_catL, e_catT, e_repL, e_repT, e_eqI, e_eqS, e_neI, e_neS, e_lt, e_le, e_gt, e_ge, e_ltT, e_ixL, e_ixT, e_slL, e_slT, e_lenL, e_lenT, e_abs, e_intI, e_intB, e_str, e_max, e_min, e_repr, e_any, e_all, e_sum, e_listL, e_listT, e_tupL, e_tupT, e_n0, e_n1, e_n2, e_n3, e_n4, e_n5, e_memT, e_sset, e_lset, e_fI, e_fS, e_memL, e_ord, e_eqLL, e_eqL0, e_eqLT0, e_eqTT, e_neLL, e_neTT, e_neB, some_ex, if_tt, if_ff, if_true]
  refine s_check_ring (by omega) (fun _ => ?_) fun q => by rw [hb] at q; cases q
  refine comp2_apart hm hl ?_
  simp only [b_is_ring_perfect_3, Bool.not_true, Bool.not_false, Bool.false_xor, Bool.true_xor, Bool.xor_false, Bool.xor_true, wpSL, wpS, wpE, wpL, wpA, wpJ, wpC, wpO, wpI, setD, setAll, setAllX, bindT, wipeE, List.set_cons_zero, List.set_cons_succ, List.getElem?_cons_zero, List.getElem?_cons_succ, e_fz, e_ow, e_st, e_int, e_int2, e_list, e_seqs1, e_seqs2, e_seq1, e_seq2, e_bool, e_kept0, e_kept1, e_add, e_cat, e_sub, e_mul, e_fdiv, e_mod, e_pow, e_catL, e_catT, e_repL, e_repT, e_eqI, e_eqS, e_neI, e_neS, e_lt, e_le, e_gt, e_ge, e_ltT, e_ixL, e_ixT, e_slL, e_slT, e_lenL, e_lenT, e_abs, e_intI, e_intB, e_str, e_max, e_min, e_repr, e_any, e_all, e_sum, e_listL, e_listT, e_tupL, e_tupT, e_n0, e_n1, e_n2, e_n3, e_n4, e_n5, e_memT, e_sset, e_lset, e_fI, e_fS, e_memL, e_ord, e_eqLL, e_eqL0, e_eqLT0, e_eqTT, e_neLL, e_neTT, e_neB, some_ex, if_tt, if_ff, Bool.false_eq_true, if_false]
  refine ⟨⟨by decide, by decide, by omega, by omega, by omega⟩, ?_⟩
  rw [rng_map]
  simp only [Bool.not_true, Bool.not_false, Bool.false_xor, Bool.true_xor, Bool.xor_false, Bool.xor_true, wpSL, wpS, wpE, wpL, wpA, wpJ, wpC, wpO, wpI, setD, setAll, setAllX, bindT, wipeE, List.set_cons_zero, List.set_cons_succ, List.getElem?_cons_zero, List.getElem?_cons_succ, e_fz, e_ow, e_st, e_int, e_int2, e_list, e_seqs1, e_seqs2, e_seq1, e_seq2, e_bool, e_kept0, e_kept1, e_add, e_cat, e_sub, e_mul, e_fdiv, e_mod, e_pow, e_catL, e_catT, e_repL, e_repT, e_eqI, e_eqS, e_neI, e_neS, e_lt, e_le, e_gt, e_ge, e_ltT, e_ixL, e_ixT, e_slL, e_slT, e_lenL, e_lenT, e_abs, e_intI, e_intB, e_str, e_max, e_min, e_repr, e_any, e_all, e_sum, e_listL, e_listT, e_tupL, e_tupT, e_n0, e_n1, e_n2, e_n3, e_n4, e_n5, e_memT, e_sset, e_lset, e_fI, e_fS, e_memL, e_ord, e_eqLL, e_eqL0, e_eqLT0, e_eqTT, e_neLL, e_neTT, e_neB, some_ex, if_tt, if_ff]
  exact h
theorem s_unlike_no {m : Int} {row : List Int} (hl : row.length ≤ 60) (hb : rBad m row = true) (h : X (.cls 0) g) : Phi tb (n + 2) 10 [.fz (.int m), .fz (tI row)] g X Q := by
  refine phi_is_ring_unlike ?_
  simp only [b_is_ring_unlike, b_is_ring_unlike_1, Bool.not_true, Bool.not_false, Bool.false_xor, Bool.true_xor, Bool.xor_false, Bool.xor_true, wpSL, wpS, wpE, wpL, wpA, wpJ, wpC, wpO, wpI, setD, setAll, setAllX, bindT, wipeE, List.set_cons_zero, List.set_cons_succ, List.getElem?_cons_zero, List.getElem?_cons_succ, e_fz, e_ow, e_st, e_int, e_int2, e_list, e_seqs1, e_seqs2, e_seq1, e_seq2, e_bool, e_kept0, e_kept1, e_add, e_cat, e_sub, e_mul, e_fdiv, e_mod, e_pow, e_catL, e_catT, e_repL, e_repT, e_eqI, e_eqS, e_neI, e_neS, e_lt, e_le, e_gt, e_ge, e_ltT, e_ixL, e_ixT, e_slL, e_slT, e_lenL, e_lenT, e_abs, e_intI, e_intB, e_str, e_max, e_min, e_repr, e_any, e_all, e_sum, e_listL, e_listT, e_tupL, e_tupT, e_n0, e_n1, e_n2, e_n3, e_n4, e_n5, e_memT, e_sset, e_lset, e_fI, e_fS, e_memL, e_ord, e_eqLL, e_eqL0, e_eqLT0, e_eqTT, e_neLL, e_neTT, e_neB, some_ex, if_tt, if_ff]
  exact s_check_ring (by omega) (fun q => by rw [hb] at q; cases q) fun _ => h
theorem s_perfect_no {m : Int} {row : List Int} (hl : row.length ≤ 60) (hb : rBad m row = true) (h : X (.cls 0) g) : Phi tb (n + 2) 11 [.fz (.int m), .fz (tI row)] g X Q := by
  refine phi_is_ring_perfect ?_
  simp only [b_is_ring_perfect, b_is_ring_perfect_1, Bool.not_true, Bool.not_false, Bool.false_xor, Bool.true_xor, Bool.xor_false, Bool.xor_true, wpSL, wpS, wpE, wpL, wpA, wpJ, wpC, wpO, wpI, setD, setAll, setAllX, bindT, wipeE, List.set_cons_zero, List.set_cons_succ, List.getElem?_cons_zero, List.getElem?_cons_succ, e_fz, e_ow, e_st, e_int, e_int2, e_list, e_seqs1, e_seqs2, e_seq1, e_seq2, e_bool, e_kept0, e_kept1, e_add, e_cat, e_sub, e_mul, e_fdiv, e_mod, e_pow, e_catL, e_catT, e_repL, e_repT, e_eqI, e_eqS, e_neI, e_neS, e_lt, e_le, e_gt, e_ge, e_ltT, e_ixL, e_ixT, e_slL, e_slT, e_lenL, e_lenT, e_abs, e_intI, e_intB, e_str, e_max, e_min, e_repr, e_any, e_all, e_sum, e_listL, e_listT, e_tupL, e_tupT, e_n0, e_n1, e_n2, e_n3, e_n4, e_n5, e_memT, e_sset, e_lset, e_fI, e_fS, e_memL, e_ord, e_eqLL, e_eqL0, e_eqLT0, e_eqTT, e_neLL, e_neTT, e_neB, some_ex, if_tt, if_ff]
  exact s_check_ring (by omega) (fun q => by rw [hb] at q; cases q) fun _ => h
theorem s_most_no {m : Int} (hb : m < 1 ∨ 31 < m) (h : X (.cls 0) g) : Phi tb (n + 1) 12 [.fz (.int m)] g X Q := by
  refine phi_ring_most ?_
  simp only [b_ring_most, b_ring_most_1, b_ring_most_2, Bool.not_true, Bool.not_false, Bool.false_xor, Bool.true_xor, Bool.xor_false, Bool.xor_true, wpSL, wpS, wpE, wpL, wpA, wpJ, wpC, wpO, wpI, setD, setAll, setAllX, bindT, wipeE, List.set_cons_zero, List.set_cons_succ, List.getElem?_cons_zero, List.getElem?_cons_succ, e_fz, e_ow, e_st, e_int, e_int2, e_list, e_seqs1, e_seqs2, e_seq1, e_seq2, e_bool, e_kept0, e_kept1, e_add, e_cat, e_sub, e_mul, e_fdiv, e_mod, e_pow, e_catL, e_catT, e_repL, e_repT, e_eqI, e_eqS, e_neI, e_neS, e_lt, e_le, e_gt, e_ge, e_ltT, e_ixL, e_ixT, e_slL, e_slT, e_lenL, e_lenT, e_abs, e_intI, e_intB, e_str, e_max, e_min, e_repr, e_any, e_all, e_sum, e_listL, e_listT, e_tupL, e_tupT, e_n0, e_n1, e_n2, e_n3, e_n4, e_n5, e_memT, e_sset, e_lset, e_fI, e_fS, e_memL, e_ord, e_eqLL, e_eqL0, e_eqLT0, e_eqTT, e_neLL, e_neTT, e_neB, some_ex, if_tt, if_ff]
  by_cases q : 1 ≤ m
  · rw [if_pos (decide_eq_true q), decide_eq_false (by omega)]
    exact h
  · rw [if_neg (by rw [decide_eq_true_eq]; exact q)]
    exact h
theorem s_pof_no {m : Int} (hb : m < 2 ∨ 6 < m) (h : X (.cls 0) g) : Phi tb (n + 1) 6 [.fz (.int m)] g X Q := by
  refine phi_perfect_of ?_
  simp only [b_perfect_of, b_perfect_of_1, b_perfect_of_2, Bool.not_true, Bool.not_false, Bool.false_xor, Bool.true_xor, Bool.xor_false, Bool.xor_true, wpSL, wpS, wpE, wpL, wpA, wpJ, wpC, wpO, wpI, setD, setAll, setAllX, bindT, wipeE, List.set_cons_zero, List.set_cons_succ, List.getElem?_cons_zero, List.getElem?_cons_succ, e_fz, e_ow, e_st, e_int, e_int2, e_list, e_seqs1, e_seqs2, e_seq1, e_seq2, e_bool, e_kept0, e_kept1, e_add, e_cat, e_sub, e_mul, e_fdiv, e_mod, e_pow, e_catL, e_catT, e_repL, e_repT, e_eqI, e_eqS, e_neI, e_neS, e_lt, e_le, e_gt, e_ge, e_ltT, e_ixL, e_ixT, e_slL, e_slT, e_lenL, e_lenT, e_abs, e_intI, e_intB, e_str, e_max, e_min, e_repr, e_any, e_all, e_sum, e_listL, e_listT, e_tupL, e_tupT, e_n0, e_n1, e_n2, e_n3, e_n4, e_n5, e_memT, e_sset, e_lset, e_fI, e_fS, e_memL, e_ord, e_eqLL, e_eqL0, e_eqLT0, e_eqTT, e_neLL, e_neTT, e_neB, some_ex, if_tt, if_ff]
  by_cases q : 2 ≤ m
  · rw [if_pos (decide_eq_true q), decide_eq_false (by omega)]
    exact h
  · rw [if_neg (by rw [decide_eq_true_eq]; exact q)]
    exact h
end Dz
set_option Elab.async false
set_option linter.all false
set_option maxRecDepth 100000
/-! k09: the law's own small defs. -/
namespace Dz
open PySem
variable {n g : Nat} {X : XR} {Q : Rs}
theorem s_law_same {d : D} (hs : Shw 10000000 d) (h : Q (.bool true) g) : Phi tb (n + 1) 5 [.fz d, .fz d] g X Q := by
  refine phi_law_same ?_
  simp only [b_law_same, b_law_same_1, Bool.not_true, Bool.not_false, Bool.false_xor, Bool.true_xor, Bool.xor_false, Bool.xor_true, wpSL, wpS, wpE, wpL, wpA, wpJ, wpC, wpO, wpI, setD, setAll, setAllX, bindT, wipeE, List.set_cons_zero, List.set_cons_succ, List.getElem?_cons_zero, List.getElem?_cons_succ, e_fz, e_ow, e_st, e_int, e_int2, e_list, e_seqs1, e_seqs2, e_seq1, e_seq2, e_bool, e_kept0, e_kept1, e_add, e_cat, e_sub, e_mul, e_fdiv, e_mod, e_pow, e_catL, e_catT, e_repL, e_repT, e_eqI, e_eqS, e_neI, e_neS, e_lt, e_le, e_gt, e_ge, e_ltT, e_ixL, e_ixT, e_slL, e_slT, e_lenL, e_lenT, e_abs, e_intI, e_intB, e_str, e_max, e_min, e_repr, e_any, e_all, e_sum, e_listL, e_listT, e_tupL, e_tupT, e_n0, e_n1, e_n2, e_n3, e_n4, e_n5, e_memT, e_sset, e_lset, e_fI, e_fS, e_memL, e_ord, e_eqLL, e_eqL0, e_eqLT0, e_eqTT, e_neLL, e_neTT, e_neB, some_ex, if_tt, if_ff]
  obtain ⟨h1, h2, h3, h4⟩ := hs
  have one : [d].length ≤ sizeLine := by rw [sizeLine_eq]; show 1 ≤ 16777216; decide
  have a1 : (PyData.list [d]).showable = true := by simp only [PyData.showable, PyData.showableAll, h1, Bool.and_self]
  have a2 : (PyData.list [d]).hasDict = false := by simp only [PyData.hasDict, PyData.hasDictAll, h2, Bool.or_self]
  have a3 : (PyData.list [d]).depth < 50 := by
    simp only [PyData.depth, PyData.depthAll]
    omega
  have a4 : (PyData.list [d]).shown.length ≤ sizeLine := by
    refine Nat.le_trans (shown_le _ a1 a2) ?_
    simp only [siz, sizA]
    rw [sizeLine_eq]
    omega
  refine ⟨one, ⟨a1, a3, a2, a4⟩, one, ⟨a1, a3, a2, a4⟩, ?_⟩
  exact h
theorem s_law_stream {ns : List Int} (hl : ns.length ≤ 63) (h : ∀ (x : Int) (xs : List Int), xs.length < 10000 → Q (.list (.int x :: xs.map PyData.int)) g) : Phi tb (n + 1) 0 [.fz (.list (ns.map PyData.int))] g X Q := by
  refine phi_law_stream ?_
  simp only [b_law_stream, b_law_stream_1, b_law_stream_2, Bool.not_true, Bool.not_false, Bool.false_xor, Bool.true_xor, Bool.xor_false, Bool.xor_true, wpSL, wpS, wpE, wpL, wpA, wpJ, wpC, wpO, wpI, setD, setAll, setAllX, bindT, wipeE, List.set_cons_zero, List.set_cons_succ, List.getElem?_cons_zero, List.getElem?_cons_succ, e_fz, e_ow, e_st, e_int, e_int2, e_list, e_seqs1, e_seqs2, e_seq1, e_seq2, e_bool, e_kept0, e_kept1, e_add, e_cat, e_sub, e_mul, e_fdiv, e_mod, e_pow, e_catL, e_catT, e_repL, e_repT, e_eqI, e_eqS, e_neI, e_neS, e_lt, e_le, e_gt, e_ge, e_ltT, e_ixL, e_ixT, e_slL, e_slT, e_lenL, e_lenT, e_abs, e_intI, e_intB, e_str, e_max, e_min, e_repr, e_any, e_all, e_sum, e_listL, e_listT, e_tupL, e_tupT, e_n0, e_n1, e_n2, e_n3, e_n4, e_n5, e_memT, e_sset, e_lset, e_fI, e_fS, e_memL, e_ord, e_eqLL, e_eqL0, e_eqLT0, e_eqTT, e_neLL, e_neTT, e_neB, some_ex, if_tt, if_ff]
  refine ⟨Nat.zero_le _, ?_⟩
  have cut : cutD (ns.map PyData.int) none (some 63) = ns.map PyData.int := by
    have e := cut_to (ns.map PyData.int) 63
    rw [List.take_of_length_le (by rw [List.length_map]; exact hl)] at e
    exact e
  rw [cut]
  refine for_inv (fun i ρ g' => g' = g ∧ ∃ (xs : List Int) (s2 s3 s4 s5 : SV), ρ = [.fz (.list (ns.map PyData.int)), .ow (.list (xs.map PyData.int)), s2, s3, s4, s5] ∧ xs.length ≤ 60 * i) ⟨rfl, [], _, _, _, _, rfl, Nat.zero_le _⟩ ?_ ?_
  · rintro i d ρ g' nx hd ⟨rfl, xs, s2, s3, s4, s5, rfl, hx⟩ hn
    have hi : i < 63 := by
      have := (List.getElem?_eq_some_iff.mp hd).1
      rw [List.length_map] at this
      omega
    obtain ⟨z, hz, rfl⟩ : ∃ z : Int, ns[i]? = some z ∧ d = .int z := by
      rw [List.getElem?_map] at hd
      cases e : ns[i]? with
      | none => rw [e] at hd; cases hd
      | some z => rw [e] at hd; exact ⟨z, rfl, (Option.some.inj hd).symm⟩
    refine ⟨_, rfl, ?_⟩
    simp only [b_law_stream_3, b_law_stream_4, Bool.not_true, Bool.not_false, Bool.false_xor, Bool.true_xor, Bool.xor_false, Bool.xor_true, wpSL, wpS, wpE, wpL, wpA, wpJ, wpC, wpO, wpI, setD, setAll, setAllX, bindT, wipeE, List.set_cons_zero, List.set_cons_succ, List.getElem?_cons_zero, List.getElem?_cons_succ, e_fz, e_ow, e_st, e_int, e_int2, e_list, e_seqs1, e_seqs2, e_seq1, e_seq2, e_bool, e_kept0, e_kept1, e_add, e_cat, e_sub, e_mul, e_fdiv, e_mod, e_pow, e_catL, e_catT, e_repL, e_repT, e_eqI, e_eqS, e_neI, e_neS, e_lt, e_le, e_gt, e_ge, e_ltT, e_ixL, e_ixT, e_slL, e_slT, e_lenL, e_lenT, e_abs, e_intI, e_intB, e_str, e_max, e_min, e_repr, e_any, e_all, e_sum, e_listL, e_listT, e_tupL, e_tupT, e_n0, e_n1, e_n2, e_n3, e_n4, e_n5, e_memT, e_sset, e_lset, e_fI, e_fS, e_memL, e_ord, e_eqLL, e_eqL0, e_eqLT0, e_eqTT, e_neLL, e_neTT, e_neB, some_ex, if_tt, if_ff]
    refine ⟨⟨by decide, by decide, by decide⟩, ?_⟩
    generalize (if z < 0 then -z else z) = r0
    split
    · -- great numbers
      simp only [b_law_stream_5, Bool.not_true, Bool.not_false, Bool.false_xor, Bool.true_xor, Bool.xor_false, Bool.xor_true, wpSL, wpS, wpE, wpL, wpA, wpJ, wpC, wpO, wpI, setD, setAll, setAllX, bindT, wipeE, List.set_cons_zero, List.set_cons_succ, List.getElem?_cons_zero, List.getElem?_cons_succ, e_fz, e_ow, e_st, e_int, e_int2, e_list, e_seqs1, e_seqs2, e_seq1, e_seq2, e_bool, e_kept0, e_kept1, e_add, e_cat, e_sub, e_mul, e_fdiv, e_mod, e_pow, e_catL, e_catT, e_repL, e_repT, e_eqI, e_eqS, e_neI, e_neS, e_lt, e_le, e_gt, e_ge, e_ltT, e_ixL, e_ixT, e_slL, e_slT, e_lenL, e_lenT, e_abs, e_intI, e_intB, e_str, e_max, e_min, e_repr, e_any, e_all, e_sum, e_listL, e_listT, e_tupL, e_tupT, e_n0, e_n1, e_n2, e_n3, e_n4, e_n5, e_memT, e_sset, e_lset, e_fI, e_fS, e_memL, e_ord, e_eqLL, e_eqL0, e_eqLT0, e_eqTT, e_neLL, e_neTT, e_neB, some_ex, if_tt, if_ff]
      refine ⟨by decide, for_inv (fun j ρ g2 => g2 = g' ∧ ∃ (ys : List Int) (r : Int) (s4 : SV), ρ = [.fz (.list (ns.map PyData.int)), .ow (.list (ys.map PyData.int)), .fz (.int z), .fz (.int r), s4, s5] ∧ ys.length = xs.length + j) ⟨rfl, xs, _, _, rfl, rfl⟩ ?_ ?_⟩
      · rintro j d ρ g2 nx2 hd ⟨rfl, ys, r, s4, rfl, hy⟩ hn2
        obtain ⟨rfl, hj⟩ := rng_at hd
        refine ⟨_, rfl, ?_⟩
        simp only [b_law_stream_6, b_law_stream_7, b_law_stream_8, Bool.not_true, Bool.not_false, Bool.false_xor, Bool.true_xor, Bool.xor_false, Bool.xor_true, wpSL, wpS, wpE, wpL, wpA, wpJ, wpC, wpO, wpI, setD, setAll, setAllX, bindT, wipeE, List.set_cons_zero, List.set_cons_succ, List.getElem?_cons_zero, List.getElem?_cons_succ, e_fz, e_ow, e_st, e_int, e_int2, e_list, e_seqs1, e_seqs2, e_seq1, e_seq2, e_bool, e_kept0, e_kept1, e_add, e_cat, e_sub, e_mul, e_fdiv, e_mod, e_pow, e_catL, e_catT, e_repL, e_repT, e_eqI, e_eqS, e_neI, e_neS, e_lt, e_le, e_gt, e_ge, e_ltT, e_ixL, e_ixT, e_slL, e_slT, e_lenL, e_lenT, e_abs, e_intI, e_intB, e_str, e_max, e_min, e_repr, e_any, e_all, e_sum, e_listL, e_listT, e_tupL, e_tupT, e_n0, e_n1, e_n2, e_n3, e_n4, e_n5, e_memT, e_sset, e_lset, e_fI, e_fS, e_memL, e_ord, e_eqLL, e_eqL0, e_eqLT0, e_eqTT, e_neLL, e_neTT, e_neB, some_ex, if_tt, if_ff]
        refine ⟨by decide, line_lt (by rw [List.length_map]; omega), ⟨by decide, by decide⟩, ?_⟩
        have e : ys.map PyData.int ++ [PyData.int (r.fmod 1009)] = (ys ++ [r.fmod 1009]).map PyData.int := by rw [List.map_append]; rfl
        rw [e]
        split
        · simp only [b_law_stream_9, Bool.not_true, Bool.not_false, Bool.false_xor, Bool.true_xor, Bool.xor_false, Bool.xor_true, wpSL, wpS, wpE, wpL, wpA, wpJ, wpC, wpO, wpI, setD, setAll, setAllX, bindT, wipeE, List.set_cons_zero, List.set_cons_succ, List.getElem?_cons_zero, List.getElem?_cons_succ, e_fz, e_ow, e_st, e_int, e_int2, e_list, e_seqs1, e_seqs2, e_seq1, e_seq2, e_bool, e_kept0, e_kept1, e_add, e_cat, e_sub, e_mul, e_fdiv, e_mod, e_pow, e_catL, e_catT, e_repL, e_repT, e_eqI, e_eqS, e_neI, e_neS, e_lt, e_le, e_gt, e_ge, e_ltT, e_ixL, e_ixT, e_slL, e_slT, e_lenL, e_lenT, e_abs, e_intI, e_intB, e_str, e_max, e_min, e_repr, e_any, e_all, e_sum, e_listL, e_listT, e_tupL, e_tupT, e_n0, e_n1, e_n2, e_n3, e_n4, e_n5, e_memT, e_sset, e_lset, e_fI, e_fS, e_memL, e_ord, e_eqLL, e_eqL0, e_eqLT0, e_eqTT, e_neLL, e_neTT, e_neB, some_ex, if_tt, if_ff]
          exact hn _ _ ⟨rfl, _, _, _, _, _, rfl, by rw [List.length_append, hy]; simp only [List.length_cons, List.length_nil]; omega⟩
        · exact hn2 _ _ ⟨rfl, _, _, _, rfl, by rw [List.length_append, hy]; rfl⟩
      · rintro ρ g2 ⟨rfl, ys, r, s4, rfl, hy⟩
        rw [rng_len] at hy
        exact hn _ _ ⟨rfl, _, _, _, _, _, rfl, by rw [hy]; simp only [Int.sub_zero]; omega⟩
    · simp only [b_law_stream_11, b_law_stream_12, Bool.not_true, Bool.not_false, Bool.false_xor, Bool.true_xor, Bool.xor_false, Bool.xor_true, wpSL, wpS, wpE, wpL, wpA, wpJ, wpC, wpO, wpI, setD, setAll, setAllX, bindT, wipeE, List.set_cons_zero, List.set_cons_succ, List.getElem?_cons_zero, List.getElem?_cons_succ, e_fz, e_ow, e_st, e_int, e_int2, e_list, e_seqs1, e_seqs2, e_seq1, e_seq2, e_bool, e_kept0, e_kept1, e_add, e_cat, e_sub, e_mul, e_fdiv, e_mod, e_pow, e_catL, e_catT, e_repL, e_repT, e_eqI, e_eqS, e_neI, e_neS, e_lt, e_le, e_gt, e_ge, e_ltT, e_ixL, e_ixT, e_slL, e_slT, e_lenL, e_lenT, e_abs, e_intI, e_intB, e_str, e_max, e_min, e_repr, e_any, e_all, e_sum, e_listL, e_listT, e_tupL, e_tupT, e_n0, e_n1, e_n2, e_n3, e_n4, e_n5, e_memT, e_sset, e_lset, e_fI, e_fS, e_memL, e_ord, e_eqLL, e_eqL0, e_eqLT0, e_eqTT, e_neLL, e_neTT, e_neB, some_ex, if_tt, if_ff]
      refine ⟨by decide, by decide, for_inv (fun j ρ g2 => g2 = g' ∧ ∃ (ys : List Int) (r : Int) (s3 s4 : SV), ρ = [.fz (.list (ns.map PyData.int)), .ow (.list (ys.map PyData.int)), .fz (.int z), s3, s4, .fz (.int r)] ∧ ys.length = xs.length + j) ⟨rfl, xs, _, _, _, rfl, rfl⟩ ?_ ?_⟩
      · rintro j d ρ g2 nx2 hd ⟨rfl, ys, r, s3, s4, rfl, hy⟩ hn2
        obtain ⟨rfl, hj⟩ := rng_at hd
        refine ⟨_, rfl, ?_⟩
        simp only [b_law_stream_13, b_law_stream_14, Bool.not_true, Bool.not_false, Bool.false_xor, Bool.true_xor, Bool.xor_false, Bool.xor_true, wpSL, wpS, wpE, wpL, wpA, wpJ, wpC, wpO, wpI, setD, setAll, setAllX, bindT, wipeE, List.set_cons_zero, List.set_cons_succ, List.getElem?_cons_zero, List.getElem?_cons_succ, e_fz, e_ow, e_st, e_int, e_int2, e_list, e_seqs1, e_seqs2, e_seq1, e_seq2, e_bool, e_kept0, e_kept1, e_add, e_cat, e_sub, e_mul, e_fdiv, e_mod, e_pow, e_catL, e_catT, e_repL, e_repT, e_eqI, e_eqS, e_neI, e_neS, e_lt, e_le, e_gt, e_ge, e_ltT, e_ixL, e_ixT, e_slL, e_slT, e_lenL, e_lenT, e_abs, e_intI, e_intB, e_str, e_max, e_min, e_repr, e_any, e_all, e_sum, e_listL, e_listT, e_tupL, e_tupT, e_n0, e_n1, e_n2, e_n3, e_n4, e_n5, e_memT, e_sset, e_lset, e_fI, e_fS, e_memL, e_ord, e_eqLL, e_eqL0, e_eqLT0, e_eqTT, e_neLL, e_neTT, e_neB, some_ex, if_tt, if_ff]
        refine ⟨.inr (.inl ⟨by decide, by decide⟩), .inl ⟨by decide, by decide⟩, by decide, .inr (.inl ⟨by decide, by decide⟩), by decide, by decide, line_lt (by rw [List.length_map]; omega), ?_⟩
        have e : ∀ v : Int, ys.map PyData.int ++ [PyData.int v] = (ys ++ [v]).map PyData.int := fun v => by rw [List.map_append]; rfl
        rw [e]
        exact hn2 _ _ ⟨rfl, _, _, _, _, rfl, by rw [List.length_append, hy]; rfl⟩
      · rintro ρ g2 ⟨rfl, ys, r, s3, s4, rfl, hy⟩
        rw [rng_len] at hy
        exact hn _ _ ⟨rfl, _, _, _, _, _, rfl, by rw [hy]; simp only [Int.sub_zero]; omega⟩
  · rintro ρ g' ⟨rfl, xs, s2, s3, s4, s5, rfl, hx⟩
    rw [List.length_map] at hx
    simp only [b_law_stream_15, Bool.not_true, Bool.not_false, Bool.false_xor, Bool.true_xor, Bool.xor_false, Bool.xor_true, wpSL, wpS, wpE, wpL, wpA, wpJ, wpC, wpO, wpI, setD, setAll, setAllX, bindT, wipeE, List.set_cons_zero, List.set_cons_succ, List.getElem?_cons_zero, List.getElem?_cons_succ, e_fz, e_ow, e_st, e_int, e_int2, e_list, e_seqs1, e_seqs2, e_seq1, e_seq2, e_bool, e_kept0, e_kept1, e_add, e_cat, e_sub, e_mul, e_fdiv, e_mod, e_pow, e_catL, e_catT, e_repL, e_repT, e_eqI, e_eqS, e_neI, e_neS, e_lt, e_le, e_gt, e_ge, e_ltT, e_ixL, e_ixT, e_slL, e_slT, e_lenL, e_lenT, e_abs, e_intI, e_intB, e_str, e_max, e_min, e_repr, e_any, e_all, e_sum, e_listL, e_listT, e_tupL, e_tupT, e_n0, e_n1, e_n2, e_n3, e_n4, e_n5, e_memT, e_sset, e_lset, e_fI, e_fS, e_memL, e_ord, e_eqLL, e_eqL0, e_eqLT0, e_eqTT, e_neLL, e_neTT, e_neB, some_ex, if_tt, if_ff]
    cases xs with
    | nil =>
      simp only [List.map_nil, List.length_nil]
      rw [if_pos (by decide)]
      simp only [b_law_stream_16, b_law_stream_17, Bool.not_true, Bool.not_false, Bool.false_xor, Bool.true_xor, Bool.xor_false, Bool.xor_true, wpSL, wpS, wpE, wpL, wpA, wpJ, wpC, wpO, wpI, setD, setAll, setAllX, bindT, wipeE, List.set_cons_zero, List.set_cons_succ, List.getElem?_cons_zero, List.getElem?_cons_succ, e_fz, e_ow, e_st, e_int, e_int2, e_list, e_seqs1, e_seqs2, e_seq1, e_seq2, e_bool, e_kept0, e_kept1, e_add, e_cat, e_sub, e_mul, e_fdiv, e_mod, e_pow, e_catL, e_catT, e_repL, e_repT, e_eqI, e_eqS, e_neI, e_neS, e_lt, e_le, e_gt, e_ge, e_ltT, e_ixL, e_ixT, e_slL, e_slT, e_lenL, e_lenT, e_abs, e_intI, e_intB, e_str, e_max, e_min, e_repr, e_any, e_all, e_sum, e_listL, e_listT, e_tupL, e_tupT, e_n0, e_n1, e_n2, e_n3, e_n4, e_n5, e_memT, e_sset, e_lset, e_fI, e_fS, e_memL, e_ord, e_eqLL, e_eqL0, e_eqLT0, e_eqTT, e_neLL, e_neTT, e_neB, some_ex, if_tt, if_ff]
      exact ⟨line_lt (by simp), h 0 [] (by simp)⟩
    | cons x xs =>
      rw [if_neg (by simp; omega)]
      simp only [b_law_stream_17, Bool.not_true, Bool.not_false, Bool.false_xor, Bool.true_xor, Bool.xor_false, Bool.xor_true, wpSL, wpS, wpE, wpL, wpA, wpJ, wpC, wpO, wpI, setD, setAll, setAllX, bindT, wipeE, List.set_cons_zero, List.set_cons_succ, List.getElem?_cons_zero, List.getElem?_cons_succ, e_fz, e_ow, e_st, e_int, e_int2, e_list, e_seqs1, e_seqs2, e_seq1, e_seq2, e_bool, e_kept0, e_kept1, e_add, e_cat, e_sub, e_mul, e_fdiv, e_mod, e_pow, e_catL, e_catT, e_repL, e_repT, e_eqI, e_eqS, e_neI, e_neS, e_lt, e_le, e_gt, e_ge, e_ltT, e_ixL, e_ixT, e_slL, e_slT, e_lenL, e_lenT, e_abs, e_intI, e_intB, e_str, e_max, e_min, e_repr, e_any, e_all, e_sum, e_listL, e_listT, e_tupL, e_tupT, e_n0, e_n1, e_n2, e_n3, e_n4, e_n5, e_memT, e_sset, e_lset, e_fI, e_fS, e_memL, e_ord, e_eqLL, e_eqL0, e_eqLT0, e_eqTT, e_neLL, e_neTT, e_neB, some_ex, if_tt, if_ff]
      exact h x xs (by rw [List.length_cons] at hx; omega)
theorem gcd_step {x y : Int} (hy : 0 < y) : Int.gcd y (x.fmod y) = Int.gcd x y := by
  rw [Int.fmod_eq_emod_of_nonneg _ (Int.le_of_lt hy), Int.gcd_comm y]
  refine Int.gcd_left_eq_iff.mpr fun c hc => ⟨fun h => ?_, fun h => ?_⟩
  · have := Int.dvd_add h (Int.dvd_mul_of_dvd_left hc (c := x / y))
    rwa [Int.emod_add_mul_ediv] at this
  · rw [Int.emod_def]
    exact Int.dvd_sub h (Int.dvd_mul_of_dvd_left hc (c := x / y))
theorem s_law_divisor {a b : Int} (h : Q (.int (Int.gcd a b)) g) : Phi tb (n + 1) 8 [.fz (.int a), .fz (.int b)] g X Q := by
  refine phi_law_divisor ?_
  simp only [b_law_divisor, b_law_divisor_1, b_law_divisor_2, b_law_divisor_3, Bool.not_true, Bool.not_false, Bool.false_xor, Bool.true_xor, Bool.xor_false, Bool.xor_true, wpSL, wpS, wpE, wpL, wpA, wpJ, wpC, wpO, wpI, setD, setAll, setAllX, bindT, wipeE, List.set_cons_zero, List.set_cons_succ, List.getElem?_cons_zero, List.getElem?_cons_succ, e_fz, e_ow, e_st, e_int, e_int2, e_list, e_seqs1, e_seqs2, e_seq1, e_seq2, e_bool, e_kept0, e_kept1, e_add, e_cat, e_sub, e_mul, e_fdiv, e_mod, e_pow, e_catL, e_catT, e_repL, e_repT, e_eqI, e_eqS, e_neI, e_neS, e_lt, e_le, e_gt, e_ge, e_ltT, e_ixL, e_ixT, e_slL, e_slT, e_lenL, e_lenT, e_abs, e_intI, e_intB, e_str, e_max, e_min, e_repr, e_any, e_all, e_sum, e_listL, e_listT, e_tupL, e_tupT, e_n0, e_n1, e_n2, e_n3, e_n4, e_n5, e_memT, e_sset, e_lset, e_fI, e_fS, e_memL, e_ord, e_eqLL, e_eqL0, e_eqLT0, e_eqTT, e_neLL, e_neTT, e_neB, some_ex, if_tt, if_ff]
  refine while_inv (fun ρ g' => g' = g ∧ ∃ x y : Int, ρ = [.fz (.int x), .fz (.int y)] ∧ 0 ≤ x ∧ 0 ≤ y ∧ Int.gcd x y = Int.gcd a b) (fun ρ => match ρ with | [_, .fz (.int y)] => y.toNat | _ => 0) ⟨rfl, _, _, rfl, ?_, ?_, ?_⟩ ?_
  · split <;> omega
  · split <;> omega
  · split <;> split <;> simp
  · rintro ρ g' kc ⟨rfl, x, y, rfl, hx, hy, e⟩ ht hf
    simp only [Bool.not_true, Bool.not_false, Bool.false_xor, Bool.true_xor, Bool.xor_false, Bool.xor_true, wpSL, wpS, wpE, wpL, wpA, wpJ, wpC, wpO, wpI, setD, setAll, setAllX, bindT, wipeE, List.set_cons_zero, List.set_cons_succ, List.getElem?_cons_zero, List.getElem?_cons_succ, e_fz, e_ow, e_st, e_int, e_int2, e_list, e_seqs1, e_seqs2, e_seq1, e_seq2, e_bool, e_kept0, e_kept1, e_add, e_cat, e_sub, e_mul, e_fdiv, e_mod, e_pow, e_catL, e_catT, e_repL, e_repT, e_eqI, e_eqS, e_neI, e_neS, e_lt, e_le, e_gt, e_ge, e_ltT, e_ixL, e_ixT, e_slL, e_slT, e_lenL, e_lenT, e_abs, e_intI, e_intB, e_str, e_max, e_min, e_repr, e_any, e_all, e_sum, e_listL, e_listT, e_tupL, e_tupT, e_n0, e_n1, e_n2, e_n3, e_n4, e_n5, e_memT, e_sset, e_lset, e_fI, e_fS, e_memL, e_ord, e_eqLL, e_eqL0, e_eqLT0, e_eqTT, e_neLL, e_neTT, e_neB, some_ex, if_tt, if_ff]
    by_cases c : 0 < y
    · rw [decide_eq_true c]
      refine ht _ fun nx hn => ?_
      simp only [b_law_divisor_4, Bool.not_true, Bool.not_false, Bool.false_xor, Bool.true_xor, Bool.xor_false, Bool.xor_true, wpSL, wpS, wpE, wpL, wpA, wpJ, wpC, wpO, wpI, setD, setAll, setAllX, bindT, wipeE, List.set_cons_zero, List.set_cons_succ, List.getElem?_cons_zero, List.getElem?_cons_succ, e_fz, e_ow, e_st, e_int, e_int2, e_list, e_seqs1, e_seqs2, e_seq1, e_seq2, e_bool, e_kept0, e_kept1, e_add, e_cat, e_sub, e_mul, e_fdiv, e_mod, e_pow, e_catL, e_catT, e_repL, e_repT, e_eqI, e_eqS, e_neI, e_neS, e_lt, e_le, e_gt, e_ge, e_ltT, e_ixL, e_ixT, e_slL, e_slT, e_lenL, e_lenT, e_abs, e_intI, e_intB, e_str, e_max, e_min, e_repr, e_any, e_all, e_sum, e_listL, e_listT, e_tupL, e_tupT, e_n0, e_n1, e_n2, e_n3, e_n4, e_n5, e_memT, e_sset, e_lset, e_fI, e_fS, e_memL, e_ord, e_eqLL, e_eqL0, e_eqLT0, e_eqTT, e_neLL, e_neTT, e_neB, some_ex, if_tt, if_ff]
      refine ⟨by omega, hn _ _ ⟨rfl, _, _, rfl, hy, ?_, ?_⟩ ?_⟩
      · rw [Int.fmod_eq_emod_of_nonneg _ hy]
        exact Int.emod_nonneg _ (by omega)
      · rw [gcd_step c, e]
      · show (x.fmod y).toNat < y.toNat
        rw [Int.fmod_eq_emod_of_nonneg _ hy]
        have := Int.emod_lt_of_pos x c
        have := Int.emod_nonneg x (b := y) (by omega)
        omega
    · rw [decide_eq_false c]
      refine hf _ ?_
      simp only [b_law_divisor_5, Bool.not_true, Bool.not_false, Bool.false_xor, Bool.true_xor, Bool.xor_false, Bool.xor_true, wpSL, wpS, wpE, wpL, wpA, wpJ, wpC, wpO, wpI, setD, setAll, setAllX, bindT, wipeE, List.set_cons_zero, List.set_cons_succ, List.getElem?_cons_zero, List.getElem?_cons_succ, e_fz, e_ow, e_st, e_int, e_int2, e_list, e_seqs1, e_seqs2, e_seq1, e_seq2, e_bool, e_kept0, e_kept1, e_add, e_cat, e_sub, e_mul, e_fdiv, e_mod, e_pow, e_catL, e_catT, e_repL, e_repT, e_eqI, e_eqS, e_neI, e_neS, e_lt, e_le, e_gt, e_ge, e_ltT, e_ixL, e_ixT, e_slL, e_slT, e_lenL, e_lenT, e_abs, e_intI, e_intB, e_str, e_max, e_min, e_repr, e_any, e_all, e_sum, e_listL, e_listT, e_tupL, e_tupT, e_n0, e_n1, e_n2, e_n3, e_n4, e_n5, e_memT, e_sset, e_lset, e_fI, e_fS, e_memL, e_ord, e_eqLL, e_eqL0, e_eqLT0, e_eqTT, e_neLL, e_neTT, e_neB, some_ex, if_tt, if_ff]
      have : y = 0 := by omega
      subst this
      rw [← e, Int.gcd_zero_right, Int.natAbs_of_nonneg hx] at h
      exact h
def Rg (m : Int) (l : List Int) : Prop := l ≠ [] ∧ ∀ x ∈ l, 0 ≤ x ∧ x < m
theorem fmod_in {a m : Int} (h : 0 < m) : 0 ≤ a.fmod m ∧ a.fmod m < m := by
  rw [Int.fmod_eq_emod_of_nonneg _ (by omega)]
  exact ⟨Int.emod_nonneg _ (by omega), Int.emod_lt_of_pos _ h⟩
theorem asc_ne {l : List Int} (h : l ≠ []) : asc l ≠ [] := fun e => by
  obtain ⟨x, hx⟩ := List.exists_mem_of_ne_nil l h
  have := asc_mem.mpr hx
  rw [e] at this; cases this
theorem s_law_ring {m : Nat} (h1 : 1 ≤ m) (h2 : m ≤ 13) (hg : 100 ≤ g) (hn : ∀ (row : List Int) (g' : Nat), g ≤ g' + 12 → row ≠ [] → (∀ x ∈ row, 0 ≤ x ∧ x < m) → row.Pairwise (· < ·) → row.length ≤ 60 → Q (tI row) g') : Phi tb (n + 1) 7 [.st, .fz (.int m), .fz (.int 4)] g noX Q := by
  refine phi_law_ring ?_
  simp only [b_law_ring, b_law_ring_1, Bool.not_true, Bool.not_false, Bool.false_xor, Bool.true_xor, Bool.xor_false, Bool.xor_true, wpSL, wpS, wpE, wpL, wpA, wpJ, wpC, wpO, wpI, setD, setAll, setAllX, bindT, wipeE, List.set_cons_zero, List.set_cons_succ, List.getElem?_cons_zero, List.getElem?_cons_succ, e_fz, e_ow, e_st, e_int, e_int2, e_list, e_seqs1, e_seqs2, e_seq1, e_seq2, e_bool, e_kept0, e_kept1, e_add, e_cat, e_sub, e_mul, e_fdiv, e_mod, e_pow, e_catL, e_catT, e_repL, e_repT, e_eqI, e_eqS, e_neI, e_neS, e_lt, e_le, e_gt, e_ge, e_ltT, e_ixL, e_ixT, e_slL, e_slT, e_lenL, e_lenT, e_abs, e_intI, e_intB, e_str, e_max, e_min, e_repr, e_any, e_all, e_sum, e_listL, e_listT, e_tupL, e_tupT, e_n0, e_n1, e_n2, e_n3, e_n4, e_n5, e_memT, e_sset, e_lset, e_fI, e_fS, e_memL, e_ord, e_eqLL, e_eqL0, e_eqLT0, e_eqTT, e_neLL, e_neTT, e_neB, some_ex, if_tt, if_ff]
  refine ⟨by decide, by omega, fun x hx0 hx1 => ⟨⟨by omega, by omega⟩, ?_⟩⟩
  have hlen : (rangeD 0 (1 + x)).length = (1 + x).toNat := by rw [rng_len, Int.sub_zero]
  refine comp_inv (fun i acc g' => g ≤ g' + 1 + i ∧ ∃ l : List Int, acc = l.map PyData.int ∧ l.length = i ∧ ∀ x ∈ l, 0 ≤ x ∧ x < (m : Int)) ⟨by omega, [], rfl, rfl, by simp⟩ ?_ ?_
  · rintro i d acc g' K hd ⟨hg', l, rfl, hl, ha⟩ hn hs
    have hi := (List.getElem?_eq_some_iff.mp hd).1
    rw [hlen] at hi
    rw [if_pos trivial]
    refine ⟨by omega, by omega, fun y hy0 hy1 => ?_⟩
    refine hs _ _ (line_lt (by rw [List.length_map]; omega)) ⟨by omega, l ++ [y], by rw [List.map_append]; rfl, by rw [List.length_append, hl]; rfl, fun u hu => ?_⟩
    rcases List.mem_append.mp hu with h | h
    · exact ha u h
    · rw [List.mem_singleton.mp h]; exact ⟨hy0, hy1⟩
  · rintro acc g' ⟨hg', l, rfl, hl, ha⟩
    rw [hlen] at hl hg'
    have fin : ∀ (l : List Int) (g' : Nat) (s4 s5 s6 s7 s8 s9 : SV), g ≤ g' + 12 → Rg m l → l.length ≤ 60 → wpSL (Phi tb n) b_law_ring_13 [.st, .fz (.int m), .fz (.int 4), .fz (.list (l.map PyData.int)), s4, s5, s6, s7, s8, s9] g' noX ⟨fun _ g => Q .none g, Q, fun _ _ => False, fun _ _ => False⟩ := by
      intro l g' s4 s5 s6 s7 s8 s9 hg' hr hl
      simp only [b_law_ring_13, Bool.not_true, Bool.not_false, Bool.false_xor, Bool.true_xor, Bool.xor_false, Bool.xor_true, wpSL, wpS, wpE, wpL, wpA, wpJ, wpC, wpO, wpI, setD, setAll, setAllX, bindT, wipeE, List.set_cons_zero, List.set_cons_succ, List.getElem?_cons_zero, List.getElem?_cons_succ, e_fz, e_ow, e_st, e_int, e_int2, e_list, e_seqs1, e_seqs2, e_seq1, e_seq2, e_bool, e_kept0, e_kept1, e_add, e_cat, e_sub, e_mul, e_fdiv, e_mod, e_pow, e_catL, e_catT, e_repL, e_repT, e_eqI, e_eqS, e_neI, e_neS, e_lt, e_le, e_gt, e_ge, e_ltT, e_ixL, e_ixT, e_slL, e_slT, e_lenL, e_lenT, e_abs, e_intI, e_intB, e_str, e_max, e_min, e_repr, e_any, e_all, e_sum, e_listL, e_listT, e_tupL, e_tupT, e_n0, e_n1, e_n2, e_n3, e_n4, e_n5, e_memT, e_sset, e_lset, e_fI, e_fS, e_memL, e_ord, e_eqLL, e_eqL0, e_eqLT0, e_eqTT, e_neLL, e_neTT, e_neB, some_ex, if_tt, if_ff]
      exact ⟨by omega, hn (asc l) g' hg' (asc_ne hr.1) (fun x hx => hr.2 x (asc_mem.mp hx)) (asc_pw l) (Nat.le_trans (asc_len l) hl)⟩
    simp only [b_law_ring_2, Bool.not_true, Bool.not_false, Bool.false_xor, Bool.true_xor, Bool.xor_false, Bool.xor_true, wpSL, wpS, wpE, wpL, wpA, wpJ, wpC, wpO, wpI, setD, setAll, setAllX, bindT, wipeE, List.set_cons_zero, List.set_cons_succ, List.getElem?_cons_zero, List.getElem?_cons_succ, e_fz, e_ow, e_st, e_int, e_int2, e_list, e_seqs1, e_seqs2, e_seq1, e_seq2, e_bool, e_kept0, e_kept1, e_add, e_cat, e_sub, e_mul, e_fdiv, e_mod, e_pow, e_catL, e_catT, e_repL, e_repT, e_eqI, e_eqS, e_neI, e_neS, e_lt, e_le, e_gt, e_ge, e_ltT, e_ixL, e_ixT, e_slL, e_slT, e_lenL, e_lenT, e_abs, e_intI, e_intB, e_str, e_max, e_min, e_repr, e_any, e_all, e_sum, e_listL, e_listT, e_tupL, e_tupT, e_n0, e_n1, e_n2, e_n3, e_n4, e_n5, e_memT, e_sset, e_lset, e_fI, e_fS, e_memL, e_ord, e_eqLL, e_eqL0, e_eqLT0, e_eqTT, e_neLL, e_neTT, e_neB, some_ex, if_tt, if_ff]
    refine ⟨by decide, by omega, fun pick hp0 hp1 => ?_⟩
    simp only [b_law_ring_3, Bool.not_true, Bool.not_false, Bool.false_xor, Bool.true_xor, Bool.xor_false, Bool.xor_true, wpSL, wpS, wpE, wpL, wpA, wpJ, wpC, wpO, wpI, setD, setAll, setAllX, bindT, wipeE, List.set_cons_zero, List.set_cons_succ, List.getElem?_cons_zero, List.getElem?_cons_succ, e_fz, e_ow, e_st, e_int, e_int2, e_list, e_seqs1, e_seqs2, e_seq1, e_seq2, e_bool, e_kept0, e_kept1, e_add, e_cat, e_sub, e_mul, e_fdiv, e_mod, e_pow, e_catL, e_catT, e_repL, e_repT, e_eqI, e_eqS, e_neI, e_neS, e_lt, e_le, e_gt, e_ge, e_ltT, e_ixL, e_ixT, e_slL, e_slT, e_lenL, e_lenT, e_abs, e_intI, e_intB, e_str, e_max, e_min, e_repr, e_any, e_all, e_sum, e_listL, e_listT, e_tupL, e_tupT, e_n0, e_n1, e_n2, e_n3, e_n4, e_n5, e_memT, e_sset, e_lset, e_fI, e_fS, e_memL, e_ord, e_eqLL, e_eqL0, e_eqLT0, e_eqTT, e_neLL, e_neTT, e_neB, some_ex, if_tt, if_ff]
    have hl4 : l.length ≤ 4 := by omega
    have hl1 : 1 ≤ l.length := by omega
    have hne : l ≠ [] := List.length_pos_iff.mp hl1
    by_cases q : pick = 0
    · rw [if_pos (decide_eq_true q)]
      simp only [b_law_ring_4, Bool.not_true, Bool.not_false, Bool.false_xor, Bool.true_xor, Bool.xor_false, Bool.xor_true, wpSL, wpS, wpE, wpL, wpA, wpJ, wpC, wpO, wpI, setD, setAll, setAllX, bindT, wipeE, List.set_cons_zero, List.set_cons_succ, List.getElem?_cons_zero, List.getElem?_cons_succ, e_fz, e_ow, e_st, e_int, e_int2, e_list, e_seqs1, e_seqs2, e_seq1, e_seq2, e_bool, e_kept0, e_kept1, e_add, e_cat, e_sub, e_mul, e_fdiv, e_mod, e_pow, e_catL, e_catT, e_repL, e_repT, e_eqI, e_eqS, e_neI, e_neS, e_lt, e_le, e_gt, e_ge, e_ltT, e_ixL, e_ixT, e_slL, e_slT, e_lenL, e_lenT, e_abs, e_intI, e_intB, e_str, e_max, e_min, e_repr, e_any, e_all, e_sum, e_listL, e_listT, e_tupL, e_tupT, e_n0, e_n1, e_n2, e_n3, e_n4, e_n5, e_memT, e_sset, e_lset, e_fI, e_fS, e_memL, e_ord, e_eqLL, e_eqL0, e_eqLT0, e_eqTT, e_neLL, e_neTT, e_neB, some_ex, if_tt, if_ff]
      refine ⟨by omega, by omega, fun st hs0 hs1 => ?_⟩
      simp only [b_law_ring_5, Bool.not_true, Bool.not_false, Bool.false_xor, Bool.true_xor, Bool.xor_false, Bool.xor_true, wpSL, wpS, wpE, wpL, wpA, wpJ, wpC, wpO, wpI, setD, setAll, setAllX, bindT, wipeE, List.set_cons_zero, List.set_cons_succ, List.getElem?_cons_zero, List.getElem?_cons_succ, e_fz, e_ow, e_st, e_int, e_int2, e_list, e_seqs1, e_seqs2, e_seq1, e_seq2, e_bool, e_kept0, e_kept1, e_add, e_cat, e_sub, e_mul, e_fdiv, e_mod, e_pow, e_catL, e_catT, e_repL, e_repT, e_eqI, e_eqS, e_neI, e_neS, e_lt, e_le, e_gt, e_ge, e_ltT, e_ixL, e_ixT, e_slL, e_slT, e_lenL, e_lenT, e_abs, e_intI, e_intB, e_str, e_max, e_min, e_repr, e_any, e_all, e_sum, e_listL, e_listT, e_tupL, e_tupT, e_n0, e_n1, e_n2, e_n3, e_n4, e_n5, e_memT, e_sset, e_lset, e_fI, e_fS, e_memL, e_ord, e_eqLL, e_eqL0, e_eqLT0, e_eqTT, e_neLL, e_neTT, e_neB, some_ex, if_tt, if_ff, List.length_map, if_true]
      refine ⟨⟨by omega, by omega⟩, ?_⟩
      rw [rng_map]
      refine comp_map PyData.int (fun k => PyData.int ((l.getD 0 0 + (1 + st) * k).fmod m)) (small' (by rw [rng_len']; omega)) (fun k hk K h => ?_) ?_
      · have hk' := rng_mem.mp hk
        rw [at_ints (by decide) (by omega)]
        simp only [Bool.not_true, Bool.not_false, Bool.false_xor, Bool.true_xor, Bool.xor_false, Bool.xor_true, wpSL, wpS, wpE, wpL, wpA, wpJ, wpC, wpO, wpI, setD, setAll, setAllX, bindT, wipeE, List.set_cons_zero, List.set_cons_succ, List.getElem?_cons_zero, List.getElem?_cons_succ, e_fz, e_ow, e_st, e_int, e_int2, e_list, e_seqs1, e_seqs2, e_seq1, e_seq2, e_bool, e_kept0, e_kept1, e_add, e_cat, e_sub, e_mul, e_fdiv, e_mod, e_pow, e_catL, e_catT, e_repL, e_repT, e_eqI, e_eqS, e_neI, e_neS, e_lt, e_le, e_gt, e_ge, e_ltT, e_ixL, e_ixT, e_slL, e_slT, e_lenL, e_lenT, e_abs, e_intI, e_intB, e_str, e_max, e_min, e_repr, e_any, e_all, e_sum, e_listL, e_listT, e_tupL, e_tupT, e_n0, e_n1, e_n2, e_n3, e_n4, e_n5, e_memT, e_sset, e_lset, e_fI, e_fS, e_memL, e_ord, e_eqLL, e_eqL0, e_eqLT0, e_eqTT, e_neLL, e_neTT, e_neB, some_ex, if_tt, if_ff]
        exact ⟨.inl ⟨by omega, by omega⟩, by omega, h⟩
      have e : (rng 0 (l.length : Int)).map (fun k => PyData.int ((l.getD 0 0 + (1 + st) * k).fmod m)) = ((rng 0 (l.length : Int)).map fun k => (l.getD 0 0 + (1 + st) * k).fmod m).map PyData.int := by
        rw [List.map_map]; rfl
      rw [e]
      simp only [b_law_ring_6, Bool.not_true, Bool.not_false, Bool.false_xor, Bool.true_xor, Bool.xor_false, Bool.xor_true, wpSL, wpS, wpE, wpL, wpA, wpJ, wpC, wpO, wpI, setD, setAll, setAllX, bindT, wipeE, List.set_cons_zero, List.set_cons_succ, List.getElem?_cons_zero, List.getElem?_cons_succ, e_fz, e_ow, e_st, e_int, e_int2, e_list, e_seqs1, e_seqs2, e_seq1, e_seq2, e_bool, e_kept0, e_kept1, e_add, e_cat, e_sub, e_mul, e_fdiv, e_mod, e_pow, e_catL, e_catT, e_repL, e_repT, e_eqI, e_eqS, e_neI, e_neS, e_lt, e_le, e_gt, e_ge, e_ltT, e_ixL, e_ixT, e_slL, e_slT, e_lenL, e_lenT, e_abs, e_intI, e_intB, e_str, e_max, e_min, e_repr, e_any, e_all, e_sum, e_listL, e_listT, e_tupL, e_tupT, e_n0, e_n1, e_n2, e_n3, e_n4, e_n5, e_memT, e_sset, e_lset, e_fI, e_fS, e_memL, e_ord, e_eqLL, e_eqL0, e_eqLT0, e_eqTT, e_neLL, e_neTT, e_neB, some_ex, if_tt, if_ff]
      rw [decide_eq_false (by omega)]
      simp only [Bool.not_true, Bool.not_false, Bool.false_xor, Bool.true_xor, Bool.xor_false, Bool.xor_true, wpSL, wpS, wpE, wpL, wpA, wpJ, wpC, wpO, wpI, setD, setAll, setAllX, bindT, wipeE, List.set_cons_zero, List.set_cons_succ, List.getElem?_cons_zero, List.getElem?_cons_succ, e_fz, e_ow, e_st, e_int, e_int2, e_list, e_seqs1, e_seqs2, e_seq1, e_seq2, e_bool, e_kept0, e_kept1, e_add, e_cat, e_sub, e_mul, e_fdiv, e_mod, e_pow, e_catL, e_catT, e_repL, e_repT, e_eqI, e_eqS, e_neI, e_neS, e_lt, e_le, e_gt, e_ge, e_ltT, e_ixL, e_ixT, e_slL, e_slT, e_lenL, e_lenT, e_abs, e_intI, e_intB, e_str, e_max, e_min, e_repr, e_any, e_all, e_sum, e_listL, e_listT, e_tupL, e_tupT, e_n0, e_n1, e_n2, e_n3, e_n4, e_n5, e_memT, e_sset, e_lset, e_fI, e_fS, e_memL, e_ord, e_eqLL, e_eqL0, e_eqLT0, e_eqTT, e_neLL, e_neTT, e_neB, some_ex, if_tt, if_ff]
      have len : ((rng 0 (l.length : Int)).map fun k => (l.getD 0 0 + (1 + st) * k).fmod m).length = l.length := by rw [List.length_map, rng_len']; omega
      refine fin _ _ _ _ _ _ _ _ (by omega) ⟨fun e => by rw [e] at len; simp at len; omega, fun x hx => ?_⟩ (by omega)
      obtain ⟨k, _, rfl⟩ := List.mem_map.mp hx
      exact fmod_in (by omega)
    · rw [if_neg (by rw [decide_eq_true_eq]; exact q)]
      simp only [b_law_ring_6, Bool.not_true, Bool.not_false, Bool.false_xor, Bool.true_xor, Bool.xor_false, Bool.xor_true, wpSL, wpS, wpE, wpL, wpA, wpJ, wpC, wpO, wpI, setD, setAll, setAllX, bindT, wipeE, List.set_cons_zero, List.set_cons_succ, List.getElem?_cons_zero, List.getElem?_cons_succ, e_fz, e_ow, e_st, e_int, e_int2, e_list, e_seqs1, e_seqs2, e_seq1, e_seq2, e_bool, e_kept0, e_kept1, e_add, e_cat, e_sub, e_mul, e_fdiv, e_mod, e_pow, e_catL, e_catT, e_repL, e_repT, e_eqI, e_eqS, e_neI, e_neS, e_lt, e_le, e_gt, e_ge, e_ltT, e_ixL, e_ixT, e_slL, e_slT, e_lenL, e_lenT, e_abs, e_intI, e_intB, e_str, e_max, e_min, e_repr, e_any, e_all, e_sum, e_listL, e_listT, e_tupL, e_tupT, e_n0, e_n1, e_n2, e_n3, e_n4, e_n5, e_memT, e_sset, e_lset, e_fI, e_fS, e_memL, e_ord, e_eqLL, e_eqL0, e_eqLT0, e_eqTT, e_neLL, e_neTT, e_neB, some_ex, if_tt, if_ff]
      by_cases q1 : pick = 1
      · rw [if_pos (decide_eq_true q1)]
        simp only [b_law_ring_7, Bool.not_true, Bool.not_false, Bool.false_xor, Bool.true_xor, Bool.xor_false, Bool.xor_true, wpSL, wpS, wpE, wpL, wpA, wpJ, wpC, wpO, wpI, setD, setAll, setAllX, bindT, wipeE, List.set_cons_zero, List.set_cons_succ, List.getElem?_cons_zero, List.getElem?_cons_succ, e_fz, e_ow, e_st, e_int, e_int2, e_list, e_seqs1, e_seqs2, e_seq1, e_seq2, e_bool, e_kept0, e_kept1, e_add, e_cat, e_sub, e_mul, e_fdiv, e_mod, e_pow, e_catL, e_catT, e_repL, e_repT, e_eqI, e_eqS, e_neI, e_neS, e_lt, e_le, e_gt, e_ge, e_ltT, e_ixL, e_ixT, e_slL, e_slT, e_lenL, e_lenT, e_abs, e_intI, e_intB, e_str, e_max, e_min, e_repr, e_any, e_all, e_sum, e_listL, e_listT, e_tupL, e_tupT, e_n0, e_n1, e_n2, e_n3, e_n4, e_n5, e_memT, e_sset, e_lset, e_fI, e_fS, e_memL, e_ord, e_eqLL, e_eqL0, e_eqLT0, e_eqTT, e_neLL, e_neTT, e_neB, some_ex, if_tt, if_ff, if_true]
        refine ⟨⟨by decide, by decide, by omega, by omega⟩, ?_⟩
        rw [rng_map]
        refine comp_fil PyData.int (fun k => decide ((m : Int).fmod k = 0)) PyData.int (small' (by rw [rng_len']; omega)) (fun k hk K a b => ?_) ?_
        · have hk' := rng_mem.mp hk
          simp only [Bool.not_true, Bool.not_false, Bool.false_xor, Bool.true_xor, Bool.xor_false, Bool.xor_true, wpSL, wpS, wpE, wpL, wpA, wpJ, wpC, wpO, wpI, setD, setAll, setAllX, bindT, wipeE, List.set_cons_zero, List.set_cons_succ, List.getElem?_cons_zero, List.getElem?_cons_succ, e_fz, e_ow, e_st, e_int, e_int2, e_list, e_seqs1, e_seqs2, e_seq1, e_seq2, e_bool, e_kept0, e_kept1, e_add, e_cat, e_sub, e_mul, e_fdiv, e_mod, e_pow, e_catL, e_catT, e_repL, e_repT, e_eqI, e_eqS, e_neI, e_neS, e_lt, e_le, e_gt, e_ge, e_ltT, e_ixL, e_ixT, e_slL, e_slT, e_lenL, e_lenT, e_abs, e_intI, e_intB, e_str, e_max, e_min, e_repr, e_any, e_all, e_sum, e_listL, e_listT, e_tupL, e_tupT, e_n0, e_n1, e_n2, e_n3, e_n4, e_n5, e_memT, e_sset, e_lset, e_fI, e_fS, e_memL, e_ord, e_eqLL, e_eqL0, e_eqLT0, e_eqTT, e_neLL, e_neTT, e_neB, some_ex, if_tt, if_ff]
          refine ⟨by omega, ?_⟩
          split
          · next q => exact a q
          · next q => exact b (eq_false_of_ne_true q)
        have one : 1 ∈ (rng 1 ((m : Int) + 1)).filter fun k => decide ((m : Int).fmod k = 0) := List.mem_filter.mpr ⟨rng_mem.mpr ⟨by omega, by omega⟩, decide_eq_true (by rw [Int.fmod_eq_emod_of_nonneg _ (by omega)]; omega)⟩
        have gl : 0 < ((rng 1 ((m : Int) + 1)).filter fun k => decide ((m : Int).fmod k = 0)).length := List.length_pos_iff.mpr fun e => by rw [e] at one; cases one
        have gi : ∀ x ∈ (rng 1 ((m : Int) + 1)).filter fun k => decide ((m : Int).fmod k = 0), 1 ≤ x ∧ x ≤ m := fun x hx => by
          have := rng_mem.mp (List.mem_filter.mp hx).1
          omega
        generalize (rng 1 ((m : Int) + 1)).filter (fun k => decide ((m : Int).fmod k = 0)) = good at gl gi
        simp only [b_law_ring_8, Bool.not_true, Bool.not_false, Bool.false_xor, Bool.true_xor, Bool.xor_false, Bool.xor_true, wpSL, wpS, wpE, wpL, wpA, wpJ, wpC, wpO, wpI, setD, setAll, setAllX, bindT, wipeE, List.set_cons_zero, List.set_cons_succ, List.getElem?_cons_zero, List.getElem?_cons_succ, e_fz, e_ow, e_st, e_int, e_int2, e_list, e_seqs1, e_seqs2, e_seq1, e_seq2, e_bool, e_kept0, e_kept1, e_add, e_cat, e_sub, e_mul, e_fdiv, e_mod, e_pow, e_catL, e_catT, e_repL, e_repT, e_eqI, e_eqS, e_neI, e_neS, e_lt, e_le, e_gt, e_ge, e_ltT, e_ixL, e_ixT, e_slL, e_slT, e_lenL, e_lenT, e_abs, e_intI, e_intB, e_str, e_max, e_min, e_repr, e_any, e_all, e_sum, e_listL, e_listT, e_tupL, e_tupT, e_n0, e_n1, e_n2, e_n3, e_n4, e_n5, e_memT, e_sset, e_lset, e_fI, e_fS, e_memL, e_ord, e_eqLL, e_eqL0, e_eqLT0, e_eqTT, e_neLL, e_neTT, e_neB, some_ex, if_tt, if_ff, List.length_map]
        refine ⟨by omega, by omega, fun y hy0 hy1 => ?_⟩
        rw [at_ints hy0 hy1]
        have hst := gi _ (getD_mem (ns := good) (i := y.toNat) (by omega))
        generalize good.getD y.toNat 0 = st at hst
        simp only [b_law_ring_9, b_law_ring_10, Bool.not_true, Bool.not_false, Bool.false_xor, Bool.true_xor, Bool.xor_false, Bool.xor_true, wpSL, wpS, wpE, wpL, wpA, wpJ, wpC, wpO, wpI, setD, setAll, setAllX, bindT, wipeE, List.set_cons_zero, List.set_cons_succ, List.getElem?_cons_zero, List.getElem?_cons_succ, e_fz, e_ow, e_st, e_int, e_int2, e_list, e_seqs1, e_seqs2, e_seq1, e_seq2, e_bool, e_kept0, e_kept1, e_add, e_cat, e_sub, e_mul, e_fdiv, e_mod, e_pow, e_catL, e_catT, e_repL, e_repT, e_eqI, e_eqS, e_neI, e_neS, e_lt, e_le, e_gt, e_ge, e_ltT, e_ixL, e_ixT, e_slL, e_slT, e_lenL, e_lenT, e_abs, e_intI, e_intB, e_str, e_max, e_min, e_repr, e_any, e_all, e_sum, e_listL, e_listT, e_tupL, e_tupT, e_n0, e_n1, e_n2, e_n3, e_n4, e_n5, e_memT, e_sset, e_lset, e_fI, e_fS, e_memL, e_ord, e_eqLL, e_eqL0, e_eqLT0, e_eqTT, e_neLL, e_neTT, e_neB, some_ex, if_tt, if_ff]
        refine ⟨Nat.zero_le _, ?_⟩
        have hq : 1 ≤ (m : Int).fdiv st ∧ (m : Int).fdiv st ≤ m := by
          rw [Int.fdiv_eq_ediv_of_nonneg _ (by omega)]
          exact ⟨by rw [Int.le_ediv_iff_mul_le (by omega)]; omega, Int.ediv_le_self _ (by omega)⟩
        obtain ⟨qq, hqq⟩ : ∃ qq : Int, (m : Int).fdiv st = qq := ⟨_, rfl⟩
        rw [hqq] at hq
        refine for_inv (fun i ρ g2 => g2 = g' - 1 - 1 ∧ ∃ (more : List Int) (s8 s9 : SV), ρ = [.st, .fz (.int m), .fz (.int 4), .fz (.list (l.map PyData.int)), .fz (.int pick), .fz (.int st), .fz (.list (good.map PyData.int)), .fz (.list (more.map PyData.int)), s8, s9] ∧ more.length ≤ 13 * i ∧ (∀ x ∈ more, 0 ≤ x ∧ x < (m : Int)) ∧ i ≤ more.length) ⟨rfl, [], _, _, rfl, Nat.zero_le _, by simp, Nat.le_refl _⟩ ?_ ?_
        · rintro i d ρ g2 nx hd ⟨rfl, more, s8, s9, rfl, hml, hmi, hm0⟩ nxt
          obtain ⟨one, _, ho, rfl, ht, hi⟩ := map_at hd
          refine ⟨_, rfl, ?_⟩
          simp only [b_law_ring_11, Bool.not_true, Bool.not_false, Bool.false_xor, Bool.true_xor, Bool.xor_false, Bool.xor_true, wpSL, wpS, wpE, wpL, wpA, wpJ, wpC, wpO, wpI, setD, setAll, setAllX, bindT, wipeE, List.set_cons_zero, List.set_cons_succ, List.getElem?_cons_zero, List.getElem?_cons_succ, e_fz, e_ow, e_st, e_int, e_int2, e_list, e_seqs1, e_seqs2, e_seq1, e_seq2, e_bool, e_kept0, e_kept1, e_add, e_cat, e_sub, e_mul, e_fdiv, e_mod, e_pow, e_catL, e_catT, e_repL, e_repT, e_eqI, e_eqS, e_neI, e_neS, e_lt, e_le, e_gt, e_ge, e_ltT, e_ixL, e_ixT, e_slL, e_slT, e_lenL, e_lenT, e_abs, e_intI, e_intB, e_str, e_max, e_min, e_repr, e_any, e_all, e_sum, e_listL, e_listT, e_tupL, e_tupT, e_n0, e_n1, e_n2, e_n3, e_n4, e_n5, e_memT, e_sset, e_lset, e_fI, e_fS, e_memL, e_ord, e_eqLL, e_eqL0, e_eqLT0, e_eqTT, e_neLL, e_neTT, e_neB, some_ex, if_tt, if_ff, if_true]
          rw [hqq]
          refine ⟨⟨by omega, Nat.lt_of_le_of_lt (log_small (a := 10) (by omega)) (by decide)⟩, ⟨by omega, by omega⟩, ?_⟩
          rw [rng_map]
          refine comp_map PyData.int (fun k => PyData.int ((one + st * k).fmod m)) (small' (by rw [rng_len']; omega)) (fun k hk K h => ?_) ?_
          · have hk' := rng_mem.mp hk
            simp only [Bool.not_true, Bool.not_false, Bool.false_xor, Bool.true_xor, Bool.xor_false, Bool.xor_true, wpSL, wpS, wpE, wpL, wpA, wpJ, wpC, wpO, wpI, setD, setAll, setAllX, bindT, wipeE, List.set_cons_zero, List.set_cons_succ, List.getElem?_cons_zero, List.getElem?_cons_succ, e_fz, e_ow, e_st, e_int, e_int2, e_list, e_seqs1, e_seqs2, e_seq1, e_seq2, e_bool, e_kept0, e_kept1, e_add, e_cat, e_sub, e_mul, e_fdiv, e_mod, e_pow, e_catL, e_catT, e_repL, e_repT, e_eqI, e_eqS, e_neI, e_neS, e_lt, e_le, e_gt, e_ge, e_ltT, e_ixL, e_ixT, e_slL, e_slT, e_lenL, e_lenT, e_abs, e_intI, e_intB, e_str, e_max, e_min, e_repr, e_any, e_all, e_sum, e_listL, e_listT, e_tupL, e_tupT, e_n0, e_n1, e_n2, e_n3, e_n4, e_n5, e_memT, e_sset, e_lset, e_fI, e_fS, e_memL, e_ord, e_eqLL, e_eqL0, e_eqLT0, e_eqTT, e_neLL, e_neTT, e_neB, some_ex, if_tt, if_ff]
            exact ⟨.inl ⟨by omega, by omega⟩, by omega, h⟩
          have e : (rng 0 qq).map (fun k => PyData.int ((one + st * k).fmod m)) = ((rng 0 qq).map fun k => (one + st * k).fmod m).map PyData.int := by
            rw [List.map_map]; rfl
          have len : ((rng 0 qq).map fun k => (one + st * k).fmod m).length = qq.toNat := by rw [List.length_map, rng_len']; omega
          rw [e]
          refine ⟨by rw [sizeLine_eq, List.length_map, List.length_map, len]; omega, ?_⟩
          rw [← List.map_append]
          refine nxt _ _ ⟨rfl, more ++ (rng 0 qq).map (fun k => (one + st * k).fmod m), _, _, rfl, by rw [List.length_append, len]; omega, fun x hx => ?_, by rw [List.length_append, len]; omega⟩
          rcases List.mem_append.mp hx with hx | hx
          · exact hmi x hx
          · obtain ⟨k, _, rfl⟩ := List.mem_map.mp hx
            exact fmod_in (by omega)
        · rintro ρ g2 ⟨rfl, more, s8, s9, rfl, hml, hmi, hm0⟩
          rw [List.length_map] at hml hm0
          simp only [b_law_ring_12, Bool.not_true, Bool.not_false, Bool.false_xor, Bool.true_xor, Bool.xor_false, Bool.xor_true, wpSL, wpS, wpE, wpL, wpA, wpJ, wpC, wpO, wpI, setD, setAll, setAllX, bindT, wipeE, List.set_cons_zero, List.set_cons_succ, List.getElem?_cons_zero, List.getElem?_cons_succ, e_fz, e_ow, e_st, e_int, e_int2, e_list, e_seqs1, e_seqs2, e_seq1, e_seq2, e_bool, e_kept0, e_kept1, e_add, e_cat, e_sub, e_mul, e_fdiv, e_mod, e_pow, e_catL, e_catT, e_repL, e_repT, e_eqI, e_eqS, e_neI, e_neS, e_lt, e_le, e_gt, e_ge, e_ltT, e_ixL, e_ixT, e_slL, e_slT, e_lenL, e_lenT, e_abs, e_intI, e_intB, e_str, e_max, e_min, e_repr, e_any, e_all, e_sum, e_listL, e_listT, e_tupL, e_tupT, e_n0, e_n1, e_n2, e_n3, e_n4, e_n5, e_memT, e_sset, e_lset, e_fI, e_fS, e_memL, e_ord, e_eqLL, e_eqL0, e_eqLT0, e_eqTT, e_neLL, e_neTT, e_neB, some_ex, if_tt, if_ff]
          exact fin _ _ _ _ _ _ _ _ (by omega) ⟨List.length_pos_iff.mp (by omega), hmi⟩ (by omega)
      · rw [if_neg (by rw [decide_eq_true_eq]; exact q1)]
        exact fin _ _ _ _ _ _ _ _ (by omega) ⟨hne, ha⟩ (by omega)
theorem s_wrong {m : Nat} (h1 : 1 ≤ m) (h2 : m ≤ 13) (hg : 2 ≤ g) (hn : ∀ (a : Int) (row : List Int), rBad a row = true → row.length ≤ 60 → Q (.tuple [.int a, tI row]) (g - 1)) : Phi tb (n + 1) 4 [.st, .fz (.int m), .fz (tI [0])] g noX Q := by
  refine phi_law_wrong_ring ?_
  have e : tI [0] = .tuple [.int 0] := rfl
  rw [e]
  simp only [b_law_wrong_ring, b_law_wrong_ring_1, Bool.not_true, Bool.not_false, Bool.false_xor, Bool.true_xor, Bool.xor_false, Bool.xor_true, wpSL, wpS, wpE, wpL, wpA, wpJ, wpC, wpO, wpI, setD, setAll, setAllX, bindT, wipeE, List.set_cons_zero, List.set_cons_succ, List.getElem?_cons_zero, List.getElem?_cons_succ, e_fz, e_ow, e_st, e_int, e_int2, e_list, e_seqs1, e_seqs2, e_seq1, e_seq2, e_bool, e_kept0, e_kept1, e_add, e_cat, e_sub, e_mul, e_fdiv, e_mod, e_pow, e_catL, e_catT, e_repL, e_repT, e_eqI, e_eqS, e_neI, e_neS, e_lt, e_le, e_gt, e_ge, e_ltT, e_ixL, e_ixT, e_slL, e_slT, e_lenL, e_lenT, e_abs, e_intI, e_intB, e_str, e_max, e_min, e_repr, e_any, e_all, e_sum, e_listL, e_listT, e_tupL, e_tupT, e_n0, e_n1, e_n2, e_n3, e_n4, e_n5, e_memT, e_sset, e_lset, e_fI, e_fS, e_memL, e_ord, e_eqLL, e_eqL0, e_eqLT0, e_eqTT, e_neLL, e_neTT, e_neB, some_ex, if_tt, if_ff]
  have ec : cutD [PyData.int 0] (some (-1)) none = [PyData.int 0] := rfl
  rw [ec]
  refine ⟨small' (by simp), small' (by simp), small' (by simp), small' (by simp), small' (by simp), small' (by simp), small' (by simp), small' (by simp), small' (by simp), small' (by simp), small' (by simp), small' (by simp), small' (by simp), ?_⟩
  simp only [b_law_wrong_ring_2, Bool.not_true, Bool.not_false, Bool.false_xor, Bool.true_xor, Bool.xor_false, Bool.xor_true, wpSL, wpS, wpE, wpL, wpA, wpJ, wpC, wpO, wpI, setD, setAll, setAllX, bindT, wipeE, List.set_cons_zero, List.set_cons_succ, List.getElem?_cons_zero, List.getElem?_cons_succ, e_fz, e_ow, e_st, e_int, e_int2, e_list, e_seqs1, e_seqs2, e_seq1, e_seq2, e_bool, e_kept0, e_kept1, e_add, e_cat, e_sub, e_mul, e_fdiv, e_mod, e_pow, e_catL, e_catT, e_repL, e_repT, e_eqI, e_eqS, e_neI, e_neS, e_lt, e_le, e_gt, e_ge, e_ltT, e_ixL, e_ixT, e_slL, e_slT, e_lenL, e_lenT, e_abs, e_intI, e_intB, e_str, e_max, e_min, e_repr, e_any, e_all, e_sum, e_listL, e_listT, e_tupL, e_tupT, e_n0, e_n1, e_n2, e_n3, e_n4, e_n5, e_memT, e_sset, e_lset, e_fI, e_fS, e_memL, e_ord, e_eqLL, e_eqL0, e_eqLT0, e_eqTT, e_neLL, e_neTT, e_neB, some_ex, if_tt, if_ff]
  refine ⟨by decide, by omega, fun x hx0 hx1 => ?_⟩
  rcases (by omega : x = 0 ∨ x = 1 ∨ x = 2 ∨ x = 3 ∨ x = 4 ∨ x = 5) with rfl | rfl | rfl | rfl | rfl | rfl
  · exact ⟨_, rfl, hn 0 [0] (by decide +kernel) (by decide)⟩
  · exact ⟨_, rfl, hn 61 [0] (by decide +kernel) (by decide)⟩
  · refine ⟨_, rfl, hn m [] ?_ (by decide)⟩
    unfold rBad
    rw [decide_eq_true (by omega : (1 : Int) ≤ m), decide_eq_true (by omega : (m : Int) ≤ 60)]; rfl
  · refine ⟨_, rfl, hn m [0, m] ?_ (by simp)⟩
    have e : inF m [0, (m : Int)] = false := by
      unfold inF
      rw [List.all_cons, List.all_cons, decide_eq_false (show ¬(m : Int) < m by omega), Bool.and_false, Bool.false_and, Bool.and_false]
    unfold rBad
    rw [e, Bool.not_false, Bool.or_true, Bool.true_or, Bool.or_true]
  · refine ⟨_, rfl, hn m [-1, 0] ?_ (by simp)⟩
    have e : inF m [-1, (0 : Int)] = false := rfl
    unfold rBad
    rw [e, Bool.not_false, Bool.or_true, Bool.true_or, Bool.or_true]
  · refine ⟨_, rfl, hn m [0, 0] ?_ (by simp)⟩
    have e : adjF [0, (0 : Int)] = false := rfl
    unfold rBad
    rw [e, Bool.not_false, Bool.or_true, Bool.or_true]
end Dz
set_option Elab.async false
set_option linter.all false
set_option maxRecDepth 100000
/-! k09: closed facts. -/
namespace Dz
open PySem
variable {n g : Nat} {X : XR} {Q : Rs}
def mostN (m : Nat) : Int := maxI ((allF m (m - 1)).map fun r => (r.length : Int))
def bestN (m : Nat) : List Int := lexMin ((allF m (m - 1)).filter fun r => decide ((r.length : Int) = mostN m))
def runN (m : Nat) : Option (List Int) := (runW Rm.more (fun z => okP m z.line) (Rm.step m) 1000 ⟨[0], [([0], [])]⟩).map Rm.best
theorem ring_run : ((List.range 13).all fun i => decide (runN (i + 1) = some (bestN (i + 1)))) = true := by decide +kernel
theorem ring_ne : ((List.range 13).all fun i => !decide (((allF (i + 1 : Nat) i).filter fun r => decide ((r.length : Int) = mostN (i + 1))) = [])) = true := by decide +kernel
def ringM (size : Nat) : Int := (size : Int) * ((size : Int) - 1) + 1
def rowO (size : Nat) : Option (List Int) := runR (foundF size) (okQ (ringM size)) (stepQ (ringM size)) 1000 [([0, 1], [1, ringM size - 1])]
def rowN (size : Nat) : List Int := (rowO size).getD []
def asc2 : List Int → Bool
  | a :: b :: r => decide (a < b) && asc2 (b :: r)
  | _ => true
def chkS (size : Nat) : Bool := decide (rowO size = some (rowN size)) && (decide ((rowN size).length = size) && (decide ((rowN size).getD 0 0 = 0) && (pastF (ringM size) (rowN size) && (inF (ringM size) (rowN size) && decide (asc (rowN size) = rowN size)))))
def chkL (size : Nat) : Bool := decide (rowN size = lexMin ((allF (ringM size) ((ringM size).toNat - 1)).filter fun r => decide ((r.length : Int) = (size : Int)))) && !decide (((allF (ringM size) ((ringM size).toNat - 1)).filter fun r => decide ((r.length : Int) = (size : Int))) = [])
theorem size_run : ((List.range 5).all fun i => chkS (i + 2)) = true := by decide +kernel
theorem size_low : ((List.range 3).all fun i => chkL (i + 2)) = true := by decide +kernel
end Dz
set_option Elab.async false
set_option linter.all false
set_option maxRecDepth 100000
/-! k09: the facts as propositions, shifting, a turn. -/
namespace Dz
open PySem
variable {n g : Nat} {X : XR} {Q : Rs}
theorem run_best {m : Nat} (h1 : 1 ≤ m) (h2 : m ≤ 13) : runN m = some (bestN m) := by
  have := List.all_eq_true.mp ring_run (m - 1) (List.mem_range.mpr (by omega))
  rw [Nat.sub_add_cancel h1] at this
  exact of_decide_eq_true this
theorem best_ne {m : Nat} (h1 : 1 ≤ m) (h2 : m ≤ 13) : ((allF m (m - 1)).filter fun r => decide ((r.length : Int) = mostN m)) ≠ [] := by
  have := List.all_eq_true.mp ring_ne (m - 1) (List.mem_range.mpr (by omega))
  rw [Nat.sub_add_cancel h1] at this
  rw [Bool.not_eq_true', decide_eq_false_iff_not] at this
  exact this
structure Fine (size : Nat) : Prop where
  run : rowO size = some (rowN size)
  len : (rowN size).length = size
  first : (rowN size).getD 0 0 = 0
  past : pastF (ringM size) (rowN size) = true
  inn : ∀ x ∈ rowN size, 0 ≤ x ∧ x < ringM size
  up : (rowN size).Pairwise (· < ·)
  m1 : 3 ≤ ringM size
  m2 : ringM size ≤ 31
theorem fine {size : Nat} (h1 : 2 ≤ size) (h2 : size ≤ 6) : Fine size := by
  have := List.all_eq_true.mp size_run (size - 2) (List.mem_range.mpr (by omega))
  rw [Nat.sub_add_cancel h1] at this
  unfold chkS at this
  rw [Bool.and_eq_true, Bool.and_eq_true, Bool.and_eq_true, Bool.and_eq_true, Bool.and_eq_true, decide_eq_true_eq, decide_eq_true_eq, decide_eq_true_eq, decide_eq_true_eq] at this
  obtain ⟨a, b, c, d, e, f⟩ := this
  have hm : 3 ≤ ringM size ∧ ringM size ≤ 31 := by
    rcases (by omega : size = 2 ∨ size = 3 ∨ size = 4 ∨ size = 5 ∨ size = 6) with rfl | rfl | rfl | rfl | rfl <;> decide
  refine ⟨a, b, c, d, fun x hx => ?_, by rw [← f]; exact asc_pw _, hm.1, hm.2⟩
  have := List.all_eq_true.mp e x hx
  rw [Bool.and_eq_true, decide_eq_true_eq, decide_eq_true_eq] at this
  exact this
theorem fine_low {size : Nat} (h1 : 2 ≤ size) (h2 : size < 5) : rowN size = lexMin ((allF (ringM size) ((ringM size).toNat - 1)).filter fun r => decide ((r.length : Int) = (size : Int))) ∧ ((allF (ringM size) ((ringM size).toNat - 1)).filter fun r => decide ((r.length : Int) = (size : Int))) ≠ [] := by
  have := List.all_eq_true.mp size_low (size - 2) (List.mem_range.mpr (by omega))
  rw [Nat.sub_add_cancel h1] at this
  unfold chkL at this
  rw [Bool.and_eq_true, decide_eq_true_eq, Bool.not_eq_true', decide_eq_false_iff_not] at this
  exact this
def moveF (w t s : Int) (row : List Int) : List Int := ord (row.map fun one => (one * t + s).fmod w)
theorem move_len (w t s : Int) (row : List Int) : (moveF w t s row).length = row.length := by
  unfold moveF
  rw [ord_len, List.length_map]
theorem move_in {w t s : Int} {row : List Int} (hw : 0 < w) : ∀ x ∈ moveF w t s row, 0 ≤ x ∧ x < w := fun x hx => by
  obtain ⟨y, _, rfl⟩ := List.mem_map.mp (ord_mem.mp hx)
  exact fmod_in hw
theorem move_up {w t s : Int} {row : List Int} (hw : 0 < w) (ht : Int.gcd t w = 1) (hin : ∀ x ∈ row, 0 ≤ x ∧ x < w) (hp : row.Pairwise (· < ·)) : (moveF w t s row).Pairwise (· < ·) := by
  refine ord_lt (List.pairwise_map.mpr (hp.imp_of_mem fun {a b} ha hb lt e => ?_))
  obtain ⟨a1, a2⟩ := hin a ha
  obtain ⟨b1, b2⟩ := hin b hb
  rw [Int.fmod_eq_emod_of_nonneg _ (by omega), Int.fmod_eq_emod_of_nonneg _ (by omega)] at e
  have d := Int.dvd_of_emod_eq_zero (Int.emod_eq_emod_iff_emod_sub_eq_zero.mp e.symm)
  rw [show b * t + s - (a * t + s) = (b - a) * t by rw [Int.sub_mul]; omega] at d
  have d2 := Int.dvd_mul_gcd_iff_dvd_mul.mpr d
  rw [Int.gcd_comm, ht] at d2
  rw [show ((1 : Nat) : Int) = 1 from rfl, Int.mul_one] at d2
  have := Int.le_of_dvd (by omega) d2
  omega
section
variable {kt : Kt} {s0 s2 s3 s4 s5 s6 s7 s8 s9 s10 s11 s12 s13 s14 s15 s16 s17 s18 s19 s20 s21 s22 : SV}
theorem t_pair {m : Int} {row : List Int} (hb : rBad m row = false) (hm : 1 ≤ m) (hm2 : m ≤ 60) (hl : row.length ≤ 60) (hn : ∀ s8 s20 s21, kt.nx [s0, .st, s2, s3, s4, s5, s6, s7, s8, s9, s10, s11, s12, s13, s14, s15, s16, s17, .fz (.int m), .fz (tI row), s20, s21, s22] g) : wpSL (Phi tb 12) b_law_22 [s0, .st, s2, s3, s4, s5, s6, s7, s8, s9, s10, s11, s12, s13, s14, s15, s16, s17, .fz (.int m), .fz (tI row), s20, s21, s22] g noX kt := by
  simp only [b_law_22, Bool.not_true, Bool.not_false, Bool.false_xor, Bool.true_xor, Bool.xor_false, Bool.xor_true, wpSL, wpS, wpE, wpL, wpA, wpJ, wpC, wpO, wpI, setD, setAll, setAllX, bindT, wipeE, List.set_cons_zero, List.set_cons_succ, List.getElem?_cons_zero, List.getElem?_cons_succ, e_fz, e_ow, e_st, e_int, e_int2, e_list, e_seqs1, e_seqs2, e_seq1, e_seq2, e_bool, e_kept0, e_kept1, e_add, e_cat, e_sub, e_mul, e_fdiv, e_mod, e_pow, e_catL, e_catT, e_repL, e_repT, e_eqI, e_eqS, e_neI, e_neS, e_lt, e_le, e_gt, e_ge, e_ltT, e_ixL, e_ixT, e_slL, e_slT, e_lenL, e_lenT, e_abs, e_intI, e_intB, e_str, e_max, e_min, e_repr, e_any, e_all, e_sum, e_listL, e_listT, e_tupL, e_tupT, e_n0, e_n1, e_n2, e_n3, e_n4, e_n5, e_memT, e_sset, e_lset, e_fI, e_fS, e_memL, e_ord, e_eqLL, e_eqL0, e_eqLT0, e_eqTT, e_neLL, e_neTT, e_neB, some_ex, if_tt, if_ff]
  refine s_law_fits (by omega) hl ?_
  simp only [b_law_23, Bool.not_true, Bool.not_false, Bool.false_xor, Bool.true_xor, Bool.xor_false, Bool.xor_true, wpSL, wpS, wpE, wpL, wpA, wpJ, wpC, wpO, wpI, setD, setAll, setAllX, bindT, wipeE, List.set_cons_zero, List.set_cons_succ, List.getElem?_cons_zero, List.getElem?_cons_succ, e_fz, e_ow, e_st, e_int, e_int2, e_list, e_seqs1, e_seqs2, e_seq1, e_seq2, e_bool, e_kept0, e_kept1, e_add, e_cat, e_sub, e_mul, e_fdiv, e_mod, e_pow, e_catL, e_catT, e_repL, e_repT, e_eqI, e_eqS, e_neI, e_neS, e_lt, e_le, e_gt, e_ge, e_ltT, e_ixL, e_ixT, e_slL, e_slT, e_lenL, e_lenT, e_abs, e_intI, e_intB, e_str, e_max, e_min, e_repr, e_any, e_all, e_sum, e_listL, e_listT, e_tupL, e_tupT, e_n0, e_n1, e_n2, e_n3, e_n4, e_n5, e_memT, e_sset, e_lset, e_fI, e_fS, e_memL, e_ord, e_eqLL, e_eqL0, e_eqLT0, e_eqTT, e_neLL, e_neTT, e_neB, some_ex, if_tt, if_ff, Bool.false_eq_true, if_false]
  refine s_law_apart (by omega) hl ?_
  simp only [Bool.not_true, Bool.not_false, Bool.false_xor, Bool.true_xor, Bool.xor_false, Bool.xor_true, wpSL, wpS, wpE, wpL, wpA, wpJ, wpC, wpO, wpI, setD, setAll, setAllX, bindT, wipeE, List.set_cons_zero, List.set_cons_succ, List.getElem?_cons_zero, List.getElem?_cons_succ, e_fz, e_ow, e_st, e_int, e_int2, e_list, e_seqs1, e_seqs2, e_seq1, e_seq2, e_bool, e_kept0, e_kept1, e_add, e_cat, e_sub, e_mul, e_fdiv, e_mod, e_pow, e_catL, e_catT, e_repL, e_repT, e_eqI, e_eqS, e_neI, e_neS, e_lt, e_le, e_gt, e_ge, e_ltT, e_ixL, e_ixT, e_slL, e_slT, e_lenL, e_lenT, e_abs, e_intI, e_intB, e_str, e_max, e_min, e_repr, e_any, e_all, e_sum, e_listL, e_listT, e_tupL, e_tupT, e_n0, e_n1, e_n2, e_n3, e_n4, e_n5, e_memT, e_sset, e_lset, e_fI, e_fS, e_memL, e_ord, e_eqLL, e_eqL0, e_eqLT0, e_eqTT, e_neLL, e_neTT, e_neB, some_ex, if_tt, if_ff]
  refine ⟨⟨by decide, by decide, by omega, by omega, by omega⟩, ?_⟩
  rw [rng_map]
  simp only [Bool.not_true, Bool.not_false, Bool.false_xor, Bool.true_xor, Bool.xor_false, Bool.xor_true, wpSL, wpS, wpE, wpL, wpA, wpJ, wpC, wpO, wpI, setD, setAll, setAllX, bindT, wipeE, List.set_cons_zero, List.set_cons_succ, List.getElem?_cons_zero, List.getElem?_cons_succ, e_fz, e_ow, e_st, e_int, e_int2, e_list, e_seqs1, e_seqs2, e_seq1, e_seq2, e_bool, e_kept0, e_kept1, e_add, e_cat, e_sub, e_mul, e_fdiv, e_mod, e_pow, e_catL, e_catT, e_repL, e_repT, e_eqI, e_eqS, e_neI, e_neS, e_lt, e_le, e_gt, e_ge, e_ltT, e_ixL, e_ixT, e_slL, e_slT, e_lenL, e_lenT, e_abs, e_intI, e_intB, e_str, e_max, e_min, e_repr, e_any, e_all, e_sum, e_listL, e_listT, e_tupL, e_tupT, e_n0, e_n1, e_n2, e_n3, e_n4, e_n5, e_memT, e_sset, e_lset, e_fI, e_fS, e_memL, e_ord, e_eqLL, e_eqL0, e_eqLT0, e_eqTT, e_neLL, e_neTT, e_neB, some_ex, if_tt, if_ff]
  have e : decide (ord (apartF m row) = rng 1 m) = pastF m row := rfl
  rw [e]
  simp only [b_law_24, Bool.not_true, Bool.not_false, Bool.false_xor, Bool.true_xor, Bool.xor_false, Bool.xor_true, wpSL, wpS, wpE, wpL, wpA, wpJ, wpC, wpO, wpI, setD, setAll, setAllX, bindT, wipeE, List.set_cons_zero, List.set_cons_succ, List.getElem?_cons_zero, List.getElem?_cons_succ, e_fz, e_ow, e_st, e_int, e_int2, e_list, e_seqs1, e_seqs2, e_seq1, e_seq2, e_bool, e_kept0, e_kept1, e_add, e_cat, e_sub, e_mul, e_fdiv, e_mod, e_pow, e_catL, e_catT, e_repL, e_repT, e_eqI, e_eqS, e_neI, e_neS, e_lt, e_le, e_gt, e_ge, e_ltT, e_ixL, e_ixT, e_slL, e_slT, e_lenL, e_lenT, e_abs, e_intI, e_intB, e_str, e_max, e_min, e_repr, e_any, e_all, e_sum, e_listL, e_listT, e_tupL, e_tupT, e_n0, e_n1, e_n2, e_n3, e_n4, e_n5, e_memT, e_sset, e_lset, e_fI, e_fS, e_memL, e_ord, e_eqLL, e_eqL0, e_eqLT0, e_eqTT, e_neLL, e_neTT, e_neB, some_ex, if_tt, if_ff]
  refine s_unlike hl hb ?_
  refine s_perfect hl hb hm2 ?_
  refine ⟨small' (by simp), ?_⟩
  simp only [b_law_25, Bool.not_true, Bool.not_false, Bool.false_xor, Bool.true_xor, Bool.xor_false, Bool.xor_true, wpSL, wpS, wpE, wpL, wpA, wpJ, wpC, wpO, wpI, setD, setAll, setAllX, bindT, wipeE, List.set_cons_zero, List.set_cons_succ, List.getElem?_cons_zero, List.getElem?_cons_succ, e_fz, e_ow, e_st, e_int, e_int2, e_list, e_seqs1, e_seqs2, e_seq1, e_seq2, e_bool, e_kept0, e_kept1, e_add, e_cat, e_sub, e_mul, e_fdiv, e_mod, e_pow, e_catL, e_catT, e_repL, e_repT, e_eqI, e_eqS, e_neI, e_neS, e_lt, e_le, e_gt, e_ge, e_ltT, e_ixL, e_ixT, e_slL, e_slT, e_lenL, e_lenT, e_abs, e_intI, e_intB, e_str, e_max, e_min, e_repr, e_any, e_all, e_sum, e_listL, e_listT, e_tupL, e_tupT, e_n0, e_n1, e_n2, e_n3, e_n4, e_n5, e_memT, e_sset, e_lset, e_fI, e_fS, e_memL, e_ord, e_eqLL, e_eqL0, e_eqLT0, e_eqTT, e_neLL, e_neTT, e_neB, some_ex, if_tt, if_ff]
  refine ⟨small' (by simp), small' (by simp), small' (by simp), s_law_same ((sh_list (.cons (sh_toldT (dp := 1) sh_bool) (.cons (sh_toldT sh_bool) .nil))).mono (by decide) (by decide)) ?_⟩
  rw [e_bool, if_neg (by decide)]
  exact hn _ _ _
theorem t_odd {m : Nat} (h1 : 1 ≤ m) (h2 : m ≤ 13) (hg : 10 ≤ g) (hn : ∀ s14 s15, kt.nx [s0, .st, s2, .fz (.int m), s4, s5, s6, s7, s8, s9, s10, s11, s12, s13, s14, s15, s16, s17, s18, s19, s20, s21, s22] (g - 1)) : wpSL (Phi tb 12) b_law_27 [s0, .st, s2, .fz (.int m), s4, s5, s6, s7, s8, s9, s10, s11, s12, s13, s14, s15, s16, s17, s18, s19, s20, s21, s22] g noX kt := by
  simp only [b_law_27, Bool.not_true, Bool.not_false, Bool.false_xor, Bool.true_xor, Bool.xor_false, Bool.xor_true, wpSL, wpS, wpE, wpL, wpA, wpJ, wpC, wpO, wpI, setD, setAll, setAllX, bindT, wipeE, List.set_cons_zero, List.set_cons_succ, List.getElem?_cons_zero, List.getElem?_cons_succ, e_fz, e_ow, e_st, e_int, e_int2, e_list, e_seqs1, e_seqs2, e_seq1, e_seq2, e_bool, e_kept0, e_kept1, e_add, e_cat, e_sub, e_mul, e_fdiv, e_mod, e_pow, e_catL, e_catT, e_repL, e_repT, e_eqI, e_eqS, e_neI, e_neS, e_lt, e_le, e_gt, e_ge, e_ltT, e_ixL, e_ixT, e_slL, e_slT, e_lenL, e_lenT, e_abs, e_intI, e_intB, e_str, e_max, e_min, e_repr, e_any, e_all, e_sum, e_listL, e_listT, e_tupL, e_tupT, e_n0, e_n1, e_n2, e_n3, e_n4, e_n5, e_memT, e_sset, e_lset, e_fI, e_fS, e_memL, e_ord, e_eqLL, e_eqL0, e_eqLT0, e_eqTT, e_neLL, e_neTT, e_neB, some_ex, if_tt, if_ff]
  refine ⟨small' (by simp), s_wrong h1 h2 (by omega) fun a row hb hl => ?_⟩
  simp only [b_law_28, Bool.not_true, Bool.not_false, Bool.false_xor, Bool.true_xor, Bool.xor_false, Bool.xor_true, wpSL, wpS, wpE, wpL, wpA, wpJ, wpC, wpO, wpI, setD, setAll, setAllX, bindT, wipeE, List.set_cons_zero, List.set_cons_succ, List.getElem?_cons_zero, List.getElem?_cons_succ, e_fz, e_ow, e_st, e_int, e_int2, e_list, e_seqs1, e_seqs2, e_seq1, e_seq2, e_bool, e_kept0, e_kept1, e_add, e_cat, e_sub, e_mul, e_fdiv, e_mod, e_pow, e_catL, e_catT, e_repL, e_repT, e_eqI, e_eqS, e_neI, e_neS, e_lt, e_le, e_gt, e_ge, e_ltT, e_ixL, e_ixT, e_slL, e_slT, e_lenL, e_lenT, e_abs, e_intI, e_intB, e_str, e_max, e_min, e_repr, e_any, e_all, e_sum, e_listL, e_listT, e_tupL, e_tupT, e_n0, e_n1, e_n2, e_n3, e_n4, e_n5, e_memT, e_sset, e_lset, e_fI, e_fS, e_memL, e_ord, e_eqLL, e_eqL0, e_eqLT0, e_eqTT, e_neLL, e_neTT, e_neB, some_ex, if_tt, if_ff, at_0, at_1]
  refine s_unlike_no hl hb ⟨0, by decide, rfl, ?_⟩
  refine s_perfect_no hl hb ⟨0, by decide, rfl, ?_⟩
  refine s_most_no (.inl (by decide)) ⟨0, by decide, rfl, ?_⟩
  refine s_most_no (.inr (by decide)) ⟨0, by decide, rfl, ?_⟩
  refine s_pof_no (.inl (by decide)) ⟨0, by decide, rfl, ?_⟩
  refine s_pof_no (.inr (by decide)) ⟨0, by decide, rfl, ?_⟩
  refine ⟨small' (by simp), ?_⟩
  have sp : Sp 2 (.list (List.replicate 6 (PyData.tuple [.str "refused"]))) := sp_list (SpA.rep (sp_tup (.cons (sp_str (by decide +kernel)) .nil)))
  have hn' := hn (.fz (.tuple [.int a, tI row])) (.fz (.list (List.replicate 6 (PyData.tuple [.str "refused"]))))
  simp only [b_law_29, Bool.not_true, Bool.not_false, Bool.false_xor, Bool.true_xor, Bool.xor_false, Bool.xor_true, wpSL, wpS, wpE, wpL, wpA, wpJ, wpC, wpO, wpI, setD, setAll, setAllX, bindT, wipeE, List.set_cons_zero, List.set_cons_succ, List.getElem?_cons_zero, List.getElem?_cons_succ, e_fz, e_ow, e_st, e_int, e_int2, e_list, e_seqs1, e_seqs2, e_seq1, e_seq2, e_bool, e_kept0, e_kept1, e_add, e_cat, e_sub, e_mul, e_fdiv, e_mod, e_pow, e_catL, e_catT, e_repL, e_repT, e_eqI, e_eqS, e_neI, e_neS, e_lt, e_le, e_gt, e_ge, e_ltT, e_ixL, e_ixT, e_slL, e_slT, e_lenL, e_lenT, e_abs, e_intI, e_intB, e_str, e_max, e_min, e_repr, e_any, e_all, e_sum, e_listL, e_listT, e_tupL, e_tupT, e_n0, e_n1, e_n2, e_n3, e_n4, e_n5, e_memT, e_sset, e_lset, e_fI, e_fS, e_memL, e_ord, e_eqLL, e_eqL0, e_eqLT0, e_eqTT, e_neLL, e_neTT, e_neB, some_ex, if_tt, if_ff]
  refine ⟨small' (by simp), small' (by simp), ⟨by decide, by decide, small' (n := 6) (by decide)⟩, ?_⟩
  refine ne_self sp (by decide) ?_
  simp only [Bool.not_true, Bool.not_false, Bool.false_xor, Bool.true_xor, Bool.xor_false, Bool.xor_true, wpSL, wpS, wpE, wpL, wpA, wpJ, wpC, wpO, wpI, setD, setAll, setAllX, bindT, wipeE, List.set_cons_zero, List.set_cons_succ, List.getElem?_cons_zero, List.getElem?_cons_succ, e_fz, e_ow, e_st, e_int, e_int2, e_list, e_seqs1, e_seqs2, e_seq1, e_seq2, e_bool, e_kept0, e_kept1, e_add, e_cat, e_sub, e_mul, e_fdiv, e_mod, e_pow, e_catL, e_catT, e_repL, e_repT, e_eqI, e_eqS, e_neI, e_neS, e_lt, e_le, e_gt, e_ge, e_ltT, e_ixL, e_ixT, e_slL, e_slT, e_lenL, e_lenT, e_abs, e_intI, e_intB, e_str, e_max, e_min, e_repr, e_any, e_all, e_sum, e_listL, e_listT, e_tupL, e_tupT, e_n0, e_n1, e_n2, e_n3, e_n4, e_n5, e_memT, e_sset, e_lset, e_fI, e_fS, e_memL, e_ord, e_eqLL, e_eqL0, e_eqLT0, e_eqTT, e_neLL, e_neTT, e_neB, some_ex, if_tt, if_ff]
  exact hn'
end
end Dz
set_option Elab.async false
set_option linter.all false
set_option maxRecDepth 100000
/-! k09: a turn, the law. -/
namespace Dz
open PySem
variable {n g : Nat} {X : XR} {Q : Rs}
theorem allF_in (m : Int) : ∀ {i : Nat} {r : List Int}, r ∈ allF m i → ∀ x ∈ r, 0 ≤ x ∧ x ≤ i
  | 0, r, h, x, hx => by
    rw [List.mem_singleton.mp h, List.mem_singleton] at hx
    omega
  | i + 1, r, h, x, hx => by
    unfold allF at h
    rcases List.mem_append.mp h with h | h
    · have := allF_in m h x hx
      omega
    · obtain ⟨q, hq, e⟩ := List.mem_map.mp h
      rw [← e] at hx
      rcases List.mem_append.mp hx with hx | hx
      · have := allF_in m (List.mem_filter.mp hq).1 x hx
        omega
      · rw [List.mem_singleton] at hx
        omega
section
variable {kt : Kt} {s0 s2 s3 s4 s5 s6 s7 s8 s9 s10 s11 s12 s13 s14 s15 s16 s17 s18 s19 s20 s21 s22 : SV}
/-- from the perfect set on -/
theorem t_moved {m size : Nat} (h1 : 1 ≤ m) (h2 : m ≤ 13) (hs1 : 2 ≤ size) (hs2 : size ≤ 6) (hg : 200 ≤ g) (hn : ∀ g' s3 s4 s5 s6 s7 s8 s9 s10 s11 s12 s13 s14 s15 s16 s17 s18 s19 s20 s21 s22, g ≤ g' + 40 → kt.nx [s0, .st, s2, s3, s4, s5, s6, s7, s8, s9, s10, s11, s12, s13, s14, s15, s16, s17, s18, s19, s20, s21, s22] g') : wpSL (Phi tb 12) b_law_16 [s0, .st, s2, .fz (.int m), s4, s5, s6, s7, s8, s9, s10, s11, s12, s13, s14, s15, .fz (.int (ringM size)), .fz (tI (rowN size)), s18, s19, s20, s21, s22] g noX kt := by
  have F := fine hs1 hs2
  have m1 := F.m1
  have m2 := F.m2
  have rl := F.len
  simp only [b_law_16, Bool.not_true, Bool.not_false, Bool.false_xor, Bool.true_xor, Bool.xor_false, Bool.xor_true, wpSL, wpS, wpE, wpL, wpA, wpJ, wpC, wpO, wpI, setD, setAll, setAllX, bindT, wipeE, List.set_cons_zero, List.set_cons_succ, List.getElem?_cons_zero, List.getElem?_cons_succ, e_fz, e_ow, e_st, e_int, e_int2, e_list, e_seqs1, e_seqs2, e_seq1, e_seq2, e_bool, e_kept0, e_kept1, e_add, e_cat, e_sub, e_mul, e_fdiv, e_mod, e_pow, e_catL, e_catT, e_repL, e_repT, e_eqI, e_eqS, e_neI, e_neS, e_lt, e_le, e_gt, e_ge, e_ltT, e_ixL, e_ixT, e_slL, e_slT, e_lenL, e_lenT, e_abs, e_intI, e_intB, e_str, e_max, e_min, e_repr, e_any, e_all, e_sum, e_listL, e_listT, e_tupL, e_tupT, e_n0, e_n1, e_n2, e_n3, e_n4, e_n5, e_memT, e_sset, e_lset, e_fI, e_fS, e_memL, e_ord, e_eqLL, e_eqL0, e_eqLT0, e_eqTT, e_neLL, e_neTT, e_neB, some_ex, if_tt, if_ff]
  refine ⟨by omega, by omega, fun st hs0 hs1 => ?_⟩
  simp only [b_law_17, Bool.not_true, Bool.not_false, Bool.false_xor, Bool.true_xor, Bool.xor_false, Bool.xor_true, wpSL, wpS, wpE, wpL, wpA, wpJ, wpC, wpO, wpI, setD, setAll, setAllX, bindT, wipeE, List.set_cons_zero, List.set_cons_succ, List.getElem?_cons_zero, List.getElem?_cons_succ, e_fz, e_ow, e_st, e_int, e_int2, e_list, e_seqs1, e_seqs2, e_seq1, e_seq2, e_bool, e_kept0, e_kept1, e_add, e_cat, e_sub, e_mul, e_fdiv, e_mod, e_pow, e_catL, e_catT, e_repL, e_repT, e_eqI, e_eqS, e_neI, e_neS, e_lt, e_le, e_gt, e_ge, e_ltT, e_ixL, e_ixT, e_slL, e_slT, e_lenL, e_lenT, e_abs, e_intI, e_intB, e_str, e_max, e_min, e_repr, e_any, e_all, e_sum, e_listL, e_listT, e_tupL, e_tupT, e_n0, e_n1, e_n2, e_n3, e_n4, e_n5, e_memT, e_sset, e_lset, e_fI, e_fS, e_memL, e_ord, e_eqLL, e_eqL0, e_eqLT0, e_eqTT, e_neLL, e_neTT, e_neB, some_ex, if_tt, if_ff, if_true]
  refine ⟨⟨by decide, by decide, by omega, by omega⟩, ?_⟩
  rw [rng_map]
  refine comp_fil PyData.int (fun k => decide ((Int.gcd k (ringM size) : Int) = 1)) PyData.int (small' (by rw [rng_len']; omega)) (fun k hk K a b => ?_) ?_
  · refine s_law_divisor ?_
    simp only [Bool.not_true, Bool.not_false, Bool.false_xor, Bool.true_xor, Bool.xor_false, Bool.xor_true, wpSL, wpS, wpE, wpL, wpA, wpJ, wpC, wpO, wpI, setD, setAll, setAllX, bindT, wipeE, List.set_cons_zero, List.set_cons_succ, List.getElem?_cons_zero, List.getElem?_cons_succ, e_fz, e_ow, e_st, e_int, e_int2, e_list, e_seqs1, e_seqs2, e_seq1, e_seq2, e_bool, e_kept0, e_kept1, e_add, e_cat, e_sub, e_mul, e_fdiv, e_mod, e_pow, e_catL, e_catT, e_repL, e_repT, e_eqI, e_eqS, e_neI, e_neS, e_lt, e_le, e_gt, e_ge, e_ltT, e_ixL, e_ixT, e_slL, e_slT, e_lenL, e_lenT, e_abs, e_intI, e_intB, e_str, e_max, e_min, e_repr, e_any, e_all, e_sum, e_listL, e_listT, e_tupL, e_tupT, e_n0, e_n1, e_n2, e_n3, e_n4, e_n5, e_memT, e_sset, e_lset, e_fI, e_fS, e_memL, e_ord, e_eqLL, e_eqL0, e_eqLT0, e_eqTT, e_neLL, e_neTT, e_neB, some_ex, if_tt, if_ff]
    split
    · next q => exact a q
    · next q => exact b (eq_false_of_ne_true q)
  have one : 1 ∈ (rng 1 (ringM size)).filter fun k => decide ((Int.gcd k (ringM size) : Int) = 1) := List.mem_filter.mpr ⟨rng_mem.mpr ⟨by omega, by omega⟩, decide_eq_true (by rw [Int.one_gcd]; rfl)⟩
  have gl : 0 < ((rng 1 (ringM size)).filter fun k => decide ((Int.gcd k (ringM size) : Int) = 1)).length := List.length_pos_iff.mpr fun e => by rw [e] at one; cases one
  have gi : ∀ x ∈ (rng 1 (ringM size)).filter fun k => decide ((Int.gcd k (ringM size) : Int) = 1), 1 ≤ x ∧ x < ringM size ∧ Int.gcd x (ringM size) = 1 := fun x hx => by
    obtain ⟨a, b⟩ := List.mem_filter.mp hx
    have := rng_mem.mp a
    have := of_decide_eq_true b
    omega
  generalize (rng 1 (ringM size)).filter (fun k => decide ((Int.gcd k (ringM size) : Int) = 1)) = factor at gl gi
  simp only [b_law_18, Bool.not_true, Bool.not_false, Bool.false_xor, Bool.true_xor, Bool.xor_false, Bool.xor_true, wpSL, wpS, wpE, wpL, wpA, wpJ, wpC, wpO, wpI, setD, setAll, setAllX, bindT, wipeE, List.set_cons_zero, List.set_cons_succ, List.getElem?_cons_zero, List.getElem?_cons_succ, e_fz, e_ow, e_st, e_int, e_int2, e_list, e_seqs1, e_seqs2, e_seq1, e_seq2, e_bool, e_kept0, e_kept1, e_add, e_cat, e_sub, e_mul, e_fdiv, e_mod, e_pow, e_catL, e_catT, e_repL, e_repT, e_eqI, e_eqS, e_neI, e_neS, e_lt, e_le, e_gt, e_ge, e_ltT, e_ixL, e_ixT, e_slL, e_slT, e_lenL, e_lenT, e_abs, e_intI, e_intB, e_str, e_max, e_min, e_repr, e_any, e_all, e_sum, e_listL, e_listT, e_tupL, e_tupT, e_n0, e_n1, e_n2, e_n3, e_n4, e_n5, e_memT, e_sset, e_lset, e_fI, e_fS, e_memL, e_ord, e_eqLL, e_eqL0, e_eqLT0, e_eqTT, e_neLL, e_neTT, e_neB, some_ex, if_tt, if_ff, List.length_map]
  refine ⟨by omega, by omega, fun y hy0 hy1 => ?_⟩
  rw [at_ints hy0 hy1]
  obtain ⟨t1, t2, t3⟩ := gi _ (getD_mem (ns := factor) (i := y.toNat) (by omega))
  generalize factor.getD y.toNat 0 = t at t1 t2 t3
  refine ⟨_, rfl, ?_⟩
  simp only [b_law_19, Bool.not_true, Bool.not_false, Bool.false_xor, Bool.true_xor, Bool.xor_false, Bool.xor_true, wpSL, wpS, wpE, wpL, wpA, wpJ, wpC, wpO, wpI, setD, setAll, setAllX, bindT, wipeE, List.set_cons_zero, List.set_cons_succ, List.getElem?_cons_zero, List.getElem?_cons_succ, e_fz, e_ow, e_st, e_int, e_int2, e_list, e_seqs1, e_seqs2, e_seq1, e_seq2, e_bool, e_kept0, e_kept1, e_add, e_cat, e_sub, e_mul, e_fdiv, e_mod, e_pow, e_catL, e_catT, e_repL, e_repT, e_eqI, e_eqS, e_neI, e_neS, e_lt, e_le, e_gt, e_ge, e_ltT, e_ixL, e_ixT, e_slL, e_slT, e_lenL, e_lenT, e_abs, e_intI, e_intB, e_str, e_max, e_min, e_repr, e_any, e_all, e_sum, e_listL, e_listT, e_tupL, e_tupT, e_n0, e_n1, e_n2, e_n3, e_n4, e_n5, e_memT, e_sset, e_lset, e_fI, e_fS, e_memL, e_ord, e_eqLL, e_eqL0, e_eqLT0, e_eqTT, e_neLL, e_neTT, e_neB, some_ex, if_tt, if_ff, if_true]
  refine comp_map PyData.int (fun one => PyData.int ((one * t + st).fmod (ringM size))) (small' (by omega)) (fun x hx K h => ?_) ?_
  · have := F.inn x hx
    simp only [Bool.not_true, Bool.not_false, Bool.false_xor, Bool.true_xor, Bool.xor_false, Bool.xor_true, wpSL, wpS, wpE, wpL, wpA, wpJ, wpC, wpO, wpI, setD, setAll, setAllX, bindT, wipeE, List.set_cons_zero, List.set_cons_succ, List.getElem?_cons_zero, List.getElem?_cons_succ, e_fz, e_ow, e_st, e_int, e_int2, e_list, e_seqs1, e_seqs2, e_seq1, e_seq2, e_bool, e_kept0, e_kept1, e_add, e_cat, e_sub, e_mul, e_fdiv, e_mod, e_pow, e_catL, e_catT, e_repL, e_repT, e_eqI, e_eqS, e_neI, e_neS, e_lt, e_le, e_gt, e_ge, e_ltT, e_ixL, e_ixT, e_slL, e_slT, e_lenL, e_lenT, e_abs, e_intI, e_intB, e_str, e_max, e_min, e_repr, e_any, e_all, e_sum, e_listL, e_listT, e_tupL, e_tupT, e_n0, e_n1, e_n2, e_n3, e_n4, e_n5, e_memT, e_sset, e_lset, e_fI, e_fS, e_memL, e_ord, e_eqLL, e_eqL0, e_eqLT0, e_eqTT, e_neLL, e_neTT, e_neB, some_ex, if_tt, if_ff]
    exact ⟨.inl ⟨by omega, by omega⟩, by omega, h⟩
  have em : (rowN size).map (fun one => PyData.int ((one * t + st).fmod (ringM size))) = ((rowN size).map fun one => (one * t + st).fmod (ringM size)).map PyData.int := by rw [List.map_map]; rfl
  rw [em]
  simp only [Bool.not_true, Bool.not_false, Bool.false_xor, Bool.true_xor, Bool.xor_false, Bool.xor_true, wpSL, wpS, wpE, wpL, wpA, wpJ, wpC, wpO, wpI, setD, setAll, setAllX, bindT, wipeE, List.set_cons_zero, List.set_cons_succ, List.getElem?_cons_zero, List.getElem?_cons_succ, e_fz, e_ow, e_st, e_int, e_int2, e_list, e_seqs1, e_seqs2, e_seq1, e_seq2, e_bool, e_kept0, e_kept1, e_add, e_cat, e_sub, e_mul, e_fdiv, e_mod, e_pow, e_catL, e_catT, e_repL, e_repT, e_eqI, e_eqS, e_neI, e_neS, e_lt, e_le, e_gt, e_ge, e_ltT, e_ixL, e_ixT, e_slL, e_slT, e_lenL, e_lenT, e_abs, e_intI, e_intB, e_str, e_max, e_min, e_repr, e_any, e_all, e_sum, e_listL, e_listT, e_tupL, e_tupT, e_n0, e_n1, e_n2, e_n3, e_n4, e_n5, e_memT, e_sset, e_lset, e_fI, e_fS, e_memL, e_ord, e_eqLL, e_eqL0, e_eqLT0, e_eqTT, e_neLL, e_neTT, e_neB, some_ex, if_tt, if_ff]
  have emv : ord ((rowN size).map fun one => (one * t + st).fmod (ringM size)) = moveF (ringM size) t st (rowN size) := rfl
  rw [emv]
  have ml := move_len (ringM size) t st (rowN size)
  have mi := move_in (w := ringM size) (t := t) (s := st) (row := rowN size) (by omega)
  have mu := move_up (w := ringM size) (t := t) (s := st) (row := rowN size) (by omega) t3 F.inn F.up
  rw [rl] at ml
  generalize moveF (ringM size) t st (rowN size) = mv at ml mi mu
  have mne : mv ≠ [] := fun e => by rw [e] at ml; simp at ml; omega
  simp only [b_law_20, Bool.not_true, Bool.not_false, Bool.false_xor, Bool.true_xor, Bool.xor_false, Bool.xor_true, wpSL, wpS, wpE, wpL, wpA, wpJ, wpC, wpO, wpI, setD, setAll, setAllX, bindT, wipeE, List.set_cons_zero, List.set_cons_succ, List.getElem?_cons_zero, List.getElem?_cons_succ, e_fz, e_ow, e_st, e_int, e_int2, e_list, e_seqs1, e_seqs2, e_seq1, e_seq2, e_bool, e_kept0, e_kept1, e_add, e_cat, e_sub, e_mul, e_fdiv, e_mod, e_pow, e_catL, e_catT, e_repL, e_repT, e_eqI, e_eqS, e_neI, e_neS, e_lt, e_le, e_gt, e_ge, e_ltT, e_ixL, e_ixT, e_slL, e_slT, e_lenL, e_lenT, e_abs, e_intI, e_intB, e_str, e_max, e_min, e_repr, e_any, e_all, e_sum, e_listL, e_listT, e_tupL, e_tupT, e_n0, e_n1, e_n2, e_n3, e_n4, e_n5, e_memT, e_sset, e_lset, e_fI, e_fS, e_memL, e_ord, e_eqLL, e_eqL0, e_eqLT0, e_eqTT, e_neLL, e_neTT, e_neB, some_ex, if_tt, if_ff]
  have ec : cutD (mv.map PyData.int) (some 1) none = (mv.drop 1).map PyData.int := by
    have := cut_from (mv.map PyData.int) 1
    rw [show ((1 : Nat) : Int) = 1 from rfl] at this
    rw [this, List.map_drop]
  rw [ec, at_ints (by decide) (by omega)]
  refine ⟨_, rfl, ?_⟩
  simp only [Bool.not_true, Bool.not_false, Bool.false_xor, Bool.true_xor, Bool.xor_false, Bool.xor_true, wpSL, wpS, wpE, wpL, wpA, wpJ, wpC, wpO, wpI, setD, setAll, setAllX, bindT, wipeE, List.set_cons_zero, List.set_cons_succ, List.getElem?_cons_zero, List.getElem?_cons_succ, e_fz, e_ow, e_st, e_int, e_int2, e_list, e_seqs1, e_seqs2, e_seq1, e_seq2, e_bool, e_kept0, e_kept1, e_add, e_cat, e_sub, e_mul, e_fdiv, e_mod, e_pow, e_catL, e_catT, e_repL, e_repT, e_eqI, e_eqS, e_neI, e_neS, e_lt, e_le, e_gt, e_ge, e_ltT, e_ixL, e_ixT, e_slL, e_slT, e_lenL, e_lenT, e_abs, e_intI, e_intB, e_str, e_max, e_min, e_repr, e_any, e_all, e_sum, e_listL, e_listT, e_tupL, e_tupT, e_n0, e_n1, e_n2, e_n3, e_n4, e_n5, e_memT, e_sset, e_lset, e_fI, e_fS, e_memL, e_ord, e_eqLL, e_eqL0, e_eqLT0, e_eqTT, e_neLL, e_neTT, e_neB, some_ex, if_tt, if_ff]
  refine ⟨by omega, by omega, fun z hz0 hz1 => ?_⟩
  have ev := fmod_in (a := mv.getD (Int.toNat 0) 0 + 1 + z) (m := ringM size) (by omega)
  generalize (mv.getD (Int.toNat 0) 0 + 1 + z).fmod (ringM size) = v at ev
  have es : [PyData.int v] ++ (mv.drop 1).map PyData.int = (v :: mv.drop 1).map PyData.int := rfl
  rw [es]
  refine ⟨by omega, small' (by simp), small' (by simp; omega), ?_⟩
  simp only [Bool.not_true, Bool.not_false, Bool.false_xor, Bool.true_xor, Bool.xor_false, Bool.xor_true, wpSL, wpS, wpE, wpL, wpA, wpJ, wpC, wpO, wpI, setD, setAll, setAllX, bindT, wipeE, List.set_cons_zero, List.set_cons_succ, List.getElem?_cons_zero, List.getElem?_cons_succ, e_fz, e_ow, e_st, e_int, e_int2, e_list, e_seqs1, e_seqs2, e_seq1, e_seq2, e_bool, e_kept0, e_kept1, e_add, e_cat, e_sub, e_mul, e_fdiv, e_mod, e_pow, e_catL, e_catT, e_repL, e_repT, e_eqI, e_eqS, e_neI, e_neS, e_lt, e_le, e_gt, e_ge, e_ltT, e_ixL, e_ixT, e_slL, e_slT, e_lenL, e_lenT, e_abs, e_intI, e_intB, e_str, e_max, e_min, e_repr, e_any, e_all, e_sum, e_listL, e_listT, e_tupL, e_tupT, e_n0, e_n1, e_n2, e_n3, e_n4, e_n5, e_memT, e_sset, e_lset, e_fI, e_fS, e_memL, e_ord, e_eqLL, e_eqL0, e_eqLT0, e_eqTT, e_neLL, e_neTT, e_neB, some_ex, if_tt, if_ff]
  refine ⟨by simp; omega, ?_⟩
  have bi : ∀ x ∈ asc (v :: mv.drop 1), 0 ≤ x ∧ x < ringM size := fun x hx => by
    rcases List.mem_cons.mp (asc_mem.mp hx) with rfl | hx
    · exact ev
    · exact mi x (List.mem_of_mem_drop hx)
  have bu := asc_pw (v :: mv.drop 1)
  have bn := asc_ne (l := v :: mv.drop 1) (by simp)
  have bl := asc_len (v :: mv.drop 1)
  rw [List.length_cons, List.length_drop] at bl
  generalize asc (v :: mv.drop 1) = bent at bi bu bn bl
  simp only [b_law_21, Bool.not_true, Bool.not_false, Bool.false_xor, Bool.true_xor, Bool.xor_false, Bool.xor_true, wpSL, wpS, wpE, wpL, wpA, wpJ, wpC, wpO, wpI, setD, setAll, setAllX, bindT, wipeE, List.set_cons_zero, List.set_cons_succ, List.getElem?_cons_zero, List.getElem?_cons_succ, e_fz, e_ow, e_st, e_int, e_int2, e_list, e_seqs1, e_seqs2, e_seq1, e_seq2, e_bool, e_kept0, e_kept1, e_add, e_cat, e_sub, e_mul, e_fdiv, e_mod, e_pow, e_catL, e_catT, e_repL, e_repT, e_eqI, e_eqS, e_neI, e_neS, e_lt, e_le, e_gt, e_ge, e_ltT, e_ixL, e_ixT, e_slL, e_slT, e_lenL, e_lenT, e_abs, e_intI, e_intB, e_str, e_max, e_min, e_repr, e_any, e_all, e_sum, e_listL, e_listT, e_tupL, e_tupT, e_n0, e_n1, e_n2, e_n3, e_n4, e_n5, e_memT, e_sset, e_lset, e_fI, e_fS, e_memL, e_ord, e_eqLL, e_eqL0, e_eqLT0, e_eqTT, e_neLL, e_neTT, e_neB, some_ex, if_tt, if_ff]
  refine ⟨small' (by simp), small' (by simp), s_law_ring h1 h2 (by omega) fun rr g' hg' rne rin rup rlen => ?_⟩
  rw [ec]
  refine ⟨small' (by simp), small' (by simp), small' (by simp), ?_⟩
  have el : [PyData.tuple [.int (ringM size), .tuple (mv.map PyData.int)], .tuple [.int (ringM size), .tuple (bent.map PyData.int)], .tuple [.int m, tI rr], .tuple [.int (ringM size), .tuple ((mv.drop 1).map PyData.int)]] = [(ringM size, mv), (ringM size, bent), ((m : Int), rr), (ringM size, mv.drop 1)].map fun p : Int × List Int => PyData.tuple [.int p.1, tI p.2] := rfl
  rw [el]
  refine for_inv (fun i ρ g2 => g2 = g' ∧ ∃ s8 s18 s19 s20 s21, ρ = [s0, .st, s2, .fz (.int m), s4, s5, s6, s7, s8, .fz (.int st), .fz (.list (factor.map PyData.int)), .fz (.int t), .fz (.tuple (mv.map PyData.int)), .fz (.tuple (bent.map PyData.int)), s14, s15, .fz (.int (ringM size)), .fz (tI (rowN size)), s18, s19, s20, s21, s22]) ⟨rfl, _, _, _, _, _, rfl⟩ ?_ ?_
  · rintro i d ρ g2 nx hd ⟨rfl, s8, s18, s19, s20, s21, rfl⟩ nxt
    obtain ⟨p, _, hp, rfl, _, _⟩ := map_at hd
    refine ⟨_, rfl, ?_⟩
    have hp2 : rBad p.1 p.2 = false ∧ 1 ≤ p.1 ∧ p.1 ≤ 60 ∧ p.2.length ≤ 60 := by
      simp only [List.mem_cons, List.not_mem_nil, or_false] at hp
      rcases hp with rfl | rfl | rfl | rfl
      · exact ⟨rBad_ok (by omega) (by omega) mne mi mu, by show 1 ≤ ringM size; omega, by show ringM size ≤ 60; omega, by show mv.length ≤ 60; omega⟩
      · exact ⟨rBad_ok (by omega) (by omega) bn bi bu, by show 1 ≤ ringM size; omega, by show ringM size ≤ 60; omega, by show bent.length ≤ 60; omega⟩
      · exact ⟨rBad_ok (by omega) (by omega) rne rin rup, by show 1 ≤ (m : Int); omega, by show (m : Int) ≤ 60; omega, rlen⟩
      · exact ⟨rBad_ok (by omega) (by omega) (fun e => by have := congrArg List.length e; rw [List.length_drop] at this; simp at this; omega) (fun x hx => mi x (List.mem_of_mem_drop hx)) (mu.sublist (List.drop_sublist 1 mv)), by show 1 ≤ ringM size; omega, by show ringM size ≤ 60; omega, by show (mv.drop 1).length ≤ 60; rw [List.length_drop]; omega⟩
    exact t_pair hp2.1 hp2.2.1 hp2.2.2.1 hp2.2.2.2 fun s8 s20 s21 => nxt _ _ ⟨rfl, _, _, _, _, _, rfl⟩
  · rintro ρ g2 ⟨rfl, s8, s18, s19, s20, s21, rfl⟩
    exact t_odd h1 h2 (by omega) fun _ _ => hn _ _ _ _ _ _ _ _ _ _ _ _ _ _ _ _ _ _ _ _ _ (by omega)
theorem t_turn (hg : 1000 ≤ g) (hn : ∀ g' s3 s4 s5 s6 s7 s8 s9 s10 s11 s12 s13 s14 s15 s16 s17 s18 s19 s20 s21 s22, g ≤ g' + 100 → kt.nx [s0, .st, s2, s3, s4, s5, s6, s7, s8, s9, s10, s11, s12, s13, s14, s15, s16, s17, s18, s19, s20, s21, s22] g') : wpSL (Phi tb 12) b_law_3 [s0, .st, s2, s3, s4, s5, s6, s7, s8, s9, s10, s11, s12, s13, s14, s15, s16, s17, s18, s19, s20, s21, s22] g noX kt := by
  simp only [b_law_3, Bool.not_true, Bool.not_false, Bool.false_xor, Bool.true_xor, Bool.xor_false, Bool.xor_true, wpSL, wpS, wpE, wpL, wpA, wpJ, wpC, wpO, wpI, setD, setAll, setAllX, bindT, wipeE, List.set_cons_zero, List.set_cons_succ, List.getElem?_cons_zero, List.getElem?_cons_succ, e_fz, e_ow, e_st, e_int, e_int2, e_list, e_seqs1, e_seqs2, e_seq1, e_seq2, e_bool, e_kept0, e_kept1, e_add, e_cat, e_sub, e_mul, e_fdiv, e_mod, e_pow, e_catL, e_catT, e_repL, e_repT, e_eqI, e_eqS, e_neI, e_neS, e_lt, e_le, e_gt, e_ge, e_ltT, e_ixL, e_ixT, e_slL, e_slT, e_lenL, e_lenT, e_abs, e_intI, e_intB, e_str, e_max, e_min, e_repr, e_any, e_all, e_sum, e_listL, e_listT, e_tupL, e_tupT, e_n0, e_n1, e_n2, e_n3, e_n4, e_n5, e_memT, e_sset, e_lset, e_fI, e_fS, e_memL, e_ord, e_eqLL, e_eqL0, e_eqLT0, e_eqTT, e_neLL, e_neTT, e_neB, some_ex, if_tt, if_ff]
  refine ⟨by decide, by omega, fun x hx0 hx1 => ?_⟩
  obtain ⟨m, hm, h1, h2⟩ : ∃ m : Nat, 1 + x = (m : Int) ∧ 1 ≤ m ∧ m ≤ 13 := ⟨(1 + x).toNat, by omega, by omega, by omega⟩
  rw [hm]
  simp only [b_law_4, Bool.not_true, Bool.not_false, Bool.false_xor, Bool.true_xor, Bool.xor_false, Bool.xor_true, wpSL, wpS, wpE, wpL, wpA, wpJ, wpC, wpO, wpI, setD, setAll, setAllX, bindT, wipeE, List.set_cons_zero, List.set_cons_succ, List.getElem?_cons_zero, List.getElem?_cons_succ, e_fz, e_ow, e_st, e_int, e_int2, e_list, e_seqs1, e_seqs2, e_seq1, e_seq2, e_bool, e_kept0, e_kept1, e_add, e_cat, e_sub, e_mul, e_fdiv, e_mod, e_pow, e_catL, e_catT, e_repL, e_repT, e_eqI, e_eqS, e_neI, e_neS, e_lt, e_le, e_gt, e_ge, e_ltT, e_ixL, e_ixT, e_slL, e_slT, e_lenL, e_lenT, e_abs, e_intI, e_intB, e_str, e_max, e_min, e_repr, e_any, e_all, e_sum, e_listL, e_listT, e_tupL, e_tupT, e_n0, e_n1, e_n2, e_n3, e_n4, e_n5, e_memT, e_sset, e_lset, e_fI, e_fS, e_memL, e_ord, e_eqLL, e_eqL0, e_eqLT0, e_eqTT, e_neLL, e_neTT, e_neB, some_ex, if_tt, if_ff]
  refine s_law_all h1 h2 ?_
  have al := allF_len m (m - 1)
  have al2 : 2 ^ (m - 1) ≤ 2 ^ 12 := Nat.pow_le_pow_right (by decide) (by omega)
  simp only [b_law_5, Bool.not_true, Bool.not_false, Bool.false_xor, Bool.true_xor, Bool.xor_false, Bool.xor_true, wpSL, wpS, wpE, wpL, wpA, wpJ, wpC, wpO, wpI, setD, setAll, setAllX, bindT, wipeE, List.set_cons_zero, List.set_cons_succ, List.getElem?_cons_zero, List.getElem?_cons_succ, e_fz, e_ow, e_st, e_int, e_int2, e_list, e_seqs1, e_seqs2, e_seq1, e_seq2, e_bool, e_kept0, e_kept1, e_add, e_cat, e_sub, e_mul, e_fdiv, e_mod, e_pow, e_catL, e_catT, e_repL, e_repT, e_eqI, e_eqS, e_neI, e_neS, e_lt, e_le, e_gt, e_ge, e_ltT, e_ixL, e_ixT, e_slL, e_slT, e_lenL, e_lenT, e_abs, e_intI, e_intB, e_str, e_max, e_min, e_repr, e_any, e_all, e_sum, e_listL, e_listT, e_tupL, e_tupT, e_n0, e_n1, e_n2, e_n3, e_n4, e_n5, e_memT, e_sset, e_lset, e_fI, e_fS, e_memL, e_ord, e_eqLL, e_eqL0, e_eqLT0, e_eqTT, e_neLL, e_neTT, e_neB, some_ex, if_tt, if_ff, if_true]
  refine comp_map tI (fun r => PyData.int r.length) (small' (by omega)) (fun r hr K h => ?_) ?_
  · simp only [Bool.not_true, Bool.not_false, Bool.false_xor, Bool.true_xor, Bool.xor_false, Bool.xor_true, wpSL, wpS, wpE, wpL, wpA, wpJ, wpC, wpO, wpI, setD, setAll, setAllX, bindT, wipeE, List.set_cons_zero, List.set_cons_succ, List.getElem?_cons_zero, List.getElem?_cons_succ, e_fz, e_ow, e_st, e_int, e_int2, e_list, e_seqs1, e_seqs2, e_seq1, e_seq2, e_bool, e_kept0, e_kept1, e_add, e_cat, e_sub, e_mul, e_fdiv, e_mod, e_pow, e_catL, e_catT, e_repL, e_repT, e_eqI, e_eqS, e_neI, e_neS, e_lt, e_le, e_gt, e_ge, e_ltT, e_ixL, e_ixT, e_slL, e_slT, e_lenL, e_lenT, e_abs, e_intI, e_intB, e_str, e_max, e_min, e_repr, e_any, e_all, e_sum, e_listL, e_listT, e_tupL, e_tupT, e_n0, e_n1, e_n2, e_n3, e_n4, e_n5, e_memT, e_sset, e_lset, e_fI, e_fS, e_memL, e_ord, e_eqLL, e_eqL0, e_eqLT0, e_eqTT, e_neLL, e_neTT, e_neB, some_ex, if_tt, if_ff, List.length_map]
    exact h
  have em : (allF m (m - 1)).map (fun r => PyData.int (r.length : Nat)) = ((allF m (m - 1)).map fun r => (r.length : Int)).map PyData.int := by rw [List.map_map]; rfl
  rw [em]
  have bne := best_ne h1 h2
  have ane : (allF m (m - 1)).map (fun r => (r.length : Int)) ≠ [] := fun e => bne (by rw [List.map_eq_nil_iff.mp e]; rfl)
  refine max_ints ane ?_
  have e1 : maxI ((allF m (m - 1)).map fun r => (r.length : Int)) = mostN m := rfl
  rw [e1]
  simp only [b_law_6, Bool.not_true, Bool.not_false, Bool.false_xor, Bool.true_xor, Bool.xor_false, Bool.xor_true, wpSL, wpS, wpE, wpL, wpA, wpJ, wpC, wpO, wpI, setD, setAll, setAllX, bindT, wipeE, List.set_cons_zero, List.set_cons_succ, List.getElem?_cons_zero, List.getElem?_cons_succ, e_fz, e_ow, e_st, e_int, e_int2, e_list, e_seqs1, e_seqs2, e_seq1, e_seq2, e_bool, e_kept0, e_kept1, e_add, e_cat, e_sub, e_mul, e_fdiv, e_mod, e_pow, e_catL, e_catT, e_repL, e_repT, e_eqI, e_eqS, e_neI, e_neS, e_lt, e_le, e_gt, e_ge, e_ltT, e_ixL, e_ixT, e_slL, e_slT, e_lenL, e_lenT, e_abs, e_intI, e_intB, e_str, e_max, e_min, e_repr, e_any, e_all, e_sum, e_listL, e_listT, e_tupL, e_tupT, e_n0, e_n1, e_n2, e_n3, e_n4, e_n5, e_memT, e_sset, e_lset, e_fI, e_fS, e_memL, e_ord, e_eqLL, e_eqL0, e_eqLT0, e_eqTT, e_neLL, e_neTT, e_neB, some_ex, if_tt, if_ff]
  refine comp_fil tI (fun r => decide ((r.length : Int) = mostN m)) tI (small' (by omega)) (fun r hr K a b => ?_) ?_
  · simp only [Bool.not_true, Bool.not_false, Bool.false_xor, Bool.true_xor, Bool.xor_false, Bool.xor_true, wpSL, wpS, wpE, wpL, wpA, wpJ, wpC, wpO, wpI, setD, setAll, setAllX, bindT, wipeE, List.set_cons_zero, List.set_cons_succ, List.getElem?_cons_zero, List.getElem?_cons_succ, e_fz, e_ow, e_st, e_int, e_int2, e_list, e_seqs1, e_seqs2, e_seq1, e_seq2, e_bool, e_kept0, e_kept1, e_add, e_cat, e_sub, e_mul, e_fdiv, e_mod, e_pow, e_catL, e_catT, e_repL, e_repT, e_eqI, e_eqS, e_neI, e_neS, e_lt, e_le, e_gt, e_ge, e_ltT, e_ixL, e_ixT, e_slL, e_slT, e_lenL, e_lenT, e_abs, e_intI, e_intB, e_str, e_max, e_min, e_repr, e_any, e_all, e_sum, e_listL, e_listT, e_tupL, e_tupT, e_n0, e_n1, e_n2, e_n3, e_n4, e_n5, e_memT, e_sset, e_lset, e_fI, e_fS, e_memL, e_ord, e_eqLL, e_eqL0, e_eqLT0, e_eqTT, e_neLL, e_neTT, e_neB, some_ex, if_tt, if_ff, List.length_map]
    split
    · next q => exact a q
    · next q => exact b (eq_false_of_ne_true q)
  refine min_tups bne ?_
  have e2 : lexMin ((allF m (m - 1)).filter fun r => decide ((r.length : Int) = mostN m)) = bestN m := rfl
  rw [e2]
  have lob : Lo (bestN m) := by
    have hb := (List.mem_filter.mp (lexMin_spec bne).1).1
    refine lo_of (by have := allF_row m hb; show (bestN m).length ≤ 900; unfold bestN; omega) fun x hx => ?_
    have := allF_in m hb x hx
    omega
  simp only [b_law_7, Bool.not_true, Bool.not_false, Bool.false_xor, Bool.true_xor, Bool.xor_false, Bool.xor_true, wpSL, wpS, wpE, wpL, wpA, wpJ, wpC, wpO, wpI, setD, setAll, setAllX, bindT, wipeE, List.set_cons_zero, List.set_cons_succ, List.getElem?_cons_zero, List.getElem?_cons_succ, e_fz, e_ow, e_st, e_int, e_int2, e_list, e_seqs1, e_seqs2, e_seq1, e_seq2, e_bool, e_kept0, e_kept1, e_add, e_cat, e_sub, e_mul, e_fdiv, e_mod, e_pow, e_catL, e_catT, e_repL, e_repT, e_eqI, e_eqS, e_neI, e_neS, e_lt, e_le, e_gt, e_ge, e_ltT, e_ixL, e_ixT, e_slL, e_slT, e_lenL, e_lenT, e_abs, e_intI, e_intB, e_str, e_max, e_min, e_repr, e_any, e_all, e_sum, e_listL, e_listT, e_tupL, e_tupT, e_n0, e_n1, e_n2, e_n3, e_n4, e_n5, e_memT, e_sset, e_lset, e_fI, e_fS, e_memL, e_ord, e_eqLL, e_eqL0, e_eqLT0, e_eqTT, e_neLL, e_neTT, e_neB, some_ex, if_tt, if_ff]
  refine s_ring_most h1 (by omega) (run_best h1 h2) ?_
  refine ⟨small' (by simp), s_law_same ((sh_toldT (sh_row lob)).mono (by decide) (by decide)) ?_⟩
  rw [e_bool, if_neg (by decide)]
  simp only [b_law_9, Bool.not_true, Bool.not_false, Bool.false_xor, Bool.true_xor, Bool.xor_false, Bool.xor_true, wpSL, wpS, wpE, wpL, wpA, wpJ, wpC, wpO, wpI, setD, setAll, setAllX, bindT, wipeE, List.set_cons_zero, List.set_cons_succ, List.getElem?_cons_zero, List.getElem?_cons_succ, e_fz, e_ow, e_st, e_int, e_int2, e_list, e_seqs1, e_seqs2, e_seq1, e_seq2, e_bool, e_kept0, e_kept1, e_add, e_cat, e_sub, e_mul, e_fdiv, e_mod, e_pow, e_catL, e_catT, e_repL, e_repT, e_eqI, e_eqS, e_neI, e_neS, e_lt, e_le, e_gt, e_ge, e_ltT, e_ixL, e_ixT, e_slL, e_slT, e_lenL, e_lenT, e_abs, e_intI, e_intB, e_str, e_max, e_min, e_repr, e_any, e_all, e_sum, e_listL, e_listT, e_tupL, e_tupT, e_n0, e_n1, e_n2, e_n3, e_n4, e_n5, e_memT, e_sset, e_lset, e_fI, e_fS, e_memL, e_ord, e_eqLL, e_eqL0, e_eqLT0, e_eqTT, e_neLL, e_neTT, e_neB, some_ex, if_tt, if_ff]
  refine ⟨by decide, by omega, fun y hy0 hy1 => ?_⟩
  obtain ⟨size, hs, hs1, hs2⟩ : ∃ s : Nat, 2 + y = (s : Int) ∧ 2 ≤ s ∧ s ≤ 6 := ⟨(2 + y).toNat, by omega, by omega, by omega⟩
  rw [hs]
  have F := fine hs1 hs2
  simp only [b_law_10, Bool.not_true, Bool.not_false, Bool.false_xor, Bool.true_xor, Bool.xor_false, Bool.xor_true, wpSL, wpS, wpE, wpL, wpA, wpJ, wpC, wpO, wpI, setD, setAll, setAllX, bindT, wipeE, List.set_cons_zero, List.set_cons_succ, List.getElem?_cons_zero, List.getElem?_cons_succ, e_fz, e_ow, e_st, e_int, e_int2, e_list, e_seqs1, e_seqs2, e_seq1, e_seq2, e_bool, e_kept0, e_kept1, e_add, e_cat, e_sub, e_mul, e_fdiv, e_mod, e_pow, e_catL, e_catT, e_repL, e_repT, e_eqI, e_eqS, e_neI, e_neS, e_lt, e_le, e_gt, e_ge, e_ltT, e_ixL, e_ixT, e_slL, e_slT, e_lenL, e_lenT, e_abs, e_intI, e_intB, e_str, e_max, e_min, e_repr, e_any, e_all, e_sum, e_listL, e_listT, e_tupL, e_tupT, e_n0, e_n1, e_n2, e_n3, e_n4, e_n5, e_memT, e_sset, e_lset, e_fI, e_fS, e_memL, e_ord, e_eqLL, e_eqL0, e_eqLT0, e_eqTT, e_neLL, e_neTT, e_neB, some_ex, if_tt, if_ff]
  refine s_perfect_of (m := ringM size) hs1 hs2 rfl F.run ?_
  simp only [b_law_11, Bool.not_true, Bool.not_false, Bool.false_xor, Bool.true_xor, Bool.xor_false, Bool.xor_true, wpSL, wpS, wpE, wpL, wpA, wpJ, wpC, wpO, wpI, setD, setAll, setAllX, bindT, wipeE, List.set_cons_zero, List.set_cons_succ, List.getElem?_cons_zero, List.getElem?_cons_succ, e_fz, e_ow, e_st, e_int, e_int2, e_list, e_seqs1, e_seqs2, e_seq1, e_seq2, e_bool, e_kept0, e_kept1, e_add, e_cat, e_sub, e_mul, e_fdiv, e_mod, e_pow, e_catL, e_catT, e_repL, e_repT, e_eqI, e_eqS, e_neI, e_neS, e_lt, e_le, e_gt, e_ge, e_ltT, e_ixL, e_ixT, e_slL, e_slT, e_lenL, e_lenT, e_abs, e_intI, e_intB, e_str, e_max, e_min, e_repr, e_any, e_all, e_sum, e_listL, e_listT, e_tupL, e_tupT, e_n0, e_n1, e_n2, e_n3, e_n4, e_n5, e_memT, e_sset, e_lset, e_fI, e_fS, e_memL, e_ord, e_eqLL, e_eqL0, e_eqLT0, e_eqTT, e_neLL, e_neTT, e_neB, some_ex, if_tt, if_ff, at_0, at_1, List.length_map]
  rw [if_neg (by decide)]
  refine ⟨.inl ⟨by omega, by omega⟩, ?_⟩
  rw [if_neg (by rw [decide_eq_true (show ringM size = (size : Int) * ((size : Int) - 1) + 1 from rfl)]; decide)]
  rw [if_neg (by rw [decide_eq_true (show ((rowN size).length : Int) = (size : Int) by rw [F.len])]; decide)]
  rw [at_ints (by decide) (by rw [F.len]; omega), show (0 : Int).toNat = 0 from rfl, F.first]
  refine ⟨_, rfl, ?_⟩
  simp only [Bool.not_true, Bool.not_false, Bool.false_xor, Bool.true_xor, Bool.xor_false, Bool.xor_true, wpSL, wpS, wpE, wpL, wpA, wpJ, wpC, wpO, wpI, setD, setAll, setAllX, bindT, wipeE, List.set_cons_zero, List.set_cons_succ, List.getElem?_cons_zero, List.getElem?_cons_succ, e_fz, e_ow, e_st, e_int, e_int2, e_list, e_seqs1, e_seqs2, e_seq1, e_seq2, e_bool, e_kept0, e_kept1, e_add, e_cat, e_sub, e_mul, e_fdiv, e_mod, e_pow, e_catL, e_catT, e_repL, e_repT, e_eqI, e_eqS, e_neI, e_neS, e_lt, e_le, e_gt, e_ge, e_ltT, e_ixL, e_ixT, e_slL, e_slT, e_lenL, e_lenT, e_abs, e_intI, e_intB, e_str, e_max, e_min, e_repr, e_any, e_all, e_sum, e_listL, e_listT, e_tupL, e_tupT, e_n0, e_n1, e_n2, e_n3, e_n4, e_n5, e_memT, e_sset, e_lset, e_fI, e_fS, e_memL, e_ord, e_eqLL, e_eqL0, e_eqLT0, e_eqTT, e_neLL, e_neTT, e_neB, some_ex, if_tt, if_ff]
  rw [if_neg (by decide)]
  simp only [b_law_13, Bool.not_true, Bool.not_false, Bool.false_xor, Bool.true_xor, Bool.xor_false, Bool.xor_true, wpSL, wpS, wpE, wpL, wpA, wpJ, wpC, wpO, wpI, setD, setAll, setAllX, bindT, wipeE, List.set_cons_zero, List.set_cons_succ, List.getElem?_cons_zero, List.getElem?_cons_succ, e_fz, e_ow, e_st, e_int, e_int2, e_list, e_seqs1, e_seqs2, e_seq1, e_seq2, e_bool, e_kept0, e_kept1, e_add, e_cat, e_sub, e_mul, e_fdiv, e_mod, e_pow, e_catL, e_catT, e_repL, e_repT, e_eqI, e_eqS, e_neI, e_neS, e_lt, e_le, e_gt, e_ge, e_ltT, e_ixL, e_ixT, e_slL, e_slT, e_lenL, e_lenT, e_abs, e_intI, e_intB, e_str, e_max, e_min, e_repr, e_any, e_all, e_sum, e_listL, e_listT, e_tupL, e_tupT, e_n0, e_n1, e_n2, e_n3, e_n4, e_n5, e_memT, e_sset, e_lset, e_fI, e_fS, e_memL, e_ord, e_eqLL, e_eqL0, e_eqLT0, e_eqTT, e_neLL, e_neTT, e_neB, some_ex, if_tt, if_ff, at_1]
  simp only [b_law_14, Bool.not_true, Bool.not_false, Bool.false_xor, Bool.true_xor, Bool.xor_false, Bool.xor_true, wpSL, wpS, wpE, wpL, wpA, wpJ, wpC, wpO, wpI, setD, setAll, setAllX, bindT, wipeE, List.set_cons_zero, List.set_cons_succ, List.getElem?_cons_zero, List.getElem?_cons_succ, e_fz, e_ow, e_st, e_int, e_int2, e_list, e_seqs1, e_seqs2, e_seq1, e_seq2, e_bool, e_kept0, e_kept1, e_add, e_cat, e_sub, e_mul, e_fdiv, e_mod, e_pow, e_catL, e_catT, e_repL, e_repT, e_eqI, e_eqS, e_neI, e_neS, e_lt, e_le, e_gt, e_ge, e_ltT, e_ixL, e_ixT, e_slL, e_slT, e_lenL, e_lenT, e_abs, e_intI, e_intB, e_str, e_max, e_min, e_repr, e_any, e_all, e_sum, e_listL, e_listT, e_tupL, e_tupT, e_n0, e_n1, e_n2, e_n3, e_n4, e_n5, e_memT, e_sset, e_lset, e_fI, e_fS, e_memL, e_ord, e_eqLL, e_eqL0, e_eqLT0, e_eqTT, e_neLL, e_neTT, e_neB, some_ex, if_tt, if_ff, Bool.false_eq_true, if_false]
  have m1 := F.m1
  have m2 := F.m2
  have rl := F.len
  refine s_law_apart (by omega) (by omega) ?_
  simp only [Bool.not_true, Bool.not_false, Bool.false_xor, Bool.true_xor, Bool.xor_false, Bool.xor_true, wpSL, wpS, wpE, wpL, wpA, wpJ, wpC, wpO, wpI, setD, setAll, setAllX, bindT, wipeE, List.set_cons_zero, List.set_cons_succ, List.getElem?_cons_zero, List.getElem?_cons_succ, e_fz, e_ow, e_st, e_int, e_int2, e_list, e_seqs1, e_seqs2, e_seq1, e_seq2, e_bool, e_kept0, e_kept1, e_add, e_cat, e_sub, e_mul, e_fdiv, e_mod, e_pow, e_catL, e_catT, e_repL, e_repT, e_eqI, e_eqS, e_neI, e_neS, e_lt, e_le, e_gt, e_ge, e_ltT, e_ixL, e_ixT, e_slL, e_slT, e_lenL, e_lenT, e_abs, e_intI, e_intB, e_str, e_max, e_min, e_repr, e_any, e_all, e_sum, e_listL, e_listT, e_tupL, e_tupT, e_n0, e_n1, e_n2, e_n3, e_n4, e_n5, e_memT, e_sset, e_lset, e_fI, e_fS, e_memL, e_ord, e_eqLL, e_eqL0, e_eqLT0, e_eqTT, e_neLL, e_neTT, e_neB, some_ex, if_tt, if_ff]
  refine ⟨⟨by decide, by decide, by omega, by omega, by omega⟩, ?_⟩
  rw [rng_map]
  simp only [Bool.not_true, Bool.not_false, Bool.false_xor, Bool.true_xor, Bool.xor_false, Bool.xor_true, wpSL, wpS, wpE, wpL, wpA, wpJ, wpC, wpO, wpI, setD, setAll, setAllX, bindT, wipeE, List.set_cons_zero, List.set_cons_succ, List.getElem?_cons_zero, List.getElem?_cons_succ, e_fz, e_ow, e_st, e_int, e_int2, e_list, e_seqs1, e_seqs2, e_seq1, e_seq2, e_bool, e_kept0, e_kept1, e_add, e_cat, e_sub, e_mul, e_fdiv, e_mod, e_pow, e_catL, e_catT, e_repL, e_repT, e_eqI, e_eqS, e_neI, e_neS, e_lt, e_le, e_gt, e_ge, e_ltT, e_ixL, e_ixT, e_slL, e_slT, e_lenL, e_lenT, e_abs, e_intI, e_intB, e_str, e_max, e_min, e_repr, e_any, e_all, e_sum, e_listL, e_listT, e_tupL, e_tupT, e_n0, e_n1, e_n2, e_n3, e_n4, e_n5, e_memT, e_sset, e_lset, e_fI, e_fS, e_memL, e_ord, e_eqLL, e_eqL0, e_eqLT0, e_eqTT, e_neLL, e_neTT, e_neB, some_ex, if_tt, if_ff]
  have ep : decide (ord (apartF (ringM size) (rowN size)) = rng 1 (ringM size)) = true := F.past
  rw [ep]
  simp only [Bool.not_true, Bool.not_false, Bool.false_xor, Bool.true_xor, Bool.xor_false, Bool.xor_true, wpSL, wpS, wpE, wpL, wpA, wpJ, wpC, wpO, wpI, setD, setAll, setAllX, bindT, wipeE, List.set_cons_zero, List.set_cons_succ, List.getElem?_cons_zero, List.getElem?_cons_succ, e_fz, e_ow, e_st, e_int, e_int2, e_list, e_seqs1, e_seqs2, e_seq1, e_seq2, e_bool, e_kept0, e_kept1, e_add, e_cat, e_sub, e_mul, e_fdiv, e_mod, e_pow, e_catL, e_catT, e_repL, e_repT, e_eqI, e_eqS, e_neI, e_neS, e_lt, e_le, e_gt, e_ge, e_ltT, e_ixL, e_ixT, e_slL, e_slT, e_lenL, e_lenT, e_abs, e_intI, e_intB, e_str, e_max, e_min, e_repr, e_any, e_all, e_sum, e_listL, e_listT, e_tupL, e_tupT, e_n0, e_n1, e_n2, e_n3, e_n4, e_n5, e_memT, e_sset, e_lset, e_fI, e_fS, e_memL, e_ord, e_eqLL, e_eqL0, e_eqLT0, e_eqTT, e_neLL, e_neTT, e_neB, some_ex, if_tt, if_ff]
  have go : wpSL (Phi tb 12) b_law_16 [s0, .st, s2, .fz (.int m), .fz (.list ((allF m (m - 1)).map tI)), .fz (.int (mostN m)), .fz (tI (bestN m)), .fz (.int size), .fz (.tuple [.str "told", .tuple [.int (ringM size), tI (rowN size)]]), s9, s10, s11, s12, s13, s14, s15, .fz (.int (ringM size)), .fz (tI (rowN size)), s18, s19, s20, s21, s22] (g - 1 - 1) noX kt := t_moved h1 h2 hs1 hs2 (by omega) fun g' _ _ _ _ _ _ _ _ _ _ _ _ _ _ _ _ _ _ _ _ h => hn g' _ _ _ _ _ _ _ _ _ _ _ _ _ _ _ _ _ _ _ _ (by omega)
  by_cases q5 : size < 5
  · obtain ⟨lo1, lo2⟩ := fine_low hs1 q5
    rw [decide_eq_true (by omega)]
    simp only [Bool.not_true, Bool.not_false, Bool.false_xor, Bool.true_xor, Bool.xor_false, Bool.xor_true, wpSL, wpS, wpE, wpL, wpA, wpJ, wpC, wpO, wpI, setD, setAll, setAllX, bindT, wipeE, List.set_cons_zero, List.set_cons_succ, List.getElem?_cons_zero, List.getElem?_cons_succ, e_fz, e_ow, e_st, e_int, e_int2, e_list, e_seqs1, e_seqs2, e_seq1, e_seq2, e_bool, e_kept0, e_kept1, e_add, e_cat, e_sub, e_mul, e_fdiv, e_mod, e_pow, e_catL, e_catT, e_repL, e_repT, e_eqI, e_eqS, e_neI, e_neS, e_lt, e_le, e_gt, e_ge, e_ltT, e_ixL, e_ixT, e_slL, e_slT, e_lenL, e_lenT, e_abs, e_intI, e_intB, e_str, e_max, e_min, e_repr, e_any, e_all, e_sum, e_listL, e_listT, e_tupL, e_tupT, e_n0, e_n1, e_n2, e_n3, e_n4, e_n5, e_memT, e_sset, e_lset, e_fI, e_fS, e_memL, e_ord, e_eqLL, e_eqL0, e_eqLT0, e_eqTT, e_neLL, e_neTT, e_neB, some_ex, if_tt, if_ff]
    have mm : ringM size = ((ringM size).toNat : Int) := by omega
    have m13 : (ringM size).toNat ≤ 13 := by
      rcases (by omega : size = 2 ∨ size = 3 ∨ size = 4) with rfl | rfl | rfl <;> decide
    have m0 : 1 ≤ (ringM size).toNat := by omega
    rw [if_pos trivial]
    have sall : ∀ {Q : Rs} {g : Nat}, Q (.list ((allF (ringM size) ((ringM size).toNat - 1)).map tI)) g → Phi tb 12 3 [.fz (.int (ringM size))] g noX Q := fun {Q g} h => by
      have := s_law_all (n := 9) (X := noX) (Q := Q) (g := g) m0 m13 (by rw [← mm]; exact h)
      rw [← mm] at this
      exact this
    refine sall ?_
    have al := allF_len (ringM size) ((ringM size).toNat - 1)
    have al2 : 2 ^ ((ringM size).toNat - 1) ≤ 2 ^ 12 := Nat.pow_le_pow_right (by decide) (by omega)
    refine comp_fil tI (fun r => decide ((r.length : Int) = (size : Int))) tI (small' (by omega)) (fun r hr K a b => ?_) ?_
    · simp only [Bool.not_true, Bool.not_false, Bool.false_xor, Bool.true_xor, Bool.xor_false, Bool.xor_true, wpSL, wpS, wpE, wpL, wpA, wpJ, wpC, wpO, wpI, setD, setAll, setAllX, bindT, wipeE, List.set_cons_zero, List.set_cons_succ, List.getElem?_cons_zero, List.getElem?_cons_succ, e_fz, e_ow, e_st, e_int, e_int2, e_list, e_seqs1, e_seqs2, e_seq1, e_seq2, e_bool, e_kept0, e_kept1, e_add, e_cat, e_sub, e_mul, e_fdiv, e_mod, e_pow, e_catL, e_catT, e_repL, e_repT, e_eqI, e_eqS, e_neI, e_neS, e_lt, e_le, e_gt, e_ge, e_ltT, e_ixL, e_ixT, e_slL, e_slT, e_lenL, e_lenT, e_abs, e_intI, e_intB, e_str, e_max, e_min, e_repr, e_any, e_all, e_sum, e_listL, e_listT, e_tupL, e_tupT, e_n0, e_n1, e_n2, e_n3, e_n4, e_n5, e_memT, e_sset, e_lset, e_fI, e_fS, e_memL, e_ord, e_eqLL, e_eqL0, e_eqLT0, e_eqTT, e_neLL, e_neTT, e_neB, some_ex, if_tt, if_ff, List.length_map, if_true]
      split
      · next q => exact a q
      · next q => exact b (eq_false_of_ne_true q)
    refine min_tups lo2 ?_
    rw [← lo1]
    simp only [Bool.not_true, Bool.not_false, Bool.false_xor, Bool.true_xor, Bool.xor_false, Bool.xor_true, wpSL, wpS, wpE, wpL, wpA, wpJ, wpC, wpO, wpI, setD, setAll, setAllX, bindT, wipeE, List.set_cons_zero, List.set_cons_succ, List.getElem?_cons_zero, List.getElem?_cons_succ, e_fz, e_ow, e_st, e_int, e_int2, e_list, e_seqs1, e_seqs2, e_seq1, e_seq2, e_bool, e_kept0, e_kept1, e_add, e_cat, e_sub, e_mul, e_fdiv, e_mod, e_pow, e_catL, e_catT, e_repL, e_repT, e_eqI, e_eqS, e_neI, e_neS, e_lt, e_le, e_gt, e_ge, e_ltT, e_ixL, e_ixT, e_slL, e_slT, e_lenL, e_lenT, e_abs, e_intI, e_intB, e_str, e_max, e_min, e_repr, e_any, e_all, e_sum, e_listL, e_listT, e_tupL, e_tupT, e_n0, e_n1, e_n2, e_n3, e_n4, e_n5, e_memT, e_sset, e_lset, e_fI, e_fS, e_memL, e_ord, e_eqLL, e_eqL0, e_eqLT0, e_eqTT, e_neLL, e_neTT, e_neB, some_ex, if_tt, if_ff]
    rw [if_neg (by decide)]
    exact go
  · rw [decide_eq_false (by omega)]
    simp only [Bool.not_true, Bool.not_false, Bool.false_xor, Bool.true_xor, Bool.xor_false, Bool.xor_true, wpSL, wpS, wpE, wpL, wpA, wpJ, wpC, wpO, wpI, setD, setAll, setAllX, bindT, wipeE, List.set_cons_zero, List.set_cons_succ, List.getElem?_cons_zero, List.getElem?_cons_succ, e_fz, e_ow, e_st, e_int, e_int2, e_list, e_seqs1, e_seqs2, e_seq1, e_seq2, e_bool, e_kept0, e_kept1, e_add, e_cat, e_sub, e_mul, e_fdiv, e_mod, e_pow, e_catL, e_catT, e_repL, e_repT, e_eqI, e_eqS, e_neI, e_neS, e_lt, e_le, e_gt, e_ge, e_ltT, e_ixL, e_ixT, e_slL, e_slT, e_lenL, e_lenT, e_abs, e_intI, e_intB, e_str, e_max, e_min, e_repr, e_any, e_all, e_sum, e_listL, e_listT, e_tupL, e_tupT, e_n0, e_n1, e_n2, e_n3, e_n4, e_n5, e_memT, e_sset, e_lset, e_fI, e_fS, e_memL, e_ord, e_eqLL, e_eqL0, e_eqLT0, e_eqTT, e_neLL, e_neTT, e_neB, some_ex, if_tt, if_ff]
    exact go
end
/-- the law's promise, in plain Lean -/
theorem law_pure : ∀ ns : List Int, ns.length ≤ 63 → wpSL (Phi tb 12) d_law.body (startE d_law [.fz (.list (ns.map PyData.int))]) 0 noX ⟨fun _ _ => False, fun r _ => r = .bool true, fun _ _ => False, fun _ _ => False⟩ := by
  intro ns hl
  show wpSL (Phi tb 12) b_law_1 [.fz (.list (ns.map PyData.int)), .un, .un, .un, .un, .un, .un, .un, .un, .un, .un, .un, .un, .un, .un, .un, .un, .un, .un, .un, .un, .un, .un] 0 noX _
  simp only [b_law_1, Bool.not_true, Bool.not_false, Bool.false_xor, Bool.true_xor, Bool.xor_false, Bool.xor_true, wpSL, wpS, wpE, wpL, wpA, wpJ, wpC, wpO, wpI, setD, setAll, setAllX, bindT, wipeE, List.set_cons_zero, List.set_cons_succ, List.getElem?_cons_zero, List.getElem?_cons_succ, e_fz, e_ow, e_st, e_int, e_int2, e_list, e_seqs1, e_seqs2, e_seq1, e_seq2, e_bool, e_kept0, e_kept1, e_add, e_cat, e_sub, e_mul, e_fdiv, e_mod, e_pow, e_catL, e_catT, e_repL, e_repT, e_eqI, e_eqS, e_neI, e_neS, e_lt, e_le, e_gt, e_ge, e_ltT, e_ixL, e_ixT, e_slL, e_slT, e_lenL, e_lenT, e_abs, e_intI, e_intB, e_str, e_max, e_min, e_repr, e_any, e_all, e_sum, e_listL, e_listT, e_tupL, e_tupT, e_n0, e_n1, e_n2, e_n3, e_n4, e_n5, e_memT, e_sset, e_lset, e_fI, e_fS, e_memL, e_ord, e_eqLL, e_eqL0, e_eqLT0, e_eqTT, e_neLL, e_neTT, e_neB, some_ex, if_tt, if_ff]
  refine s_law_stream hl fun x xs hx => ⟨rfl, x, xs, rfl, by omega, ?_⟩
  simp only [b_law_2, Bool.not_true, Bool.not_false, Bool.false_xor, Bool.true_xor, Bool.xor_false, Bool.xor_true, wpSL, wpS, wpE, wpL, wpA, wpJ, wpC, wpO, wpI, setD, setAll, setAllX, bindT, wipeE, List.set_cons_zero, List.set_cons_succ, List.getElem?_cons_zero, List.getElem?_cons_succ, e_fz, e_ow, e_st, e_int, e_int2, e_list, e_seqs1, e_seqs2, e_seq1, e_seq2, e_bool, e_kept0, e_kept1, e_add, e_cat, e_sub, e_mul, e_fdiv, e_mod, e_pow, e_catL, e_catT, e_repL, e_repT, e_eqI, e_eqS, e_neI, e_neS, e_lt, e_le, e_gt, e_ge, e_ltT, e_ixL, e_ixT, e_slL, e_slT, e_lenL, e_lenT, e_abs, e_intI, e_intB, e_str, e_max, e_min, e_repr, e_any, e_all, e_sum, e_listL, e_listT, e_tupL, e_tupT, e_n0, e_n1, e_n2, e_n3, e_n4, e_n5, e_memT, e_sset, e_lset, e_fI, e_fS, e_memL, e_ord, e_eqLL, e_eqL0, e_eqLT0, e_eqTT, e_neLL, e_neTT, e_neB, some_ex, if_tt, if_ff]
  refine ⟨by decide, for_inv (fun i ρ g' => 2 ^ 50 ≤ g' + 100 * i ∧ ∃ s2 s3 s4 s5 s6 s7 s8 s9 s10 s11 s12 s13 s14 s15 s16 s17 s18 s19 s20 s21 s22, ρ = [.fz (.list (ns.map PyData.int)), .st, s2, s3, s4, s5, s6, s7, s8, s9, s10, s11, s12, s13, s14, s15, s16, s17, s18, s19, s20, s21, s22]) ⟨by decide, _, _, _, _, _, _, _, _, _, _, _, _, _, _, _, _, _, _, _, _, _, rfl⟩ ?_ ?_⟩
  · rintro i d ρ g' nx hd ⟨hg, s2, s3, s4, s5, s6, s7, s8, s9, s10, s11, s12, s13, s14, s15, s16, s17, s18, s19, s20, s21, s22, rfl⟩ hn
    have hi := (List.getElem?_eq_some_iff.mp hd).1
    rw [rng_len] at hi
    have hi' : i < 5 := hi
    refine ⟨_, rfl, ?_⟩
    exact t_turn (by omega) fun g2 _ _ _ _ _ _ _ _ _ _ _ _ _ _ _ _ _ _ _ _ hg2 => hn _ g2 ⟨by omega, _, _, _, _, _, _, _, _, _, _, _, _, _, _, _, _, _, _, _, _, _, rfl⟩
  · rintro ρ g' ⟨hg, s2, s3, s4, s5, s6, s7, s8, s9, s10, s11, s12, s13, s14, s15, s16, s17, s18, s19, s20, s21, s22, rfl⟩
    simp only [b_law_31, Bool.not_true, Bool.not_false, Bool.false_xor, Bool.true_xor, Bool.xor_false, Bool.xor_true, wpSL, wpS, wpE, wpL, wpA, wpJ, wpC, wpO, wpI, setD, setAll, setAllX, bindT, wipeE, List.set_cons_zero, List.set_cons_succ, List.getElem?_cons_zero, List.getElem?_cons_succ, e_fz, e_ow, e_st, e_int, e_int2, e_list, e_seqs1, e_seqs2, e_seq1, e_seq2, e_bool, e_kept0, e_kept1, e_add, e_cat, e_sub, e_mul, e_fdiv, e_mod, e_pow, e_catL, e_catT, e_repL, e_repT, e_eqI, e_eqS, e_neI, e_neS, e_lt, e_le, e_gt, e_ge, e_ltT, e_ixL, e_ixT, e_slL, e_slT, e_lenL, e_lenT, e_abs, e_intI, e_intB, e_str, e_max, e_min, e_repr, e_any, e_all, e_sum, e_listL, e_listT, e_tupL, e_tupT, e_n0, e_n1, e_n2, e_n3, e_n4, e_n5, e_memT, e_sset, e_lset, e_fI, e_fS, e_memL, e_ord, e_eqLL, e_eqL0, e_eqLT0, e_eqTT, e_neLL, e_neTT, e_neB, some_ex, if_tt, if_ff]
end Dz
set_option Elab.async false
set_option linter.all false
set_option maxRecDepth 100000
/-! the head: what the top has written, and the end -/
namespace Dz
open PySem PySem.Spec PyProof PyProof.Rows L2
theorem bi_law_stream {K : PySem.W.Frag} (f : Addr) (fd : FuncData) (F : L2.Fun K d_law_stream.name d_law_stream.name t_law_stream f fd) : Binds K fd d_law_stream.ps [] := F.binds (ps := d_law_stream.ps) fun _ _ _ _ _ _ us hl => match us, hl with | [_], _ => rfl
theorem bi_law_apart {K : PySem.W.Frag} (f : Addr) (fd : FuncData) (F : L2.Fun K d_law_apart.name d_law_apart.name t_law_apart f fd) : Binds K fd d_law_apart.ps [] := F.binds (ps := d_law_apart.ps) fun _ _ _ _ _ _ us hl => match us, hl with | [_, _], _ => rfl
theorem bi_law_fits {K : PySem.W.Frag} (f : Addr) (fd : FuncData) (F : L2.Fun K d_law_fits.name d_law_fits.name t_law_fits f fd) : Binds K fd d_law_fits.ps [] := F.binds (ps := d_law_fits.ps) fun _ _ _ _ _ _ us hl => match us, hl with | [_, _], _ => rfl
theorem bi_law_all {K : PySem.W.Frag} (f : Addr) (fd : FuncData) (F : L2.Fun K d_law_all.name d_law_all.name t_law_all f fd) : Binds K fd d_law_all.ps [] := F.binds (ps := d_law_all.ps) fun _ _ _ _ _ _ us hl => match us, hl with | [_], _ => rfl
theorem bi_law_wrong_ring {K : PySem.W.Frag} (f : Addr) (fd : FuncData) (F : L2.Fun K d_law_wrong_ring.name d_law_wrong_ring.name t_law_wrong_ring f fd) : Binds K fd d_law_wrong_ring.ps [] := F.binds (ps := d_law_wrong_ring.ps) fun _ _ _ _ _ _ us hl => match us, hl with | [_, _, _], _ => rfl
theorem bi_law_same {K : PySem.W.Frag} (f : Addr) (fd : FuncData) (F : L2.Fun K d_law_same.name d_law_same.name t_law_same f fd) : Binds K fd d_law_same.ps [] := F.binds (ps := d_law_same.ps) fun _ _ _ _ _ _ us hl => match us, hl with | [_, _], _ => rfl
theorem bi_perfect_of {K : PySem.W.Frag} (f : Addr) (fd : FuncData) (F : L2.Fun K d_perfect_of.name d_perfect_of.name t_perfect_of f fd) : Binds K fd d_perfect_of.ps [] := F.binds (ps := d_perfect_of.ps) fun _ _ _ _ _ _ us hl => match us, hl with | [_], _ => rfl
theorem bi_law_ring {K : PySem.W.Frag} (f : Addr) (fd : FuncData) (F : L2.Fun K d_law_ring.name d_law_ring.name t_law_ring f fd) : Binds K fd d_law_ring.ps [] := F.binds (ps := d_law_ring.ps) fun _ _ _ _ _ _ us hl => match us, hl with | [_, _, _], _ => rfl
theorem bi_law_divisor {K : PySem.W.Frag} (f : Addr) (fd : FuncData) (F : L2.Fun K d_law_divisor.name d_law_divisor.name t_law_divisor f fd) : Binds K fd d_law_divisor.ps [] := F.binds (ps := d_law_divisor.ps) fun _ _ _ _ _ _ us hl => match us, hl with | [_, _], _ => rfl
theorem bi_check_ring {K : PySem.W.Frag} (f : Addr) (fd : FuncData) (F : L2.Fun K d_check_ring.name d_check_ring.name t_check_ring f fd) : Binds K fd d_check_ring.ps [] := F.binds (ps := d_check_ring.ps) fun _ _ _ _ _ _ us hl => match us, hl with | [_, _], _ => rfl
theorem bi_is_ring_unlike {K : PySem.W.Frag} (f : Addr) (fd : FuncData) (F : L2.Fun K d_is_ring_unlike.name d_is_ring_unlike.name t_is_ring_unlike f fd) : Binds K fd d_is_ring_unlike.ps [] := F.binds (ps := d_is_ring_unlike.ps) fun _ _ _ _ _ _ us hl => match us, hl with | [_, _], _ => rfl
theorem bi_is_ring_perfect {K : PySem.W.Frag} (f : Addr) (fd : FuncData) (F : L2.Fun K d_is_ring_perfect.name d_is_ring_perfect.name t_is_ring_perfect f fd) : Binds K fd d_is_ring_perfect.ps [] := F.binds (ps := d_is_ring_perfect.ps) fun _ _ _ _ _ _ us hl => match us, hl with | [_, _], _ => rfl
theorem bi_ring_most {K : PySem.W.Frag} (f : Addr) (fd : FuncData) (F : L2.Fun K d_ring_most.name d_ring_most.name t_ring_most f fd) : Binds K fd d_ring_most.ps [] := F.binds (ps := d_ring_most.ps) fun _ _ _ _ _ _ us hl => match us, hl with | [_], _ => rfl
theorem bi_law {K : PySem.W.Frag} (f : Addr) (fd : FuncData) (F : L2.Fun K d_law.name d_law.name t_law f fd) (s : Shared) (u : Value) : BindsTo s fd ⟨[u], []⟩ [("script", u)] := by
  obtain ⟨oc, od, kV, doc, pm, an, cdv, ct, osl, rfl, lk, hcd⟩ := F.ex
  exact .of_eq rfl
theorem bi_next {K : PySem.W.Frag} (f : Addr) (fd : FuncData) (F : L2.Fun K "_law_next" "_law_next" t_next f fd) : Binds K fd ["state", "many"] [] := F.binds (ps := ["state", "many"]) fun _ _ _ _ _ _ us hl => match us, hl with | [_, _], _ => rfl
abbrev lev : Nat := rm 12 + 3
theorem bi_told {K : PySem.W.Frag} (f : Addr) (fd : FuncData) (F : L2.Fun K "_law_told" "_law_told" t_told f fd) : Binds K fd ["call"] [] := F.binds (ps := ["call"]) fun _ _ _ _ _ _ us hl => match us, hl with | [_], _ => rfl
theorem nk_next {P : Program} {w : World} {K : PySem.W.Frag} {B : Wish} {mg : Str → Option Value} (base : Heap) (f : Addr) (fd : FuncData) (h1 : mg "len" = none) (h2 : mg "int" = none) (F : L2.Fun K "_law_next" "_law_next" t_next f fd) : FnG P w K mg base 1 f fd ["state", "many"] (spNext K B) := next_ok F h1 h2 rfl rfl
theorem head_mk {q P : Program} {w : World} {K : PySem.W.Frag} {h : Heap} {mg : Str → Option Value} {fa : Addr} {A c0 c1 c2 c3 c4 ccL PL : Addr} (X : K.In h) (G : h.Ns mainGlobals mg) (hfa : mg "law" = some (.ref fa)) (TT : TopTabs q mg h) (b : ∀ x ∈ blts, PySem.W.nsIn K mainGlobals x = some none)
    (e0 : ExcFact K "NotAllowed" c0)
    (e2 : ExcFact K "Missing" c2)
    (kMAX_MODULUS : ∃ t, PySem.W.nsIn K mainGlobals "MAX_MODULUS" = some (some (.int 60 t)))
    (kMAX_RING : ∃ t, PySem.W.nsIn K mainGlobals "MAX_RING" = some (some (.int 31 t)))
    (N : DefFact K "_law_next" t_next)
    (D0 : DefFact K "_law_stream" t_law_stream)
    (D1 : DefFact K "_law_apart" t_law_apart)
    (D2 : DefFact K "_law_fits" t_law_fits)
    (D3 : DefFact K "_law_all" t_law_all)
    (D4 : DefFact K "_law_wrong_ring" t_law_wrong_ring)
    (D5 : DefFact K "_law_same" t_law_same)
    (D6 : DefFact K "perfect_of" t_perfect_of)
    (D7 : DefFact K "_law_ring" t_law_ring)
    (D8 : DefFact K "_law_divisor" t_law_divisor)
    (D9 : DefFact K "check_ring" t_check_ring)
    (D10 : DefFact K "is_ring_unlike" t_is_ring_unlike)
    (D11 : DefFact K "is_ring_perfect" t_is_ring_perfect)
    (D12 : DefFact K "ring_most" t_ring_most)
    (L : LamDef K "law" t_law ccL PL)
    (qL : (recsOf q).any (fun d => d.name == ("law" : Str)) = true)
    (TD : DefFact K "_law_told" t_told)
    (gA : PySem.W.nsIn K mainGlobals "AddError" = some (some (.ref A)))
    (g0 : PySem.W.nsIn K mainGlobals "NotAllowed" = some (some (.ref c0)))
    (g1 : PySem.W.nsIn K mainGlobals "TooLarge" = some (some (.ref c1)))
    (g2 : PySem.W.nsIn K mainGlobals "Missing" = some (some (.ref c2)))
    (g3 : PySem.W.nsIn K mainGlobals "BadForm" = some (some (.ref c3)))
    (g4 : PySem.W.nsIn K mainGlobals "Broken" = some (some (.ref c4)))
    (ec0 : ExcC K c0)
    (ec1 : ExcC K c1)
    (ec2 : ExcC K c2)
    (x0 : PySem.W.exmOne K (.ref c0) (.ref A) = some true)
    (x1 : PySem.W.exmOne K (.ref c1) (.ref A) = some true)
    (x2 : PySem.W.exmOne K (.ref c2) (.ref A) = some true)
    (k00 : PySem.W.kitOne K (.ref c0) (.ref c0) = some true)
    (k01 : PySem.W.kitOne K (.ref c0) (.ref c1) = some false)
    (k02 : PySem.W.kitOne K (.ref c0) (.ref c2) = some false)
    (k03 : PySem.W.kitOne K (.ref c0) (.ref c3) = some false)
    (k04 : PySem.W.kitOne K (.ref c0) (.ref c4) = some false)
    (k10 : PySem.W.kitOne K (.ref c1) (.ref c0) = some false)
    (k11 : PySem.W.kitOne K (.ref c1) (.ref c1) = some true)
    (k12 : PySem.W.kitOne K (.ref c1) (.ref c2) = some false)
    (k13 : PySem.W.kitOne K (.ref c1) (.ref c3) = some false)
    (k14 : PySem.W.kitOne K (.ref c1) (.ref c4) = some false)
    (k20 : PySem.W.kitOne K (.ref c2) (.ref c0) = some false)
    (k21 : PySem.W.kitOne K (.ref c2) (.ref c1) = some false)
    (k22 : PySem.W.kitOne K (.ref c2) (.ref c2) = some true)
    (k23 : PySem.W.kitOne K (.ref c2) (.ref c3) = some false)
    (k24 : PySem.W.kitOne K (.ref c2) (.ref c4) = some false)
    (nd : [PL].Nodup)
    : ∃ (fd : FuncData) (cs : List (Addr × Addr × Str)), (∀ p ∈ cs, h.get? p.2.1 = some { cls := .none, data := .fields #[] }) ∧ (∀ p ∈ cs, K.lookup p.2.1 = none) ∧ (∀ p ∈ cs, PySem.W.CodeHd h p.1 p.2.1) ∧ (∀ (s : Shared) (u : Value), BindsTo s fd ⟨[u], []⟩ [("script", u)]) ∧
      ∀ base : Heap, K.In base → base.Ns mainGlobals mg → (∀ p ∈ cs, LamX.TabB base mg p.1 p.2.1) → FnG P w K mg base lev fa fd ["script"] (spTrue K (cs.map (·.2))) := by
  obtain ⟨fa2, fdL, mL, FL, cL⟩ := L.use X G
  rw [hfa] at mL
  cases mL
  have TF : ToldFn K ⟨fun x v => ∃ m, m < 3 ∧ x = .cls m ∧ v = .ref ([c0, c1, c2, c3, c4].getD m 0), [(ccL, PL, ("law" ++ ".<locals>." : Str) ++ "<lambda>")].map (·.2)⟩ mg := toldFn_of X G TD sc_told body_told bi_told gA g0 g1 g2 g3 g4 b ec0 ec1 ec2 x0 x1 x2 (by
    intro m hm j hj
    match m, hm with
    | 0, _ => match j, hj with
      | 0, _ => exact k00
      | 1, _ => exact k01
      | 2, _ => exact k02
      | 3, _ => exact k03
      | 4, _ => exact k04
    | 1, _ => match j, hj with
      | 0, _ => exact k10
      | 1, _ => exact k11
      | 2, _ => exact k12
      | 3, _ => exact k13
      | 4, _ => exact k14
    | 2, _ => match j, hj with
      | 0, _ => exact k20
      | 1, _ => exact k21
      | 2, _ => exact k22
      | 3, _ => exact k23
      | 4, _ => exact k24
    )
  have tL := L.tab X G TT (rec_of qL)
  refine ⟨fdL, [(ccL, PL, ("law" ++ ".<locals>." : Str) ++ "<lambda>")], (all1 tL.1 all0), (all1 tL.2.1 all0), (all1 tL.2.2 all0), bi_law _ _ FL, fun base hK hG tab => ?_⟩
  have TX : Txts tb ⟨fun x v => ∃ m, m < 3 ∧ x = .cls m ∧ v = .ref ([c0, c1, c2, c3, c4].getD m 0), [(ccL, PL, ("law" ++ ".<locals>." : Str) ++ "<lambda>")].map (·.2)⟩ exs P w K mg := txts_of (fun m => [c0, c1, c2, c3, c4].getD m 0) X G (fun m hm => ⟨m, by revert hm; revert m; decide, rfl, rfl⟩) b (all1 e0 (all1 e2 all0)) (all1 kMAX_MODULUS (all1 kMAX_RING all0)) all0
  exact head_ok (tb := tb) (xs := exs) (d := d_law) X G TX N nk_next bi_next rfl sc_law is_law law_pure FL ⟨defAt_of X G D0 sc_law_stream is_law_stream bi_law_stream rfl, defAt_of X G D1 sc_law_apart is_law_apart bi_law_apart rfl, defAt_of X G D2 sc_law_fits is_law_fits bi_law_fits rfl, defAt_of X G D3 sc_law_all is_law_all bi_law_all rfl, defAt_of X G D4 sc_law_wrong_ring is_law_wrong_ring bi_law_wrong_ring rfl, defAt_of X G D5 sc_law_same is_law_same bi_law_same rfl, defAt_of X G D6 sc_perfect_of is_perfect_of bi_perfect_of rfl, defAt_of X G D7 sc_law_ring is_law_ring bi_law_ring rfl, defAt_of X G D8 sc_law_divisor is_law_divisor bi_law_divisor rfl, defAt_of X G D9 sc_check_ring is_check_ring bi_check_ring rfl, defAt_of X G D10 sc_is_ring_unlike is_is_ring_unlike bi_is_ring_unlike rfl, defAt_of X G D11 sc_is_ring_perfect is_is_ring_perfect bi_is_ring_perfect rfl, defAt_of X G D12 sc_ring_most is_ring_most bi_ring_most rfl, trivial⟩ (fun _ => ⟨TF, lamAt_of (x := d_law.name) (cc := ccL) (P := PL) (cs := [(ccL, PL, ("law" ++ ".<locals>." : Str) ++ "<lambda>")]) cL (.head _) (by simpa using nd) tab⟩)
/-- the names of the built-in things that the top leaves alone -/
theorem blts_of {K : PySem.W.Frag} (h0 : PySem.W.nsIn K mainGlobals "len" = some none) (h1 : PySem.W.nsIn K mainGlobals "abs" = some none) (h2 : PySem.W.nsIn K mainGlobals "int" = some none) (h3 : PySem.W.nsIn K mainGlobals "str" = some none) (h4 : PySem.W.nsIn K mainGlobals "repr" = some none) (h5 : PySem.W.nsIn K mainGlobals "max" = some none) (h6 : PySem.W.nsIn K mainGlobals "min" = some none) (h7 : PySem.W.nsIn K mainGlobals "sum" = some none) (h8 : PySem.W.nsIn K mainGlobals "sorted" = some none) (h9 : PySem.W.nsIn K mainGlobals "list" = some none) (h10 : PySem.W.nsIn K mainGlobals "tuple" = some none) (h11 : PySem.W.nsIn K mainGlobals "range" = some none) (h12 : PySem.W.nsIn K mainGlobals "zip" = some none) (h13 : PySem.W.nsIn K mainGlobals "enumerate" = some none) (h14 : PySem.W.nsIn K mainGlobals "set" = some none) (h15 : PySem.W.nsIn K mainGlobals "any" = some none) (h16 : PySem.W.nsIn K mainGlobals "all" = some none) (h17 : PySem.W.nsIn K mainGlobals "dict" = some none) (h18 : PySem.W.nsIn K mainGlobals "isinstance" = some none) : ∀ x ∈ blts, PySem.W.nsIn K mainGlobals x = some none := fun x hx => by
  unfold blts at hx
  simp only [List.mem_cons, List.not_mem_nil, or_false] at hx
  rcases hx with rfl | rfl | rfl | rfl | rfl | rfl | rfl | rfl | rfl | rfl | rfl | rfl | rfl | rfl | rfl | rfl | rfl | rfl | rfl
  all_goals assumption
end Dz
open PySem PySem.W PyProof.Rows
set_option maxHeartbeats 0 in
theorem PySem.Challenge.cw_setsadded_k09_whole_unlike_rings_holds : PySem.Challenge.rw_setsadded_k09_whole_unlike_rings.Holds := by
  w_on; o_law; k_head; (case hw => w_witness2)
  k_fill
  refine Dz.walkG (k := Dz.lev) (by rfl) (by rfl) ⟨rfl, by decide, by decide⟩ (fun w h Y => by first | exact PySem.W.km_in_of Y | exact PySem.W.kIn_of Y) ?F
  case F =>
    intro w mg fa h Y G hmg TT
    refine' Dz.head_mk Y G hmg TT (Dz.blts_of ?zb0 ?zb1 ?zb2 ?zb3 ?zb4 ?zb5 ?zb6 ?zb7 ?zb8 ?zb9 ?zb10 ?zb11 ?zb12 ?zb13 ?zb14 ?zb15 ?zb16 ?zb17 ?zb18) ?zp0 ?zp1 ?zp2 ?zp3 ?zp4 ?zp5 ?zp6 ?zp7 ?zp8 ?zp9 ?zp10 ?zp11 ?zp12 ?zp13 ?zp14 ?zp15 ?zp16 ?zp17 ?zp18 ?zp19 ?zp20 ?zp21 ?zp22 ?zp23 ?zp24 ?zp25 ?zp26 ?zp27 ?zp28 ?zp29 ?zp30 ?zp31 ?zp32 ?zp33 ?zp34 ?zp35 ?zp36 ?zp37 ?zp38 ?zp39 ?zp40 ?zp41 ?zp42 ?zp43 ?zp44 ?zp45 ?zp46 ?zp47 ?zp48
    case zb0 => k_is
    case zb1 => k_is
    case zb2 => k_is
    case zb3 => k_is
    case zb4 => k_is
    case zb5 => k_is
    case zb6 => k_is
    case zb7 => k_is
    case zb8 => k_is
    case zb9 => k_is
    case zb10 => k_is
    case zb11 => k_is
    case zb12 => k_is
    case zb13 => k_is
    case zb14 => k_is
    case zb15 => k_is
    case zb16 => k_is
    case zb17 => k_is
    case zb18 => k_is
    case zp0 => (refine' Dz.exc_fact ?za ?zq ?zk ?zs ?zt; (case za => k_is); (case zq => k_exc); (case zk => k_is); (case zs => k_is); (case zt => k_is))
    case zp1 => (refine' Dz.exc_fact ?za ?zq ?zk ?zs ?zt; (case za => k_is); (case zq => k_exc); (case zk => k_is); (case zs => k_is); (case zt => k_is))
    case zp2 => (refine' Dz.cst_fact ?za ?zd; (case za => k_is); (case zd => rfl))
    case zp3 => (refine' Dz.cst_fact ?za ?zd; (case za => k_is); (case zd => rfl))
    case zp4 => (refine' Dz.def_fact ?za ?zl ?zc ?zk; (case za => k_is); (case zl => k_is); (case zc => k_is); (case zk => k_is))
    case zp5 => (refine' Dz.def_fact ?za ?zl ?zc ?zk; (case za => k_is); (case zl => k_is); (case zc => k_is); (case zk => k_is))
    case zp6 => (refine' Dz.def_fact ?za ?zl ?zc ?zk; (case za => k_is); (case zl => k_is); (case zc => k_is); (case zk => k_is))
    case zp7 => (refine' Dz.def_fact ?za ?zl ?zc ?zk; (case za => k_is); (case zl => k_is); (case zc => k_is); (case zk => k_is))
    case zp8 => (refine' Dz.def_fact ?za ?zl ?zc ?zk; (case za => k_is); (case zl => k_is); (case zc => k_is); (case zk => k_is))
    case zp9 => (refine' Dz.def_fact ?za ?zl ?zc ?zk; (case za => k_is); (case zl => k_is); (case zc => k_is); (case zk => k_is))
    case zp10 => (refine' Dz.def_fact ?za ?zl ?zc ?zk; (case za => k_is); (case zl => k_is); (case zc => k_is); (case zk => k_is))
    case zp11 => (refine' Dz.def_fact ?za ?zl ?zc ?zk; (case za => k_is); (case zl => k_is); (case zc => k_is); (case zk => k_is))
    case zp12 => (refine' Dz.def_fact ?za ?zl ?zc ?zk; (case za => k_is); (case zl => k_is); (case zc => k_is); (case zk => k_is))
    case zp13 => (refine' Dz.def_fact ?za ?zl ?zc ?zk; (case za => k_is); (case zl => k_is); (case zc => k_is); (case zk => k_is))
    case zp14 => (refine' Dz.def_fact ?za ?zl ?zc ?zk; (case za => k_is); (case zl => k_is); (case zc => k_is); (case zk => k_is))
    case zp15 => (refine' Dz.def_fact ?za ?zl ?zc ?zk; (case za => k_is); (case zl => k_is); (case zc => k_is); (case zk => k_is))
    case zp16 => (refine' Dz.def_fact ?za ?zl ?zc ?zk; (case za => k_is); (case zl => k_is); (case zc => k_is); (case zk => k_is))
    case zp17 => (refine' Dz.def_fact ?za ?zl ?zc ?zk; (case za => k_is); (case zl => k_is); (case zc => k_is); (case zk => k_is))
    case zp18 => (refine' Dz.lam_fact ?za ?zl ?zc ?zk ?zlt ?zln; (case za => k_is); (case zl => k_is); (case zc => k_is); (case zk => k_is); (case zlt => (first | rfl | k_is)); (case zln => (first | rfl | k_is)))
    case zp19 => (first | rfl | decide +kernel)
    case zp20 => (refine' Dz.def_fact ?za ?zl ?zc ?zk; (case za => k_is); (case zl => k_is); (case zc => k_is); (case zk => k_is))
    case zp21 => k_is
    case zp22 => k_is
    case zp23 => k_is
    case zp24 => k_is
    case zp25 => k_is
    case zp26 => k_is
    case zp27 => (refine' L2.ExcC.mk ?z0 ?z1 ?z2 ?z3 ?z4 ?z5 ?z6 ?z7; (case z0 => k_is); (case z1 => k_is); (case z2 => k_is); (case z3 => k_is); (case z4 => k_is); (case z5 => k_is); (case z6 => k_is); (case z7 => k_is))
    case zp28 => (refine' L2.ExcC.mk ?z0 ?z1 ?z2 ?z3 ?z4 ?z5 ?z6 ?z7; (case z0 => k_is); (case z1 => k_is); (case z2 => k_is); (case z3 => k_is); (case z4 => k_is); (case z5 => k_is); (case z6 => k_is); (case z7 => k_is))
    case zp29 => (refine' L2.ExcC.mk ?z0 ?z1 ?z2 ?z3 ?z4 ?z5 ?z6 ?z7; (case z0 => k_is); (case z1 => k_is); (case z2 => k_is); (case z3 => k_is); (case z4 => k_is); (case z5 => k_is); (case z6 => k_is); (case z7 => k_is))
    case zp30 => (first | rfl | k_is)
    case zp31 => (first | rfl | k_is)
    case zp32 => (first | rfl | k_is)
    case zp33 => (first | rfl | k_is)
    case zp34 => (first | rfl | k_is)
    case zp35 => (first | rfl | k_is)
    case zp36 => (first | rfl | k_is)
    case zp37 => (first | rfl | k_is)
    case zp38 => (first | rfl | k_is)
    case zp39 => (first | rfl | k_is)
    case zp40 => (first | rfl | k_is)
    case zp41 => (first | rfl | k_is)
    case zp42 => (first | rfl | k_is)
    case zp43 => (first | rfl | k_is)
    case zp44 => (first | rfl | k_is)
    case zp45 => (first | rfl | k_is)
    case zp46 => (first | rfl | k_is)
    case zp47 => (first | rfl | k_is)
    case zp48 => decide
