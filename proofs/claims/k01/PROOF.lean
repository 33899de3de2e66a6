import PyProof.Rows.All
import Wide.All
import OpenK.AllK
import Wide.FinOn
import PyProof.ReprReads
import PyProof.EqLayable
import HandS.ForMost
import HandS.ForExc
import HandS.Walk
import HandS.TupAny
import HandS.FStr
import HandS.Zip
import HandS.Conv
import HandS.Style
import HandS.Wide
import HandS.Lambda
import PyProof.Rows.RegStrFacts
import PyProof.StrLawsRepr
import PySem.Challenge.RW_setsadded_k01_ratios
set_option Elab.async false
set_option linter.all false
set_option maxRecDepth 100000
/-! Dz: a small language of one's own over plain data, and what is wanted ahead of its texts (weakest preconditions). -/
namespace Dz
open PySem
abbrev D := PyData
/-- what a name holds: nothing, data that stands still, a list or dict of the def's own, the law's state of draws -/
inductive SV | un | fz (d : D) | ow (d : D) | st
abbrev Ev := List SV
inductive Ex | cls (n : Nat) | arg (n : Nat) (d : D)
abbrev Rs := D → Nat → Prop
abbrev XR := Ex → Nat → Prop
abbrev PhiT := Nat → List SV → Nat → XR → Rs → Prop

inductive Bin | add | sub | mul | fdiv | mod | pow deriving DecidableEq
inductive Cmp | eq | ne | lt | le | gt | ge deriving DecidableEq
inductive Fn | len | abs | int | str | repr | max | min | sum | sorted | list | tuple deriving DecidableEq
inductive Tg | v (i : Nat) | t (is : List Nat)

mutual
inductive E
  | var (i : Nat) | own (i : Nat)
  | int (i : Int) | bl (b : Bool) | non | str (s : Str)
  | bin (o : Bin) (a b : E) | neg (a : E)
  | cmp (o : Cmp) (a b : E)
  | and (a b : E) | or (a b : E) | not (a : E)
  | ite (c a b : E)
  | tup (es : L) | lst (es : L)
  | ix (a i : E) | slice (a : E) (lo hi : O)
  | call (f : Nat) (as : A)
  | draw (i : Nat) (m : E)
  | fn (b : Fn) (as : L)
  | comp (elt : E) (tg : Tg) (it : It) (ifs : L) (own : List Nat)
  | fmt (es : L)
inductive L | nil | cons (e : E) (r : L)
inductive A | nil | cons (e : E) (r : A) | st (i : Nat) (r : A)
inductive O | no | ye (e : E)
inductive It | of (e : E) | range (a b : E) | range1 (b : E) | zip (a b : E) | enum (a : E)
end

mutual
inductive S
  | set (i : Nat) (e : E) | setO (i : Nat) (e : E) | mkst (i : Nat) (e : E)
  | par (is : List Nat) (es : L) | unpack (is : List Nat) (e : E)
  | freeze (i : Nat)
  | append (i : Nat) (e : E)
  | ifs (c : E) (a b : SL)
  | for_ (tg : Tg) (it : It) (b : SL)
  | while_ (c : E) (b : SL)
  | ret (e : E)
  | raise (n : Nat)
  | brk | cont
inductive SL | nil | cons (s : S) (r : SL)
end

/-! ### plain data -/
def mulOk (i j : Int) : Prop := (-(2 ^ 64) < i ∧ i < 2 ^ 64) ∨ (-(2 ^ 64) < j ∧ j < 2 ^ 64) ∨ i.natAbs.log2 + j.natAbs.log2 < 1000000
def binD : Bin → D → D → (D → Prop) → Prop
  | .add, .int i, .int j, Q => Q (.int (i + j))
  | .add, .str a, .str b, Q => a.length + b.length ≤ sizeLine ∧ Q (.str (a ++ b))
  | .sub, .int i, .int j, Q => Q (.int (i - j))
  | .mul, .int i, .int j, Q => mulOk i j ∧ Q (.int (i * j))
  | .fdiv, .int i, .int j, Q => (j ≠ 0 ∧ j.natAbs.log2 < 9000) ∧ Q (.int (i.fdiv j))
  | .mod, .int i, .int j, Q => j ≠ 0 ∧ Q (.int (i.fmod j))
  | .pow, .int i, .int j, Q => (0 ≤ j ∧ j ≤ 1000000 ∧ i.natAbs < 2 ^ 64) ∧ Q (.int (i ^ j.toNat))
  | _, _, _, _ => False
def cmpD : Cmp → D → D → (D → Prop) → Prop
  | .eq, .int i, .int j, Q => Q (.bool (decide (i = j)))
  | .eq, .str i, .str j, Q => Q (.bool (decide (i = j)))
  | .eq, a, b, Q => (SeqAt.shaped a = true ∧ SeqAt.shaped b = true) ∧ Q (.bool (PyData.eqv a b))
  | .ne, .int i, .int j, Q => Q (.bool (!decide (i = j)))
  | .ne, .str i, .str j, Q => Q (.bool (!decide (i = j)))
  | .ne, a, b, Q => (SeqAt.shaped a = true ∧ SeqAt.shaped b = true) ∧ Q (.bool (!PyData.eqv a b))
  | .lt, .int i, .int j, Q => Q (.bool (decide (i < j)))
  | .le, .int i, .int j, Q => Q (.bool (decide (i ≤ j)))
  | .gt, .int i, .int j, Q => Q (.bool (decide (j < i)))
  | .ge, .int i, .int j, Q => Q (.bool (decide (j ≤ i)))
  | _, _, _, _ => False
/-- the place of an index -/
def ixN (n : Nat) (i : Int) : Option Nat := if 0 ≤ i then (if i < n then some i.toNat else none) else if -(n : Int) ≤ i then some (i + n).toNat else none
def at_ (xs : List D) (i : Int) : Option D := (ixN xs.length i).bind fun j => xs[j]?
def ixD : D → D → (D → Prop) → Prop
  | .list xs, .int i, Q => ∃ d, at_ xs i = some d ∧ Q d
  | .tuple xs, .int i, Q => ∃ d, at_ xs i = some d ∧ Q d
  | _, _, _ => False
def sIx (n d : Nat) : Option Int → Nat
  | none => d
  | some v => if v < 0 then (v + (n : Int)).toNat else min v.toNat n
def cutD (xs : List D) (lo hi : Option Int) : List D := (xs.drop (sIx xs.length 0 lo)).take (sIx xs.length xs.length hi - sIx xs.length 0 lo)
def sliceD : D → Option Int → Option Int → (D → Prop) → Prop
  | .list xs, lo, hi, Q => Q (.list (cutD xs lo hi))
  | .tuple xs, lo, hi, Q => Q (.tuple (cutD xs lo hi))
  | _, _, _, _ => False
def fnD : Fn → List D → (D → Prop) → Prop
  | .len, [.list xs], Q => Q (.int xs.length)
  | .len, [.tuple xs], Q => Q (.int xs.length)
  | .abs, [.int i], Q => Q (.int (if i < 0 then -i else i))
  | .int, [.int i], Q => Q (.int i)
  | .int, [.bool b], Q => Q (.int (if b then 1 else 0))
  | .str, [.int i], Q => i.natAbs.log2 < 1920 ∧ Q (.str (toString i))
  | .max, [.int i, .int j], Q => Q (.int (if j > i then j else i))
  | .min, [.int i, .int j], Q => Q (.int (if j < i then j else i))
  | .repr, [.list xs], Q => ((PyData.list xs).showable = true ∧ (PyData.list xs).depth < 50 ∧ (PyData.list xs).hasDict = false ∧ (PyData.list xs).shown.length ≤ sizeLine) ∧ Q (.str (PyData.list xs).shown)
  | _, _, _ => False
/-- {a}: the text of an int or a text -/
def strD : D → (Str → Prop) → Prop
  | .int i, Q => i.natAbs.log2 < 1920 ∧ Q (toString i)
  | .str s, Q => s.length ≤ sizeLine ∧ Q s
  | _, _ => False
def setD (ρ : Ev) (i : Nat) (d : D) : Ev := ρ.set i (.fz d)
def setAll (ρ : Ev) : List Nat → List D → Option Ev
  | [], [] => some ρ
  | i :: is, d :: ds => setAll (setD ρ i d) is ds
  | _, _ => none
def bindT : Tg → D → Ev → Option Ev
  | .v i, d, ρ => some (setD ρ i d)
  | .t is, .tuple ds, ρ => setAll ρ is ds
  | .t _, _, _ => none
def wipeE (ρ : Ev) : List Nat → Ev
  | [] => ρ
  | v :: vs => (wipeE ρ vs).set v .un
def itemsD : D → Option (List D)
  | .list xs => some xs
  | .tuple xs => some xs
  | _ => none
def rangeD (lo hi : Int) : List D := (List.range (hi - lo).toNat).map fun k : Nat => PyData.int (lo + (k : Int))
def zipD (a b : List D) : List D := List.zipWith (fun x y => .tuple [x, y]) a b
def enumD (a : List D) : List D := zipD ((List.range a.length).map fun k : Nat => PyData.int (k : Int)) a

/-! ### loops -/
structure Kt where
  nx : Ev → Nat → Prop
  rt : Rs
  bk : Ev → Nat → Prop
  ct : Ev → Nat → Prop
def loopF (tg : Tg) (body : Ev → Nat → Kt → Prop) : List D → Ev → Nat → Kt → Prop
  | [], ρ, g, k => k.nx ρ g
  | d :: ds, ρ, g, k => ∃ ρ', bindT tg d ρ = some ρ' ∧ body ρ' g ⟨fun ρ g => loopF tg body ds ρ g k, k.rt, k.nx, fun ρ g => loopF tg body ds ρ g k⟩
def onFz : Option SV → (D → Prop) → Prop
  | some (.fz d), k => k d
  | _, _ => False
def onOw : Option SV → (D → Prop) → Prop
  | some (.ow d), k => k d
  | _, _ => False
def onSt : Option SV → Prop → Prop
  | some .st, k => k
  | _, _ => False
def onInt : D → (Int → Prop) → Prop
  | .int i, k => k i
  | _, _ => False
def onInt2 : D → D → (Int → Int → Prop) → Prop
  | .int i, .int j, k => k i j
  | _, _, _ => False
def onList : D → (List D → Prop) → Prop
  | .list i, k => k i
  | _, _ => False
def onSeqs : D → D → (List D → List D → Prop) → Prop
  | .list i, .list j, k => k i j
  | .tuple i, .tuple j, k => k i j
  | _, _, _ => False
def onSeq : D → (List D → Prop) → Prop
  | .list i, k => k i
  | .tuple i, k => k i
  | _, _ => False
def onKept : Option D → Prop → (D → Prop) → Prop
  | none, a, _ => a
  | some y, _, b => b y
def loopC (f : D → Nat → (Option D → Nat → Prop) → Prop) : List D → List D → Nat → (List D → Nat → Prop) → Prop
  | [], acc, g, k => k acc g
  | d :: ds, acc, g, k => f d g fun r g' => onKept r (loopC f ds acc g' k) fun y => acc.length < sizeLine ∧ loopC f ds (acc ++ [y]) g' k
def loopW (c : Ev → Nat → (Bool → Nat → Prop) → Prop) (body : Ev → Nat → Kt → Prop) : Nat → Ev → Nat → Kt → Prop
  | 0, _, _, _ => False
  | n + 1, ρ, g, k => c ρ g fun t g1 => if t = true then body ρ g1 ⟨fun ρ g => loopW c body n ρ g k, k.rt, k.nx, fun ρ g => loopW c body n ρ g k⟩ else k.nx ρ g1
def onBool (k : Bool → Nat → Prop) : D → Nat → Prop
  | .bool b, g => k b g
  | _, _ => False
def noX : XR := fun _ _ => False

/-! ### what is wanted ahead -/
section
variable (Φ : PhiT)
mutual
def wpE : E → Ev → Nat → XR → Rs → Prop
  | .var i, ρ, g, _, Q => onFz ρ[i]? fun d => Q d g
  | .own i, ρ, g, _, Q => onOw ρ[i]? fun d => Q d g
  | .int i, _, g, _, Q => Q (.int i) g
  | .bl b, _, g, _, Q => Q (.bool b) g
  | .non, _, g, _, Q => Q .none g
  | .str s, _, g, _, Q => Q (.str s) g
  | .bin o a b, ρ, g, X, Q => wpE a ρ g X fun x g1 => wpE b ρ g1 X fun y g2 => binD o x y fun z => Q z g2
  | .neg a, ρ, g, X, Q => wpE a ρ g X fun x g1 => onInt x fun i => Q (.int (-i)) g1
  | .cmp o a b, ρ, g, X, Q => wpE a ρ g X fun x g1 => wpE b ρ g1 X fun y g2 => cmpD o x y fun z => Q z g2
  | .and a b, ρ, g, X, Q => wpE a ρ g X (onBool fun t g1 => if t = true then wpE b ρ g1 X (onBool fun t g2 => Q (.bool t) g2) else Q (.bool false) g1)
  | .or a b, ρ, g, X, Q => wpE a ρ g X (onBool fun t g1 => if t = true then Q (.bool true) g1 else wpE b ρ g1 X (onBool fun t g2 => Q (.bool t) g2))
  | .not a, ρ, g, X, Q => wpE a ρ g X (onBool fun t g1 => Q (.bool (!t)) g1)
  | .ite c a b, ρ, g, X, Q => wpE c ρ g X (onBool fun t g1 => if t = true then wpE a ρ g1 X Q else wpE b ρ g1 X Q)
  | .tup es, ρ, g, X, Q => wpL es ρ g X fun ds g1 => ds.length ≤ sizeLine ∧ Q (.tuple ds) g1
  | .lst es, ρ, g, X, Q => wpL es ρ g X fun ds g1 => ds.length ≤ sizeLine ∧ Q (.list ds) g1
  | .ix a i, ρ, g, X, Q => wpE a ρ g X fun x g1 => wpE i ρ g1 X fun y g2 => ixD x y fun z => Q z g2
  | .slice a lo hi, ρ, g, X, Q => wpE a ρ g X fun x g1 => wpO lo ρ g1 X fun l g2 => wpO hi ρ g2 X fun h g3 => sliceD x l h fun z => Q z g3
  | .call f as, ρ, g, X, Q => wpA as ρ g X fun svs g1 => Φ f svs g1 X Q
  | .draw i m, ρ, g, X, Q => onSt ρ[i]? (wpE m ρ g X fun y g1 => onInt y fun n => 0 < n ∧ 1 < g1 ∧ ∀ x : Int, 0 ≤ x → x < n → Q (.int x) (g1 - 1))
  | .fn b as, ρ, g, X, Q => wpL as ρ g X fun ds g1 => fnD b ds fun z => Q z g1
  | .comp elt tg it ifs own, ρ, g, X, Q => wpI it ρ g X fun ds g0 => loopC (fun d g k => ∃ ρ', bindT tg d (wipeE ρ own) = some ρ' ∧
      wpC ifs ρ' g noX fun t g1 => if t = true then wpE elt ρ' g1 noX fun y g2 => k (some y) g2 else k none g1) ds [] g0 fun r g1 => Q (.list r) g1
  | .fmt es, ρ, g, X, Q => wpJ es Str.empty ρ g X fun t g1 => Q (.str t) g1
def wpL : L → Ev → Nat → XR → (List D → Nat → Prop) → Prop
  | .nil, _, g, _, Q => Q [] g
  | .cons e r, ρ, g, X, Q => wpE e ρ g X fun d g1 => wpL r ρ g1 X fun ds g2 => Q (d :: ds) g2
/-- the texts one behind the other -/
def wpJ : L → Str → Ev → Nat → XR → (Str → Nat → Prop) → Prop
  | .nil, acc, _, g, _, Q => Q acc g
  | .cons e r, acc, ρ, g, X, Q => wpE e ρ g X fun d g1 => strD d fun t => (acc ++ t).length ≤ sizeLine ∧ wpJ r (acc ++ t) ρ g1 X Q
/-- the tests of a comprehension's clause, all of them -/
def wpC : L → Ev → Nat → XR → (Bool → Nat → Prop) → Prop
  | .nil, _, g, _, Q => Q true g
  | .cons e r, ρ, g, X, Q => wpE e ρ g X (onBool fun t g1 => if t = true then wpC r ρ g1 X Q else Q false g1)
def wpA : A → Ev → Nat → XR → (List SV → Nat → Prop) → Prop
  | .nil, _, g, _, Q => Q [] g
  | .cons e r, ρ, g, X, Q => wpE e ρ g X fun d g1 => wpA r ρ g1 X fun ds g2 => Q (.fz d :: ds) g2
  | .st i r, ρ, g, X, Q => onSt ρ[i]? (wpA r ρ g X fun ds g2 => Q (.st :: ds) g2)
def wpO : O → Ev → Nat → XR → (Option Int → Nat → Prop) → Prop
  | .no, _, g, _, Q => Q none g
  | .ye e, ρ, g, X, Q => wpE e ρ g X fun d g1 => onInt d fun i => Q (some i) g1
def wpI : It → Ev → Nat → XR → (List D → Nat → Prop) → Prop
  | .of e, ρ, g, X, Q => wpE e ρ g X fun d g1 => onSeq d fun ds => Q ds g1
  | .range a b, ρ, g, X, Q => wpE a ρ g X fun x g1 => wpE b ρ g1 X fun y g2 => onInt2 x y fun i j => (-(2 ^ 62) ≤ i ∧ i < 2 ^ 62 ∧ -(2 ^ 62) ≤ j ∧ j < 2 ^ 62) ∧ Q (rangeD i j) g2
  | .range1 b, ρ, g, X, Q => wpE b ρ g X fun y g2 => onInt y fun j => (-(2 ^ 62) ≤ j ∧ j < 2 ^ 62) ∧ Q (rangeD 0 j) g2
  | .zip a b, ρ, g, X, Q => wpE a ρ g X fun x g1 => wpE b ρ g1 X fun y g2 => onSeqs x y fun xs ys => Q (zipD xs ys) g2
  | .enum a, ρ, g, X, Q => wpE a ρ g X fun x g1 => onList x fun xs => Q (enumD xs) g1
end
mutual
def wpS : S → Ev → Nat → XR → Kt → Prop
  | .set i e, ρ, g, X, k => wpE Φ e ρ g X fun d g1 => k.nx (setD ρ i d) g1
  | .setO i e, ρ, g, X, k => wpE Φ e ρ g X fun d g1 => k.nx (ρ.set i (.ow d)) g1
  | .mkst i e, ρ, g, X, k => wpE Φ e ρ g X fun d g1 => g1 = 0 ∧ ∃ (x : Int) (xs : List Int), d = .list (.int x :: xs.map PyData.int) ∧ xs.length < 16777216 ∧ k.nx (ρ.set i .st) (2 ^ 50)
  | .par is es, ρ, g, X, k => wpL Φ es ρ g X fun ds g1 => ∃ ρ', setAll ρ is ds = some ρ' ∧ k.nx ρ' g1
  | .unpack is e, ρ, g, X, k => wpE Φ e ρ g X fun d g1 => ∃ ρ', bindT (.t is) d ρ = some ρ' ∧ k.nx ρ' g1
  | .freeze i, ρ, g, _, k => onOw ρ[i]? fun d => k.nx (setD ρ i d) g
  | .append i e, ρ, g, X, k => onOw ρ[i]? fun o => onList o fun xs => wpE Φ e ρ g X fun d g1 => xs.length < sizeLine ∧ k.nx (ρ.set i (.ow (.list (xs ++ [d])))) g1
  | .ifs c a b, ρ, g, X, k => wpE Φ c ρ g X (onBool fun t g1 => if t = true then wpSL a ρ g1 X k else wpSL b ρ g1 X k)
  | .for_ tg it b, ρ, g, X, k => wpI Φ it ρ g X fun ds g1 => loopF tg (fun ρ g k => wpSL b ρ g X k) ds ρ g1 k
  | .while_ c b, ρ, g, X, k => ∃ n, loopW (fun ρ g k => wpE Φ c ρ g X (onBool k)) (fun ρ g k => wpSL b ρ g X k) n ρ g k
  | .ret e, ρ, g, X, k => wpE Φ e ρ g X k.rt
  | .raise n, _, g, X, _ => X (.cls n) g
  | .brk, ρ, g, _, k => k.bk ρ g
  | .cont, ρ, g, _, k => k.ct ρ g
def wpSL : SL → Ev → Nat → XR → Kt → Prop
  | .nil, ρ, g, _, k => k.nx ρ g
  | .cons s r, ρ, g, X, k => wpS s ρ g X { k with nx := fun ρ g => wpSL r ρ g X k }
end
end

structure Def where
  name : Str
  ps : List Str
  N : List Str
  body : SL
def startE (d : Def) (svs : List SV) : Ev := svs ++ List.replicate (d.N.length - svs.length) .un
def Phi (tbl : List Def) : Nat → PhiT
  | 0 => fun _ _ _ _ _ => False
  | n + 1 => fun f svs g X Q => match tbl[f]? with
    | some d => svs.length = d.ps.length ∧ wpSL (Phi tbl n) d.body (startE d svs) g X ⟨fun _ g => Q .none g, Q, fun _ _ => False, fun _ _ => False⟩
    | none => False
end Dz
set_option Elab.async false
set_option linter.all false
set_option maxRecDepth 100000
/-! Dz: how data lies in the heap; what a step keeps. -/
namespace Dz
open PySem PySem.Spec PyProof.Rows L2
def keyD : Key → D
  | .inl i => .int i
  | .inr s => .str s
mutual
inductive Rp (K : PySem.W.Frag) (F : Hp) : V → D → Prop
  | non : Rp K F .non .none
  | bl (b : Bool) : Rp K F (.bl b) (.bool b)
  | int (i : Int) : Rp K F (.int i) (.int i)
  | str (x : Str) : Rp K F (.str x) (.str x)
  | lst {a : Addr} {xs : List V} {ds : List PyData} : SqL K F a xs → RpA K F xs ds → Rp K F (.ref a) (.list ds)
  | tup {a : Addr} {xs : List V} {ds : List PyData} : SqT K F a xs → RpA K F xs ds → Rp K F (.ref a) (.tuple ds)
  | dic {a : Addr} {kvs : List (Key × V)} {ds : List (PyData × PyData)} : F a = some (.dK kvs) → RpK K F kvs ds → Rp K F (.ref a) (.dict ds)
inductive RpA (K : PySem.W.Frag) (F : Hp) : List V → List PyData → Prop
  | nil : RpA K F [] []
  | cons {v : V} {vs : List V} {d : PyData} {ds : List PyData} : Rp K F v d → RpA K F vs ds → RpA K F (v :: vs) (d :: ds)
inductive RpK (K : PySem.W.Frag) (F : Hp) : List (Key × V) → List (PyData × PyData) → Prop
  | nil : RpK K F [] []
  | cons {k : Key} {v : V} {r : List (Key × V)} {e : PyData} {rs : List (PyData × PyData)} : Rp K F v e → RpK K F r rs → RpK K F ((k, v) :: r) ((keyD k, e) :: rs)
end
theorem Same.sqL {K : PySem.W.Frag} {H H' : Hp} {a : Addr} {xs : List V} (e : Same H H') (h : SqL K H a xs) : SqL K H' a xs := e.seq h
theorem Same.sqT {K : PySem.W.Frag} {H H' : Hp} {a : Addr} {xs : List V} (e : Same H H') (h : SqT K H a xs) : SqT K H' a xs := by
  rcases h with (h | ⟨o, h⟩) | h
  · exact .inl (.inl (e _ _ h))
  · exact .inl (.inr ⟨o, e _ _ h⟩)
  · exact .inr h
section
variable {K : PySem.W.Frag} {F F' : Hp}
mutual
theorem Rp.mono (s : Same F F') : ∀ (d : PyData) (v : V), Rp K F v d → Rp K F' v d
  | .none, _, h => by cases h; exact .non
  | .bool b, _, h => by cases h; exact .bl _
  | .int i, _, h => by cases h; exact .int _
  | .str x, _, h => by cases h; exact .str _
  | .list ds, _, h => by
    cases h with
    | lst h1 h2 => exact .lst (Same.sqL s h1) (RpA.mono s ds _ h2)
  | .tuple ds, _, h => by
    cases h with
    | tup h1 h2 => exact .tup (Same.sqT s h1) (RpA.mono s ds _ h2)
  | .dict ds, _, h => by
    cases h with
    | dic h1 h2 => exact .dic (s _ _ h1) (RpK.mono s ds _ h2)
theorem RpA.mono (s : Same F F') : ∀ (ds : List PyData) (vs : List V), RpA K F vs ds → RpA K F' vs ds
  | [], _, h => by cases h; exact .nil
  | d :: ds, _, h => by
    cases h with
    | cons h1 h2 => exact .cons (Rp.mono s d _ h1) (RpA.mono s ds _ h2)
theorem RpK.mono (s : Same F F') : ∀ (ds : List (PyData × PyData)) (vs : List (Key × V)), RpK K F vs ds → RpK K F' vs ds
  | [], _, h => by cases h; exact .nil
  | (k, d) :: ds, _, h => by
    cases h with
    | cons h1 h2 => exact .cons (Rp.mono s d _ h1) (RpK.mono s ds _ h2)
end
mutual
theorem Rp.dp : ∀ (d : PyData) (v : V), d.hasDict = false → Rp K F v d → Dp K F v d
  | .none, _, _, h => by cases h; exact .non
  | .bool b, _, _, h => by cases h; exact .bl _
  | .int i, _, _, h => by cases h; exact .int _
  | .str x, _, _, h => by cases h; exact .str _
  | .list ds, _, hd, h => by
    cases h with
    | lst h1 h2 => exact .lst h1 (RpA.dp ds _ (by simpa [PyData.hasDict] using hd) h2)
  | .tuple ds, _, hd, h => by
    cases h with
    | tup h1 h2 => exact .tup h1 (RpA.dp ds _ (by simpa [PyData.hasDict] using hd) h2)
  | .dict ds, _, hd, h => by simp [PyData.hasDict] at hd
theorem RpA.dp : ∀ (ds : List PyData) (vs : List V), PyData.hasDictAll ds = false → RpA K F vs ds → DpAll K F vs ds
  | [], _, _, h => by cases h; exact .nil
  | d :: ds, _, hd, h => by
    cases h with
    | cons h1 h2 =>
      have hd' : d.hasDict = false ∧ PyData.hasDictAll ds = false := by simpa [PyData.hasDictAll] using hd
      exact .cons (Rp.dp d _ hd'.1 h1) (RpA.dp ds _ hd'.2 h2)
end
theorem RpA.length : ∀ {vs : List V} {ds : List PyData}, RpA K F vs ds → vs.length = ds.length
  | _, [], h => by cases h; rfl
  | _, d :: ds, h => by
    cases h with
    | cons h1 h2 => rw [List.length_cons, List.length_cons, RpA.length h2]
theorem RpA.get : ∀ {ds : List PyData} {vs : List V} {i : Nat} {d : D}, RpA K F vs ds → ds[i]? = some d → ∃ v, vs[i]? = some v ∧ Rp K F v d
  | [], _, _, _, _, e => by simp at e
  | d :: ds, _, 0, _, h, e => by
    cases h with
    | cons h1 h2 => simp at e; subst e; exact ⟨_, rfl, h1⟩
  | d :: ds, _, i + 1, _, h, e => by
    cases h with
    | cons h1 h2 =>
      obtain ⟨v, e1, e2⟩ := RpA.get (i := i) h2 (by simpa using e)
      exact ⟨v, by simpa using e1, e2⟩
theorem RpA.get' : ∀ {ds : List PyData} {vs : List V} {i : Nat} {v : V}, RpA K F vs ds → vs[i]? = some v → ∃ d, ds[i]? = some d ∧ Rp K F v d
  | [], _, _, _, h, e => by cases h; simp at e
  | d :: ds, _, 0, _, h, e => by
    cases h with
    | cons h1 h2 => simp at e; subst e; exact ⟨_, rfl, h1⟩
  | d :: ds, _, i + 1, _, h, e => by
    cases h with
    | cons h1 h2 =>
      obtain ⟨v, e1, e2⟩ := RpA.get' (i := i) h2 (by simpa using e)
      exact ⟨v, by simpa using e1, e2⟩
theorem RpA.append : ∀ {xs ds : List PyData} {vs us : List V}, RpA K F vs xs → RpA K F us ds → RpA K F (vs ++ us) (xs ++ ds)
  | [], _, _, _, h, g => by cases h; exact g
  | d :: xs, _, _, _, h, g => by
    cases h with
    | cons h1 h2 => exact .cons h1 (RpA.append h2 g)
theorem RpA.take : ∀ {ds : List PyData} {vs : List V} (n : Nat), RpA K F vs ds → RpA K F (vs.take n) (ds.take n)
  | _, _, 0, _ => .nil
  | [], _, n + 1, h => by cases h; exact .nil
  | d :: ds, _, n + 1, h => by
    cases h with
    | cons h1 h2 => exact .cons h1 (RpA.take n h2)
theorem RpA.drop : ∀ {ds : List PyData} {vs : List V} (n : Nat), RpA K F vs ds → RpA K F (vs.drop n) (ds.drop n)
  | _, _, 0, h => h
  | [], _, n + 1, h => by cases h; exact .nil
  | d :: ds, _, n + 1, h => by
    cases h with
    | cons h1 h2 => exact RpA.drop n h2
theorem RpA.set {ds : List PyData} {vs : List V} {i : Nat} {d : D} {v : V} (h : RpA K F vs ds) (g : Rp K F v d) : RpA K F (vs.set i v) (ds.set i d) := by
  induction ds generalizing vs i with
  | nil => cases h; exact .nil
  | cons e ds ih =>
    cases h with
    | cons h1 h2 =>
      cases i with
      | zero => exact .cons g h2
      | succ i => exact .cons h1 (ih h2)
end

/-- a list or dict at a that is one's own: its items stand still -/
def OwnAt (K : PySem.W.Frag) (F H : Hp) (a : Addr) (d : D) : Prop :=
  F a = none ∧ ((∃ vs ds, d = .list ds ∧ H a = some (.lst vs) ∧ RpA K F vs ds) ∨ ∃ kvs ds, d = .dict ds ∧ H a = some (.dK kvs) ∧ RpK K F kvs ds)
theorem OwnAt.there {K : PySem.W.Frag} {F H : Hp} {a : Addr} {d : D} (h : OwnAt K F H a d) : ∃ o, H a = some o := by
  rcases h.2 with ⟨_, _, _, e, _⟩ | ⟨_, _, _, e, _⟩ <;> exact ⟨_, e⟩
/-- the state of draws at ast: a list of the stream's list and the counter; g more draws are allowed -/
def StOk (K : PySem.W.Frag) (F H : Hp) (ast : Option Addr) (g : Nat) : Prop :=
  match ast with
  | none => g = 0
  | some a => F a = none ∧ ∃ (b : Addr) (c x : Int) (xs : List Int), H a = some (.lst [.ref b, .int c]) ∧ Rp K F (.ref b) (.list (.int x :: xs.map PyData.int)) ∧ 0 ≤ c ∧ c + g ≤ 2 ^ 60 ∧ 0 < g ∧ xs.length < 16777216
/-- what an expression's evaluation keeps -/
structure Step (ast : Option Addr) (F H F' H' : Hp) : Prop where
  same : Same F F'
  pres : ∀ b o, H b = some o → ast ≠ some b → H' b = some o
  new : ∀ b, H b ≠ none → F b = none → ast ≠ some b → F' b = none
/-- nothing changed, new objects that stand still -/
structure Grow (F H F' H' : Hp) : Prop where
  same : Same F F'
  pres : Same H H'
  new : ∀ b, H b ≠ none → F b = none → F' b = none
theorem Step.refl (ast : Option Addr) (F H : Hp) : Step ast F H F H := ⟨Same.refl F, fun _ _ h _ => h, fun _ _ h _ => h⟩
theorem Step.trans {ast : Option Addr} {F H F1 H1 F2 H2 : Hp} (a : Step ast F H F1 H1) (b : Step ast F1 H1 F2 H2) : Step ast F H F2 H2 where
  same := a.same.trans b.same
  pres := fun c o h n => b.pres c o (a.pres c o h n) n
  new := fun c h f n => by
    cases e : H c with
    | none => exact absurd e h
    | some o => exact b.new c (by rw [a.pres c o e n]; exact fun z => nomatch z) (a.new c h f n) n
theorem Grow.refl (F H : Hp) : Grow F H F H := ⟨Same.refl F, Same.refl H, fun _ _ h => h⟩
theorem Grow.step {ast : Option Addr} {F H F' H' : Hp} (a : Grow F H F' H') : Step ast F H F' H' := ⟨a.same, fun b o h _ => a.pres b o h, fun b h f _ => a.new b h f⟩
theorem Grow.trans {F H F1 H1 F2 H2 : Hp} (a : Grow F H F1 H1) (b : Grow F1 H1 F2 H2) : Grow F H F2 H2 where
  same := a.same.trans b.same
  pres := a.pres.trans b.pres
  new := fun c h f => by
    cases e : H c with
    | none => exact absurd e h
    | some o => exact b.new c (by rw [a.pres c o e]; exact fun z => nomatch z) (a.new c h f)
theorem Grow.st {K : PySem.W.Frag} {ast : Option Addr} {F H F' H' : Hp} {g : Nat} (a : Grow F H F' H') (s : StOk K F H ast g) : StOk K F' H' ast g := by
  cases ast with
  | none => exact s
  | some x =>
    obtain ⟨f, b, c, y, ys, h1, h2, h3⟩ := s
    exact ⟨a.new x (by rw [h1]; exact fun z => nomatch z) f, b, c, y, ys, a.pres _ _ h1, Rp.mono a.same _ _ h2, h3⟩
theorem same_upd {H : Hp} {p : Addr} {o : HO} (h : H p = none) : Same H (upd H p o) := fun b x e => by
  rw [upd_ne (ne_of_none e h)]
  exact e
/-- a new object that stands still from now on -/
theorem Grow.laid {F H : Hp} {p : Addr} {o : HO} (s : Same F H) (h : H p = none) : Grow F H (upd F p o) (upd H p o) where
  same := same_upd (s.free h)
  pres := same_upd h
  new := fun b hb f => by
    have : b ≠ p := fun e => hb (by rw [e]; exact h)
    rw [upd_ne this]
    exact f
theorem Same.upd2 {F H : Hp} {p : Addr} {o : HO} (s : Same F H) : Same (upd F p o) (upd H p o) := fun b x e => by
  by_cases hb : b = p
  · rw [hb, upd_same] at e ⊢
    exact e
  · rw [upd_ne hb] at e ⊢
    exact s _ _ e
/-- a new object that is nobody's yet -/
theorem Grow.fresh {F H : Hp} {p : Addr} {o : HO} (s : Same F H) (h : H p = none) : Grow F H F (upd H p o) :=
  ⟨Same.refl F, same_upd h, fun _ _ f => f⟩
theorem Same.updR {F H : Hp} {p : Addr} {o : HO} (s : Same F H) (h : F p = none) : Same F (upd H p o) := fun b x e => by
  rw [upd_ne (ne_of_none e h)]
  exact s _ _ e
theorem OwnAt.step {K : PySem.W.Frag} {ast : Option Addr} {F H F' H' : Hp} {a : Addr} {d : D} (o : OwnAt K F H a d) (n : ast ≠ some a) (s : Step ast F H F' H') : OwnAt K F' H' a d := by
  obtain ⟨ob, e⟩ := o.there
  refine ⟨s.new a (by rw [e]; exact fun z => nomatch z) o.1 n, ?_⟩
  rcases o.2 with ⟨vs, ds, e1, e2, r⟩ | ⟨kvs, ds, e1, e2, r⟩
  · exact .inl ⟨vs, ds, e1, s.pres _ _ e2 n, RpA.mono s.same _ _ r⟩
  · exact .inr ⟨kvs, ds, e1, s.pres _ _ e2 n, RpK.mono s.same _ _ r⟩

/-! ### values -/
inductive Md | st | tp | fr
/-- st: data that stands still; tp: or a list, dict of one's own; fr: a new list, dict that is nobody's yet (H: the heap ahead) -/
def Val (K : PySem.W.Frag) (md : Md) (ast : Option Addr) (H F' H' : Hp) (v : V) (d : D) : Prop :=
  match md with
  | .st => Rp K F' v d
  | .tp => Rp K F' v d ∨ ∃ a, v = .ref a ∧ ast ≠ some a ∧ OwnAt K F' H' a d
  | .fr => ∃ a, v = .ref a ∧ H a = none ∧ ast ≠ some a ∧ OwnAt K F' H' a d
abbrev Top (K : PySem.W.Frag) (ast : Option Addr) (F H : Hp) (v : V) (d : D) : Prop := Rp K F v d ∨ ∃ a, v = .ref a ∧ ast ≠ some a ∧ OwnAt K F H a d
theorem Top.step {K : PySem.W.Frag} {ast : Option Addr} {F H F' H' : Hp} {v : V} {d : D} (t : Top K ast F H v d) (s : Step ast F H F' H') : Top K ast F' H' v d := by
  rcases t with t | ⟨a, e, n, o⟩
  · exact .inl (Rp.mono s.same _ _ t)
  · exact .inr ⟨a, e, n, o.step n s⟩
/-- what a list is to be read as -/
theorem Top.list {K : PySem.W.Frag} {ast : Option Addr} {F H : Hp} {v : V} {ds : List D} (s : Same F H) (t : Top K ast F H v (.list ds)) : ∃ a vs, v = .ref a ∧ SqL K H a vs ∧ RpA K F vs ds := by
  rcases t with t | ⟨a, e, n, o⟩
  · cases t with
    | lst h1 h2 => exact ⟨_, _, rfl, Same.sqL s h1, h2⟩
  · rcases o.2 with ⟨vs, ds', e1, e2, r⟩ | ⟨_, _, e1, _⟩
    · cases e1; exact ⟨a, vs, e, SqL.of e2, r⟩
    · cases e1
theorem Top.tuple {K : PySem.W.Frag} {ast : Option Addr} {F H : Hp} {v : V} {ds : List D} (s : Same F H) (t : Top K ast F H v (.tuple ds)) : ∃ a vs, v = .ref a ∧ SqT K H a vs ∧ RpA K F vs ds := by
  rcases t with t | ⟨a, e, n, o⟩
  · cases t with
    | tup h1 h2 => exact ⟨_, _, rfl, Same.sqT s h1, h2⟩
  · rcases o.2 with ⟨vs, ds', e1, e2, r⟩ | ⟨_, _, e1, _⟩ <;> cases e1
theorem Top.int {K : PySem.W.Frag} {ast : Option Addr} {F H : Hp} {v : V} {i : Int} (t : Top K ast F H v (.int i)) : v = .int i := by
  rcases t with t | ⟨a, e, n, o⟩
  · cases t; rfl
  · rcases o.2 with ⟨vs, ds', e1, e2, r⟩ | ⟨_, _, e1, _⟩ <;> cases e1
theorem Top.bool {K : PySem.W.Frag} {ast : Option Addr} {F H : Hp} {v : V} {i : Bool} (t : Top K ast F H v (.bool i)) : v = .bl i := by
  rcases t with t | ⟨a, e, n, o⟩
  · cases t; rfl
  · rcases o.2 with ⟨vs, ds', e1, e2, r⟩ | ⟨_, _, e1, _⟩ <;> cases e1
theorem Top.str {K : PySem.W.Frag} {ast : Option Addr} {F H : Hp} {v : V} {i : Str} (t : Top K ast F H v (.str i)) : v = .str i := by
  rcases t with t | ⟨a, e, n, o⟩
  · cases t; rfl
  · rcases o.2 with ⟨vs, ds', e1, e2, r⟩ | ⟨_, _, e1, _⟩ <;> cases e1
/-- all of it, as it lies now -/
theorem Top.rp {K : PySem.W.Frag} {ast : Option Addr} {F H : Hp} {v : V} {d : D} (s : Same F H) (t : Top K ast F H v d) : Rp K H v d := by
  rcases t with t | ⟨a, e, n, o⟩
  · exact Rp.mono s _ _ t
  · subst e
    rcases o.2 with ⟨vs, ds', e1, e2, r⟩ | ⟨kvs, ds, e1, e2, r⟩
    · subst e1; exact .lst (SqL.of e2) (RpA.mono s _ _ r)
    · subst e1; exact .dic e2 (RpK.mono s _ _ r)
theorem Rp.int_inv {K : PySem.W.Frag} {F : Hp} {v : V} {i : Int} (t : Rp K F v (.int i)) : v = .int i := by cases t; rfl

/-! ### the names -/
def SlotOk (K : PySem.W.Frag) (F H : Hp) (ast : Option Addr) (x : Option V) : SV → Prop
  | .un => True
  | .fz d => ∃ v, x = some v ∧ Rp K F v d
  | .ow d => ∃ a, x = some (.ref a) ∧ ast ≠ some a ∧ OwnAt K F H a d
  | .st => ∃ a, x = some (.ref a) ∧ ast = some a
structure SlOk (K : PySem.W.Frag) (F H : Hp) (ast : Option Addr) (σ : L2.St) (ρ : Ev) : Prop where
  len : σ.length = ρ.length
  at_ : ∀ (i : Nat) sv, ρ[i]? = some sv → ∃ x, σ[i]? = some x ∧ SlotOk K F H ast x sv
  apart : ∀ (i j : Nat) d e a, i ≠ j → ρ[i]? = some (.ow d) → ρ[j]? = some (.ow e) → σ[i]? = some (some (V.ref a)) → σ[j]? ≠ some (some (V.ref a))
theorem SlotOk.step {K : PySem.W.Frag} {ast : Option Addr} {F H F' H' : Hp} {x : Option V} {sv : SV} (o : SlotOk K F H ast x sv) (s : Step ast F H F' H') : SlotOk K F' H' ast x sv := by
  cases sv with
  | un => trivial
  | fz d => obtain ⟨v, e, r⟩ := o; exact ⟨v, e, Rp.mono s.same _ _ r⟩
  | ow d => obtain ⟨a, e, n, r⟩ := o; exact ⟨a, e, n, r.step n s⟩
  | st => exact o
theorem SlOk.step {K : PySem.W.Frag} {ast : Option Addr} {F H F' H' : Hp} {σ : L2.St} {ρ : Ev} (o : SlOk K F H ast σ ρ) (s : Step ast F H F' H') : SlOk K F' H' ast σ ρ :=
  ⟨o.len, fun i sv e => let ⟨x, e1, r⟩ := o.at_ i sv e; ⟨x, e1, r.step s⟩, o.apart⟩
/-- a state of a body -/
structure SRc (K : PySem.W.Frag) (F H : Hp) (ast : Option Addr) (σ : L2.St) (ρ : Ev) (g : Nat) : Prop where
  fh : Same F H
  st : StOk K F H ast g
  sl : SlOk K F H ast σ ρ
theorem SRc.step {K : PySem.W.Frag} {ast : Option Addr} {F H F' H' : Hp} {σ : L2.St} {ρ : Ev} {g g' : Nat} (o : SRc K F H ast σ ρ g) (s : Step ast F H F' H') (fh : Same F' H') (st : StOk K F' H' ast g') : SRc K F' H' ast σ ρ g' :=
  ⟨fh, st, o.sl.step s⟩

/-! ### what an expression is to reach -/
/-- how a raised thing's class is known -/
abbrev Wish := Ex → Value → Prop
structure Goal (K : PySem.W.Frag) (B : Wish) (W : WX) (md : Md) (ast : Option Addr) (F H : Hp) (σ : L2.St) (X : XR) (R : Rs) (Q : VK) : Prop where
  ok : ∀ v F' H' d g, Step ast F H F' H' → Same F' H' → StOk K F' H' ast g → Val K md ast H F' H' v d → R d g → Q v H'
  ex : ∀ x c F' H' g, Step ast F H F' H' → Same F' H' → StOk K F' H' ast g → X x g → B x c → W c none σ H'
def TDm (K : PySem.W.Frag) (B : Wish) (W : WX) (md : Md) (w : Ev → Nat → XR → Rs → Prop) : TE := fun σ H Q =>
  ∃ F ast ρ g X R, SRc K F H ast σ ρ g ∧ w ρ g X R ∧ Goal K B W md ast F H σ X R Q
theorem PE.imp {X : Cx} {e : Expr} {t t' : TE} (h : PE X e t) (i : ∀ σ H Q, t' σ H Q → t σ H Q) : PE X e t' := ⟨fun pins s σ H Q I q => h.run pins s σ H Q I (i σ H Q q)⟩
theorem PT.imp {X : Cx} {e : Expr} {t t' : TT} (h : PT X e t) (i : ∀ σ H Q, t' σ H Q → t σ H Q) : PT X e t' := ⟨fun pins s σ H Q I q => h.run pins s σ H Q I (i σ H Q q)⟩
theorem PA.imp {X : Cx} {e : List Expr} {t t' : TA} (h : PA X e t) (i : ∀ σ H Q, t' σ H Q → t σ H Q) : PA X e t' := ⟨fun pos pins s σ H Q I q => h.run pos pins s σ H Q I (i σ H Q q)⟩
theorem PSs.imp {X : Cx} {e : List Stmt} {t t' : TS} (h : PSs X e t) (i : ∀ D σ H, t' D σ H → t D σ H) : PSs X e t' := ⟨fun pins s σ H D I q => h.run pins s σ H D I (i D σ H q)⟩
theorem PS.imp {X : Cx} {e : Stmt} {t t' : TS} (h : PS X e t) (i : ∀ D σ H, t' D σ H → t D σ H) : PS X e t' := ⟨fun pins s σ H D I q => h.run pins s σ H D I (i D σ H q)⟩
end Dz
set_option Elab.async false
set_option linter.all false
set_option maxRecDepth 100000
/-! Dz: each construct's rule over data. -/
namespace Dz
open PySem PySem.Spec PyProof.Rows L2
section
variable {K : PySem.W.Frag} {B : Wish} {W : WX} {md md1 : Md} {ast : Option Addr} {F H F1 H1 : Hp} {σ : L2.St} {X : XR} {R R1 : Rs} {Q Q1 : VK} {ρ : Ev} {g g1 : Nat}
theorem Step.none_back (s : Step ast F H F1 H1) {a : Addr} (n : ast ≠ some a) (h : H1 a = none) : H a = none := by
  cases e : H a with
  | none => rfl
  | some o =>
    rw [s.pres a o e n] at h
    cases h
theorem Goal.later (G : Goal K B W md ast F H σ X R Q) (s : Step ast F H F1 H1) : Goal K B W md ast F1 H1 σ X R Q where
  ok := fun v F' H' d g s' fh st vv r => G.ok v F' H' d g (s.trans s') fh st (by
    cases md with
    | st => exact vv
    | tp => exact vv
    | fr =>
      obtain ⟨a, e, n, m, o⟩ := vv
      exact ⟨a, e, s.none_back m n, m, o⟩) r
  ex := fun x c F' H' g s' fh st q b => G.ex x c F' H' g (s.trans s') fh st q b
theorem Goal.sub (G : Goal K B W md ast F H σ X R Q) (ok : ∀ v F' H' d g, Step ast F H F' H' → Same F' H' → StOk K F' H' ast g → Val K md1 ast H F' H' v d → R1 d g → Q1 v H') : Goal K B W md1 ast F H σ X R1 Q1 := ⟨ok, G.ex⟩
/-- the state behind a step, and what is left of the goal -/
theorem Goal.go (G : Goal K B W md ast F H σ X R Q) (s : SRc K F H ast σ ρ g) {t : Md} {R1 : Rs} {Q1 : VK}
    (ok : ∀ v F' H' d g', Step ast F H F' H' → SRc K F' H' ast σ ρ g' → Goal K B W md ast F' H' σ X R Q → Val K t ast H F' H' v d → R1 d g' → Q1 v H') : Goal K B W t ast F H σ X R1 Q1 :=
  G.sub fun v F' H' d g' st fh so vv r => ok v F' H' d g' st (s.step st fh so) (G.later st) vv r
/-- an end that stands still, without a change -/
theorem Goal.here (G : Goal K B W .st ast F H σ X R Q) (s : SRc K F H ast σ ρ g) {v : V} {d : D} (r : Rp K F v d) (q : R d g) : Q v H := G.ok v F H d g (Step.refl _ _ _) s.fh s.st r q
theorem Goal.hereT (G : Goal K B W .tp ast F H σ X R Q) (s : SRc K F H ast σ ρ g) {v : V} {d : D} (r : Top K ast F H v d) (q : R d g) : Q v H := G.ok v F H d g (Step.refl _ _ _) s.fh s.st r q
/-- an end behind new objects -/
theorem Goal.grown (G : Goal K B W .st ast F H σ X R Q) (s : SRc K F H ast σ ρ g) {v : V} {d : D} {F' H' : Hp} (gr : Grow F H F' H') (fh : Same F' H') (r : Rp K F' v d) (q : R d g) : Q v H' := G.ok v F' H' d g gr.step fh (gr.st s.st) r q
end

/-- what is new and nobody's is said to stand still -/
theorem Goal.freeze {K : PySem.W.Frag} {B : Wish} {W : WX} {ast : Option Addr} {F H : Hp} {σ : L2.St} {X : XR} {R : Rs} {Q : VK} (G : Goal K B W .st ast F H σ X R Q) (fh : Same F H) : Goal K B W .fr ast F H σ X R Q where
  ok := fun v F' H' d g s fh' st vv r => by
    obtain ⟨a, e, n, m, o⟩ := vv
    subst e
    obtain ⟨ob, eo⟩ := o.there
    have fa : F' a = none := o.1
    have nF : F a = none := fh.free n
    have sF : Same F' (upd F' a ob) := same_upd fa
    refine G.ok _ (upd F' a ob) H' d g ⟨s.same.trans sF, s.pres, fun b hb f nb => ?_⟩ (fun b o' e' => ?_) ?_ ?_ r
    · have hba : b ≠ a := fun z => hb (by rw [z]; exact n)
      rw [upd_ne hba]
      exact s.new b hb f nb
    · by_cases hb : b = a
      · subst hb
        rw [upd_same] at e'
        cases e'
        exact eo
      · rw [upd_ne hb] at e'
        exact fh' _ _ e'
    · cases ast with
      | none => exact st
      | some x =>
        obtain ⟨f, b, c, y, ys, h1, h2, h3⟩ := st
        have hx : x ≠ a := fun z => m (by rw [z])
        exact ⟨by rw [upd_ne hx]; exact f, b, c, y, ys, h1, Rp.mono sF _ _ h2, h3⟩
    · rcases o.2 with ⟨vs, ds, e1, e2, rr⟩ | ⟨kvs, ds, e1, e2, rr⟩
      · subst e1
        rw [eo] at e2
        cases e2
        exact Rp.lst (SqL.of upd_same) (RpA.mono sF _ _ rr)
      · subst e1
        rw [eo] at e2
        cases e2
        exact Rp.dic upd_same (RpK.mono sF _ _ rr)
  ex := G.ex
theorem Val.top {K : PySem.W.Frag} {ast : Option Addr} {H F' H' : Hp} {v : V} {d : D} (h : Rp K F' v d) : Val K .tp ast H F' H' v d := .inl h
theorem Goal.weak {K : PySem.W.Frag} {B : Wish} {W : WX} {ast : Option Addr} {F H : Hp} {σ : L2.St} {X : XR} {R : Rs} {Q : VK} (G : Goal K B W .tp ast F H σ X R Q) : Goal K B W .st ast F H σ X R Q :=
  ⟨fun v F' H' d g s fh st vv r => G.ok v F' H' d g s fh st (.inl vv) r, G.ex⟩
section
variable {X : Cx} {B : Wish} {W : WX} {e a b c : Expr} {w wa wb wc : Ev → Nat → XR → Rs → Prop} {pos : Pos}
theorem PE.tp (h : PE X e (TDm X.K B W .st w)) : PE X e (TDm X.K B W .tp w) :=
  PE.imp h fun σ H Q ⟨F, ast, ρ, g, XX, R, s, q, G⟩ => ⟨F, ast, ρ, g, XX, R, s, q, G.weak⟩
theorem PE.thaw (h : PE X e (TDm X.K B W .fr w)) : PE X e (TDm X.K B W .st w) :=
  PE.imp h fun σ H Q ⟨F, ast, ρ, g, XX, R, s, q, G⟩ => ⟨F, ast, ρ, g, XX, R, s, q, G.freeze s.fh⟩

/-! ### names, constants -/
theorem snd_var {i : Nat} {x : Str} (hN : X.N[i]? = some x) (hv : Vis X.env.scope x) (hd : (x == ("__debug__" : Str)) = false) (hcd : (x == ("__classdict__" : Str)) = false) :
    PE X (.Name x pos) (TDm X.K B W .st (fun ρ g _ Q => onFz ρ[i]? fun d => Q d g)) :=
  PE.imp (pe_var hN hv hd hcd) fun σ H Q ⟨F, ast, ρ, g, XX, R, s, q, G⟩ => by
    dsimp only at q
    cases hi : ρ[i]? with
    | none => rw [hi] at q; exact False.elim q
    | some sv =>
      rw [hi] at q
      cases sv with
      | fz d =>
        obtain ⟨y, e, v, ev, r⟩ := s.sl.at_ i _ hi
        subst ev
        exact ⟨v, e, G.here s r q⟩
      | _ => exact False.elim q
theorem snd_own {i : Nat} {x : Str} (hN : X.N[i]? = some x) (hv : Vis X.env.scope x) (hd : (x == ("__debug__" : Str)) = false) (hcd : (x == ("__classdict__" : Str)) = false) :
    PE X (.Name x pos) (TDm X.K B W .tp (fun ρ g _ Q => onOw ρ[i]? fun d => Q d g)) :=
  PE.imp (pe_var hN hv hd hcd) fun σ H Q ⟨F, ast, ρ, g, XX, R, s, q, G⟩ => by
    dsimp only at q
    cases hi : ρ[i]? with
    | none => rw [hi] at q; exact False.elim q
    | some sv =>
      rw [hi] at q
      cases sv with
      | ow d =>
        obtain ⟨y, e, a, ev, n, o⟩ := s.sl.at_ i _ hi
        subst ev
        exact ⟨.ref a, e, G.hereT s (.inr ⟨a, rfl, n, o⟩) q⟩
      | _ => exact False.elim q
theorem snd_int {i : Int} {j} : PE X (.Constant (.int i) j pos) (TDm X.K B W .st (fun _ g _ Q => Q (.int i) g)) := PE.imp pe_int fun σ H Q ⟨F, ast, ρ, g, XX, R, s, q, G⟩ => G.here s (.int i) q
theorem snd_bl {i : Bool} {j} : PE X (.Constant (.bool i) j pos) (TDm X.K B W .st (fun _ g _ Q => Q (.bool i) g)) := PE.imp pe_bl fun σ H Q ⟨F, ast, ρ, g, XX, R, s, q, G⟩ => G.here s (.bl i) q
theorem snd_non {j} : PE X (.Constant .none j pos) (TDm X.K B W .st (fun _ g _ Q => Q .none g)) := PE.imp pe_non fun σ H Q ⟨F, ast, ρ, g, XX, R, s, q, G⟩ => G.here s .non q
theorem snd_str {i : Str} {j} : PE X (.Constant (.str i) j pos) (TDm X.K B W .st (fun _ g _ Q => Q (.str i) g)) := PE.imp pe_str fun σ H Q ⟨F, ast, ρ, g, XX, R, s, q, G⟩ => G.here s (.str i) q

/-! ### operators -/
/-- an operation on data, by values -/
def rD (K : PySem.W.Frag) (f : D → D → (D → Prop) → Prop) : R2 := fun x y H Q => ∃ F ast d e P, Same F H ∧ Top K ast F H x d ∧ Top K ast F H y e ∧ f d e P ∧ ∀ v F' H' z, Grow F H F' H' → Same F' H' → Rp K F' v z → P z → Q v H'
theorem tOp_ok {f : D → D → (D → Prop) → Prop} (σ : L2.St) (H : Hp) (Q : VK) (h : TDm X.K B W .st (fun ρ g XX R => wa ρ g XX fun x g1 => wb ρ g1 XX fun y g2 => f x y fun z => R z g2) σ H Q) :
    tOp (rD X.K f) (TDm X.K B W .tp wa) (TDm X.K B W .tp wb) σ H Q := by
  obtain ⟨F, ast, ρ, g, XX, R, s, q, G⟩ := h
  refine ⟨F, ast, ρ, g, XX, _, s, q, G.go s (t := .tp) fun v F1 H1 x g1 s1 c1 G1 vv q1 => ?_⟩
  refine ⟨F1, ast, ρ, g1, XX, _, c1, q1, G1.go c1 (t := .tp) fun u F2 H2 y g2 s2 c2 G2 uu q2 => ?_⟩
  exact ⟨F2, ast, x, y, _, c2.fh, Top.step vv s2, uu, q2, fun v' F' H' z gr fh' r p => G2.grown c2 gr fh' r p⟩
theorem snd_op {op : Operator} {f : D → D → (D → Prop) → Prop} (ho : OpR X (binaryOp op) (rD X.K f)) (ha : PE X a (TDm X.K B W .tp wa)) (hb : PE X b (TDm X.K B W .tp wb)) :
    PE X (.BinOp a op b pos) (TDm X.K B W .st (fun ρ g XX R => wa ρ g XX fun x g1 => wb ρ g1 XX fun y g2 => f x y fun z => R z g2)) := PE.imp (pe_op ho ha hb) tOp_ok
theorem snd_cmp {op : CmpOp} {f : D → D → (D → Prop) → Prop} (ho : OpR X (compareOp op) (rD X.K f)) (ha : PE X a (TDm X.K B W .tp wa)) (hb : PE X b (TDm X.K B W .tp wb)) (hm : behindInMarks op b = false) :
    PE X (.Compare a [op] [b] pos) (TDm X.K B W .st (fun ρ g XX R => wa ρ g XX fun x g1 => wb ρ g1 XX fun y g2 => f x y fun z => R z g2)) := PE.imp (pe_cmpR ho ha hb hm) tOp_ok
/-- the end of an operation that makes nothing -/
theorem endI {K : PySem.W.Frag} {F H : Hp} {P : D → Prop} {Q : VK} {v : V} {z : D} (fh : Same F H) (k : ∀ v F' H' z, Grow F H F' H' → Same F' H' → Rp K F' v z → P z → Q v H') (r : Rp K F v z) (p : P z) : Q v H := k v F H z (Grow.refl F H) fh r p
theorem or_add : OpR X (binaryOp .Add) (rD X.K (binD .add)) := by
  intro pins s σ H x y v u Q I rx ry h
  obtain ⟨F, ast, d, e, P, fh, tx, ty, f, k⟩ := h
  cases d <;> cases e <;> first | exact False.elim f | skip
  · cases tx.int; cases ty.int
    exact op_add pins s σ H _ _ v u Q I rx ry ⟨_, _, rfl, rfl, endI fh k (.int _) f⟩
  · cases tx.str; cases ty.str
    exact op_add_str pins s σ H _ _ v u Q I rx ry ⟨_, _, rfl, rfl, f.1, endI fh k (.str _) f.2⟩
theorem or_sub : OpR X (binaryOp .Sub) (rD X.K (binD .sub)) := by
  intro pins s σ H x y v u Q I rx ry h
  obtain ⟨F, ast, d, e, P, fh, tx, ty, f, k⟩ := h
  cases d <;> cases e <;> first | exact False.elim f | skip
  cases tx.int; cases ty.int
  exact op_sub pins s σ H _ _ v u Q I rx ry ⟨_, _, rfl, rfl, endI fh k (.int _) f⟩
theorem mulOk.ok {i j : Int} (h : mulOk i j) : IntMulOk i j := by
  rcases h with h | h | h
  · exact CMul.ok (.inl h)
  · exact CMul.ok (.inr h)
  · exact CMulW.ok h
theorem op_mulD : OpR X (binaryOp .Mult) (rI mulOk fun i j => .int (i * j)) := opI fun _ _ _ _ _ _ _ hc q => mul_int q (mulOk.ok hc)
theorem op_fdivD : OpR X (binaryOp .FloorDiv) (rI (fun _ j => j ≠ 0 ∧ j.natAbs.log2 < 9000) fun i j => .int (i.fdiv j)) := opI fun i j _ _ _ _ _ hc q => floordiv_int hc.1 q (.inl (PyProof.noPylong_of_log2 hc.2))
theorem or_mul : OpR X (binaryOp .Mult) (rD X.K (binD .mul)) := by
  intro pins s σ H x y v u Q I rx ry h
  obtain ⟨F, ast, d, e, P, fh, tx, ty, f, k⟩ := h
  cases d <;> cases e <;> first | exact False.elim f | skip
  cases tx.int; cases ty.int
  exact op_mulD pins s σ H _ _ v u Q I rx ry ⟨_, _, rfl, rfl, f.1, endI fh k (.int _) f.2⟩
theorem or_fdiv : OpR X (binaryOp .FloorDiv) (rD X.K (binD .fdiv)) := by
  intro pins s σ H x y v u Q I rx ry h
  obtain ⟨F, ast, d, e, P, fh, tx, ty, f, k⟩ := h
  cases d <;> cases e <;> first | exact False.elim f | skip
  cases tx.int; cases ty.int
  exact op_fdivD pins s σ H _ _ v u Q I rx ry ⟨_, _, rfl, rfl, f.1, endI fh k (.int _) f.2⟩
theorem or_mod : OpR X (binaryOp .Mod) (rD X.K (binD .mod)) := by
  intro pins s σ H x y v u Q I rx ry h
  obtain ⟨F, ast, d, e, P, fh, tx, ty, f, k⟩ := h
  cases d <;> cases e <;> first | exact False.elim f | skip
  cases tx.int; cases ty.int
  exact op_modN pins s σ H _ _ v u Q I rx ry ⟨_, _, rfl, rfl, f.1, endI fh k (.int _) f.2⟩
theorem or_pow : OpR X (binaryOp .Pow) (rD X.K (binD .pow)) := by
  intro pins s σ H x y v u Q I rx ry h
  obtain ⟨F, ast, d, e, P, fh, tx, ty, f, k⟩ := h
  cases d <;> cases e <;> first | exact False.elim f | skip
  cases tx.int; cases ty.int
  exact op_pow pins s σ H _ _ v u Q I rx ry ⟨_, _, rfl, rfl, f.1, endI fh k (.int _) f.2⟩
theorem snd_neg (ha : PE X a (TDm X.K B W .tp wa)) : PE X (.UnaryOp .USub a pos) (TDm X.K B W .st (fun ρ g XX R => wa ρ g XX fun x g1 => onInt x fun i => R (.int (-i)) g1)) :=
  PE.imp (pe_un un_neg ha) fun σ H Q ⟨F, ast, ρ, g, XX, R, s, q, G⟩ => ⟨F, ast, ρ, g, XX, _, s, q, G.go s (t := .tp) fun v F1 H1 x g1 s1 c1 G1 vv q1 => by
    cases x <;> first | exact False.elim q1 | skip
    cases Top.int vv
    exact ⟨_, rfl, G1.here c1 (.int _) q1⟩⟩
/-! ### comparisons -/
theorem eq_dat (hu : X.A.units + 64 < cLine) {pins : List (Addr × Obj)} {s : Shared} {σ : L2.St} {H F : Hp} {ast : Option Addr} {x y : V} {v u : Value} {Q : VK} {d e : D} (I : Inv X pins σ H s) (rx : RelV x v) (ry : RelV y u) (fh : Same F H) (tx : Top X.K ast F H x d) (ty : Top X.K ast F H y e)
    (sd : SeqAt.shaped d = true) (se : SeqAt.shaped e = true) (q : Q (.bl (PyData.eqv d e)) H) : wpAny (model X.prog X.w) X.A (compareOp .Eq v u) (EP X pins σ Q) X.xe s :=
  op_eqD hu pins s σ H x y v u Q I rx ry ⟨d, e, Rp.dp d _ (PyData.hasDict_of_canLay _ (SeqAt.canLay_of_shaped sd)) (tx.rp fh), Rp.dp e _ (PyData.hasDict_of_canLay _ (SeqAt.canLay_of_shaped se)) (ty.rp fh), sd, se, q⟩
theorem ne_dat (hu : X.A.units + 64 < cLine) {pins : List (Addr × Obj)} {s : Shared} {σ : L2.St} {H F : Hp} {ast : Option Addr} {x y : V} {v u : Value} {Q : VK} {d e : D} (I : Inv X pins σ H s) (rx : RelV x v) (ry : RelV y u) (fh : Same F H) (tx : Top X.K ast F H x d) (ty : Top X.K ast F H y e)
    (sd : SeqAt.shaped d = true) (se : SeqAt.shaped e = true) (q : Q (.bl (!PyData.eqv d e)) H) : wpAny (model X.prog X.w) X.A (compareOp .NotEq v u) (EP X pins σ Q) X.xe s :=
  op_neD hu pins s σ H x y v u Q I rx ry ⟨d, e, Rp.dp d _ (PyData.hasDict_of_canLay _ (SeqAt.canLay_of_shaped sd)) (tx.rp fh), Rp.dp e _ (PyData.hasDict_of_canLay _ (SeqAt.canLay_of_shaped se)) (ty.rp fh), sd, se, q⟩
theorem or_eq (hu : X.A.units + 64 < cLine) : OpR X (compareOp .Eq) (rD X.K (cmpD .eq)) := by
  intro pins s σ H x y v u Q I rx ry h
  obtain ⟨F, ast, d, e, P, fh, tx, ty, f, k⟩ := h
  have gen : ((SeqAt.shaped d = true ∧ SeqAt.shaped e = true) ∧ P (.bool (PyData.eqv d e))) → wpAny (model X.prog X.w) X.A (compareOp .Eq v u) (EP X pins σ Q) X.xe s :=
    fun f => eq_dat hu I rx ry fh tx ty f.1.1 f.1.2 (endI fh k (.bl _) f.2)
  cases d <;> cases e <;> first | exact gen f | skip
  · cases tx.int; cases ty.int
    refine op_eq pins s σ H _ _ v u Q I rx ry ⟨rfl, ?_⟩
    rw [dec_int, Bool.beq_eq_decide_eq]
    exact endI fh k (.bl _) f
  · cases tx.str; cases ty.str
    refine op_eq pins s σ H _ _ v u Q I rx ry ⟨rfl, ?_⟩
    rw [dec_str, Bool.beq_eq_decide_eq]
    exact endI fh k (.bl _) f
theorem or_ne (hu : X.A.units + 64 < cLine) : OpR X (compareOp .NotEq) (rD X.K (cmpD .ne)) := by
  intro pins s σ H x y v u Q I rx ry h
  obtain ⟨F, ast, d, e, P, fh, tx, ty, f, k⟩ := h
  have gen : ((SeqAt.shaped d = true ∧ SeqAt.shaped e = true) ∧ P (.bool (!PyData.eqv d e))) → wpAny (model X.prog X.w) X.A (compareOp .NotEq v u) (EP X pins σ Q) X.xe s :=
    fun f => ne_dat hu I rx ry fh tx ty f.1.1 f.1.2 (endI fh k (.bl _) f.2)
  cases d <;> cases e <;> first | exact gen f | skip
  · cases tx.int; cases ty.int
    refine op_ne pins s σ H _ _ v u Q I rx ry ⟨rfl, ?_⟩
    rw [dec_int, Bool.beq_eq_decide_eq]
    exact endI fh k (.bl _) f
  · cases tx.str; cases ty.str
    refine op_ne pins s σ H _ _ v u Q I rx ry ⟨rfl, ?_⟩
    rw [dec_str, Bool.beq_eq_decide_eq]
    exact endI fh k (.bl _) f
theorem or_lt : OpR X (compareOp .Lt) (rD X.K (cmpD .lt)) := by
  intro pins s σ H x y v u Q I rx ry h
  obtain ⟨F, ast, d, e, P, fh, tx, ty, f, k⟩ := h
  cases d <;> cases e <;> first | exact False.elim f | skip
  cases tx.int; cases ty.int
  exact op_lt pins s σ H _ _ v u Q I rx ry ⟨_, _, rfl, rfl, endI fh k (.bl _) f⟩
theorem or_le : OpR X (compareOp .LtE) (rD X.K (cmpD .le)) := by
  intro pins s σ H x y v u Q I rx ry h
  obtain ⟨F, ast, d, e, P, fh, tx, ty, f, k⟩ := h
  cases d <;> cases e <;> first | exact False.elim f | skip
  cases tx.int; cases ty.int
  exact op_le pins s σ H _ _ v u Q I rx ry ⟨_, _, rfl, rfl, endI fh k (.bl _) f⟩
theorem or_gt : OpR X (compareOp .Gt) (rD X.K (cmpD .gt)) := by
  intro pins s σ H x y v u Q I rx ry h
  obtain ⟨F, ast, d, e, P, fh, tx, ty, f, k⟩ := h
  cases d <;> cases e <;> first | exact False.elim f | skip
  cases tx.int; cases ty.int
  exact op_gt pins s σ H _ _ v u Q I rx ry ⟨_, _, rfl, rfl, endI fh k (.bl _) f⟩
theorem or_ge : OpR X (compareOp .GtE) (rD X.K (cmpD .ge)) := by
  intro pins s σ H x y v u Q I rx ry h
  obtain ⟨F, ast, d, e, P, fh, tx, ty, f, k⟩ := h
  cases d <;> cases e <;> first | exact False.elim f | skip
  cases tx.int; cases ty.int
  exact op_ge pins s σ H _ _ v u Q I rx ry ⟨_, _, rfl, rfl, endI fh k (.bl _) f⟩
end
end Dz
set_option Elab.async false
set_option linter.all false
set_option maxRecDepth 100000
/-! Dz: tests, and, or, displays, subscripts, slices, calls of built-ins. -/
namespace Dz
open PySem PySem.Spec PyProof.Rows L2
/-! ### tests -/
structure GoalB (K : PySem.W.Frag) (B : Wish) (W : WX) (ast : Option Addr) (F H : Hp) (σ : L2.St) (X : XR) (R : Bool → Nat → Prop) (Q : Bool → Hp → Prop) : Prop where
  ok : ∀ b F' H' g, Step ast F H F' H' → Same F' H' → StOk K F' H' ast g → R b g → Q b H'
  ex : ∀ x c F' H' g, Step ast F H F' H' → Same F' H' → StOk K F' H' ast g → X x g → B x c → W c none σ H'
def TTm (K : PySem.W.Frag) (B : Wish) (W : WX) (w : Ev → Nat → XR → (Bool → Nat → Prop) → Prop) : TT := fun σ H Q =>
  ∃ F ast ρ g X R, SRc K F H ast σ ρ g ∧ w ρ g X R ∧ GoalB K B W ast F H σ X R Q
theorem GoalB.later {K : PySem.W.Frag} {B : Wish} {W : WX} {ast : Option Addr} {F H F1 H1 : Hp} {σ : L2.St} {X : XR} {R : Bool → Nat → Prop} {Q : Bool → Hp → Prop} (G : GoalB K B W ast F H σ X R Q) (s : Step ast F H F1 H1) : GoalB K B W ast F1 H1 σ X R Q :=
  ⟨fun v F' H' g s' fh st r => G.ok v F' H' g (s.trans s') fh st r, fun x c F' H' g s' fh st q b => G.ex x c F' H' g (s.trans s') fh st q b⟩
theorem GoalB.go {K : PySem.W.Frag} {B : Wish} {W : WX} {ast : Option Addr} {F H : Hp} {σ : L2.St} {X : XR} {R : Bool → Nat → Prop} {Q : Bool → Hp → Prop} {ρ : Ev} {g : Nat} (G : GoalB K B W ast F H σ X R Q) (s : SRc K F H ast σ ρ g) {t : Md} {R1 : Rs} {Q1 : VK}
    (ok : ∀ v F' H' d g', Step ast F H F' H' → SRc K F' H' ast σ ρ g' → GoalB K B W ast F' H' σ X R Q → Val K t ast H F' H' v d → R1 d g' → Q1 v H') : Goal K B W t ast F H σ X R1 Q1 :=
  ⟨fun v F' H' d g' st fh so vv r => ok v F' H' d g' st (s.step st fh so) (G.later st) vv r, G.ex⟩
theorem GoalB.goB {K : PySem.W.Frag} {B : Wish} {W : WX} {ast : Option Addr} {F H : Hp} {σ : L2.St} {X : XR} {R : Bool → Nat → Prop} {Q : Bool → Hp → Prop} {ρ : Ev} {g : Nat} (G : GoalB K B W ast F H σ X R Q) (s : SRc K F H ast σ ρ g) {R1 : Bool → Nat → Prop} {Q1 : Bool → Hp → Prop}
    (ok : ∀ v F' H' g', Step ast F H F' H' → SRc K F' H' ast σ ρ g' → GoalB K B W ast F' H' σ X R Q → R1 v g' → Q1 v H') : GoalB K B W ast F H σ X R1 Q1 :=
  ⟨fun v F' H' g' st fh so r => ok v F' H' g' st (s.step st fh so) (G.later st) r, G.ex⟩
theorem Goal.goB {K : PySem.W.Frag} {B : Wish} {W : WX} {ast : Option Addr} {F H : Hp} {σ : L2.St} {X : XR} {md : Md} {R : Rs} {Q : VK} {ρ : Ev} {g : Nat} (G : Goal K B W md ast F H σ X R Q) (s : SRc K F H ast σ ρ g) {R1 : Bool → Nat → Prop} {Q1 : Bool → Hp → Prop}
    (ok : ∀ v F' H' g', Step ast F H F' H' → SRc K F' H' ast σ ρ g' → Goal K B W md ast F' H' σ X R Q → R1 v g' → Q1 v H') : GoalB K B W ast F H σ X R1 Q1 :=
  ⟨fun v F' H' g' st fh so r => ok v F' H' g' st (s.step st fh so) (G.later st) r, G.ex⟩
theorem GoalB.here {K : PySem.W.Frag} {B : Wish} {W : WX} {ast : Option Addr} {F H : Hp} {σ : L2.St} {X : XR} {R : Bool → Nat → Prop} {Q : Bool → Hp → Prop} {ρ : Ev} {g : Nat} (G : GoalB K B W ast F H σ X R Q) (s : SRc K F H ast σ ρ g) {b : Bool} (q : R b g) : Q b H := G.ok b F H g (Step.refl _ _ _) s.fh s.st q
/-- a bool's own value -/
theorem onBool_some {k : Bool → Nat → Prop} {d : D} {g : Nat} (h : onBool k d g) : ∃ b, d = .bool b ∧ k b g := by
  cases d <;> first | exact False.elim h | exact ⟨_, rfl, h⟩
abbrev tst (w : Ev → Nat → XR → Rs → Prop) : Ev → Nat → XR → (Bool → Nat → Prop) → Prop := fun ρ g XX R => w ρ g XX (onBool R)
section
variable {X : Cx} {B : Wish} {W : WX} {e a b c : Expr} {w wa wb wc : Ev → Nat → XR → Rs → Prop} {pos : Pos}
theorem sndT_val (h : PE X e (TDm X.K B W .tp w)) (he : ∀ whole, isTrue e X.env whole = (do let v ← whole; standAt e.pos; holding [v] (truthy v))) : PT X e (TTm X.K B W (tst w)) :=
  PT.imp (pt_val h he) fun σ H Q ⟨F, ast, ρ, g, XX, R, s, q, G⟩ => ⟨F, ast, ρ, g, XX, _, s, q, G.go s (t := .tp) fun v F1 H1 d g1 s1 c1 G1 vv q1 => by
    obtain ⟨b, rfl, q1⟩ := onBool_some q1
    cases Top.bool vv
    exact ⟨b, rfl, G1.here c1 q1⟩⟩
theorem sndT_cmp {op : CmpOp} {f : D → D → (D → Prop) → Prop} (ho : OpR X (compareOp op) (rD X.K f)) (ha : PE X a (TDm X.K B W .tp wa)) (hb : PE X b (TDm X.K B W .tp wb)) (hm : behindInMarks op b = false) :
    PT X (.Compare a [op] [b] pos) (TTm X.K B W (fun ρ g XX R => wa ρ g XX fun x g1 => wb ρ g1 XX fun y g2 => f x y fun z => onBool R z g2)) :=
  PT.imp (pt_cmpR ho ha hb hm) fun σ H Q ⟨F, ast, ρ, g, XX, R, s, q, G⟩ => by
    refine ⟨F, ast, ρ, g, XX, _, s, q, G.go s (t := .tp) fun v F1 H1 x g1 s1 c1 G1 vv q1 => ?_⟩
    refine ⟨F1, ast, ρ, g1, XX, _, c1, q1, G1.go c1 (t := .tp) fun u F2 H2 y g2 s2 c2 G2 uu q2 => ?_⟩
    refine ⟨F2, ast, x, y, _, c2.fh, Top.step vv s2, uu, q2, fun v' F' H' z gr fh' r p => ?_⟩
    obtain ⟨b, rfl, p⟩ := onBool_some p
    cases r
    exact ⟨b, rfl, G2.ok b F' H' g2 gr.step fh' (gr.st c2.st) p⟩
theorem sndT_not (h : PT X a (TTm X.K B W (tst wa))) : PT X (.UnaryOp .Not a pos) (TTm X.K B W (fun ρ g XX R => wa ρ g XX (onBool fun t g1 => R (!t) g1))) :=
  PT.imp (pt_not h) fun σ H Q ⟨F, ast, ρ, g, XX, R, s, q, G⟩ => ⟨F, ast, ρ, g, XX, _, s, q, G.goB s fun v F' H' g' s1 c1 G1 q1 => G1.here c1 q1⟩
theorem sndW_and {b : Expr} {rest : List Expr} (ha : PT X a (TTm X.K B W (tst wa))) (hb : PW X (.BoolOp .And (b :: rest) pos) (TTm X.K B W (tst wb))) :
    PW X (.BoolOp .And (a :: b :: rest) pos) (TTm X.K B W (fun ρ g XX R => wa ρ g XX (onBool fun t g1 => if t = true then wb ρ g1 XX (onBool R) else R false g1))) := by
  refine ⟨fun whole pins s σ H Q I h => (pw_and ha hb).run whole pins s σ H Q I ?_⟩
  obtain ⟨F, ast, ρ, g, XX, R, s, q, G⟩ := h
  refine ⟨F, ast, ρ, g, XX, _, s, q, G.goB s fun v F' H' g' s1 c1 G1 q1 => ?_⟩
  cases v with
  | true => exact ⟨F', ast, ρ, g', XX, _, c1, q1, G1⟩
  | false => exact G1.here c1 q1
theorem sndW_or {b : Expr} {rest : List Expr} (ha : PT X a (TTm X.K B W (tst wa))) (hb : PW X (.BoolOp .Or (b :: rest) pos) (TTm X.K B W (tst wb))) :
    PW X (.BoolOp .Or (a :: b :: rest) pos) (TTm X.K B W (fun ρ g XX R => wa ρ g XX (onBool fun t g1 => if t = true then R true g1 else wb ρ g1 XX (onBool R)))) := by
  refine ⟨fun whole pins s σ H Q I h => (pw_or ha hb).run whole pins s σ H Q I ?_⟩
  obtain ⟨F, ast, ρ, g, XX, R, s, q, G⟩ := h
  refine ⟨F, ast, ρ, g, XX, _, s, q, G.goB s fun v F' H' g' s1 c1 G1 q1 => ?_⟩
  cases v with
  | false => exact ⟨F', ast, ρ, g', XX, _, c1, q1, G1⟩
  | true => exact G1.here c1 q1
/-! ### and, or, not, if as values -/
theorem snd_not (ha : PE X a (TDm X.K B W .tp wa)) : PE X (.UnaryOp .Not a pos) (TDm X.K B W .st (fun ρ g XX R => wa ρ g XX (onBool fun t g1 => R (.bool (!t)) g1))) :=
  PE.imp (pe_not ha) fun σ H Q ⟨F, ast, ρ, g, XX, R, s, q, G⟩ => ⟨F, ast, ρ, g, XX, _, s, q, G.go s (t := .tp) fun v F1 H1 x g1 s1 c1 G1 vv q1 => by
    obtain ⟨b, rfl, q1⟩ := onBool_some q1
    cases Top.bool vv
    exact ⟨b, rfl, G1.here c1 (.bl _) q1⟩⟩
theorem snd_and {b : Expr} {rest : List Expr} (ha : PE X a (TDm X.K B W .tp wa)) (hb : PE X (.BoolOp .And (b :: rest) pos) (TDm X.K B W .tp wb)) :
    PE X (.BoolOp .And (a :: b :: rest) pos) (TDm X.K B W .st (fun ρ g XX R => wa ρ g XX (onBool fun t g1 => if t = true then wb ρ g1 XX (onBool fun t g2 => R (.bool t) g2) else R (.bool false) g1))) :=
  PE.imp (pe_and ha hb) fun σ H Q ⟨F, ast, ρ, g, XX, R, s, q, G⟩ => ⟨F, ast, ρ, g, XX, _, s, q, G.go s (t := .tp) fun v F1 H1 x g1 s1 c1 G1 vv q1 => by
    obtain ⟨t, rfl, q1⟩ := onBool_some q1
    cases Top.bool vv
    refine ⟨t, rfl, ?_⟩
    cases t with
    | false => exact G1.here c1 (.bl _) q1
    | true => exact ⟨F1, ast, ρ, g1, XX, _, c1, q1, G1.go c1 (t := .tp) fun v F2 H2 y g2 s2 c2 G2 vv q2 => by
        obtain ⟨t, rfl, q2⟩ := onBool_some q2
        cases Top.bool vv
        exact G2.here c2 (.bl _) q2⟩⟩
theorem snd_or {b : Expr} {rest : List Expr} (ha : PE X a (TDm X.K B W .tp wa)) (hb : PE X (.BoolOp .Or (b :: rest) pos) (TDm X.K B W .tp wb)) :
    PE X (.BoolOp .Or (a :: b :: rest) pos) (TDm X.K B W .st (fun ρ g XX R => wa ρ g XX (onBool fun t g1 => if t = true then R (.bool true) g1 else wb ρ g1 XX (onBool fun t g2 => R (.bool t) g2)))) :=
  PE.imp (pe_or ha hb) fun σ H Q ⟨F, ast, ρ, g, XX, R, s, q, G⟩ => ⟨F, ast, ρ, g, XX, _, s, q, G.go s (t := .tp) fun v F1 H1 x g1 s1 c1 G1 vv q1 => by
    obtain ⟨t, rfl, q1⟩ := onBool_some q1
    cases Top.bool vv
    refine ⟨t, rfl, ?_⟩
    cases t with
    | true => exact G1.here c1 (.bl _) q1
    | false => exact ⟨F1, ast, ρ, g1, XX, _, c1, q1, G1.go c1 (t := .tp) fun v F2 H2 y g2 s2 c2 G2 vv q2 => by
        obtain ⟨t, rfl, q2⟩ := onBool_some q2
        cases Top.bool vv
        exact G2.here c2 (.bl _) q2⟩⟩
theorem snd_ite (hc : PT X c (TTm X.K B W (tst wc))) (ha : PE X a (TDm X.K B W .st wa)) (hb : PE X b (TDm X.K B W .st wb)) :
    PE X (.IfExp c a b pos) (TDm X.K B W .st (fun ρ g XX R => wc ρ g XX (onBool fun t g1 => if t = true then wa ρ g1 XX R else wb ρ g1 XX R))) :=
  PE.imp (pe_ifExp hc ha hb) fun σ H Q ⟨F, ast, ρ, g, XX, R, s, q, G⟩ => ⟨F, ast, ρ, g, XX, _, s, q, G.goB s fun t F1 H1 g1 s1 c1 G1 q1 => by
    cases t with
    | true => exact ⟨F1, ast, ρ, g1, XX, _, c1, q1, G1⟩
    | false => exact ⟨F1, ast, ρ, g1, XX, _, c1, q1, G1⟩⟩
end

/-! ### lists of expressions -/
abbrev ValL (K : PySem.W.Frag) (md : Md) (ast : Option Addr) (H F' H' : Hp) (vs : List V) (ds : List D) : Prop := Paired (fun v d => Val K md ast H F' H' v d) vs ds
structure GoalL (K : PySem.W.Frag) (B : Wish) (W : WX) (md : Md) (ast : Option Addr) (F H : Hp) (σ : L2.St) (X : XR) (R : List D → Nat → Prop) (Q : List V → Hp → Prop) : Prop where
  ok : ∀ vs F' H' ds g, Step ast F H F' H' → Same F' H' → StOk K F' H' ast g → ValL K md ast H F' H' vs ds → R ds g → Q vs H'
  ex : ∀ x c F' H' g, Step ast F H F' H' → Same F' H' → StOk K F' H' ast g → X x g → B x c → W c none σ H'
def TAm (K : PySem.W.Frag) (B : Wish) (W : WX) (md : Md) (w : Ev → Nat → XR → (List D → Nat → Prop) → Prop) : TA := fun σ H Q =>
  ∃ F ast ρ g X R, SRc K F H ast σ ρ g ∧ w ρ g X R ∧ GoalL K B W md ast F H σ X R Q
/-- modes that a later step keeps -/
def Keeps : Md → Prop
  | .fr => False
  | _ => True
theorem Val.step {K : PySem.W.Frag} {md : Md} (k : Keeps md) {ast : Option Addr} {H H2 F H1 F' H' : Hp} {v : V} {d : D} (h : Val K md ast H F H1 v d) (s : Step ast F H1 F' H') : Val K md ast H2 F' H' v d := by
  cases md with
  | st => exact Rp.mono s.same _ _ h
  | tp => exact Top.step h s
  | fr => exact k.elim
theorem Val.pre {K : PySem.W.Frag} {md : Md} (k : Keeps md) {ast : Option Addr} {H H2 F' H' : Hp} {v : V} {d : D} (h : Val K md ast H F' H' v d) : Val K md ast H2 F' H' v d := by
  cases md with
  | st => exact h
  | tp => exact h
  | fr => exact k.elim
theorem ValL.pre {K : PySem.W.Frag} {md : Md} (k : Keeps md) {ast : Option Addr} {H H2 F' H' : Hp} : ∀ {vs : List V} {ds : List D}, ValL K md ast H F' H' vs ds → ValL K md ast H2 F' H' vs ds
  | _, _, .nil => .nil
  | _, _, .cons h r => .cons (Val.pre k h) (ValL.pre k r)
theorem ValL.rp {K : PySem.W.Frag} {ast : Option Addr} {H F' H' : Hp} : ∀ {vs : List V} {ds : List D}, ValL K .st ast H F' H' vs ds → RpA K F' vs ds
  | _, _, .nil => .nil
  | _, _, .cons h r => .cons h (ValL.rp r)
theorem GoalL.later {K : PySem.W.Frag} {B : Wish} {W : WX} {md : Md} (km : Keeps md) {ast : Option Addr} {F H F1 H1 : Hp} {σ : L2.St} {X : XR} {R : List D → Nat → Prop} {Q : List V → Hp → Prop} (G : GoalL K B W md ast F H σ X R Q) (s : Step ast F H F1 H1) : GoalL K B W md ast F1 H1 σ X R Q :=
  ⟨fun v F' H' d g s' fh st vv r => G.ok v F' H' d g (s.trans s') fh st (ValL.pre km vv) r, fun x c F' H' g s' fh st q b => G.ex x c F' H' g (s.trans s') fh st q b⟩
section
variable {X : Cx} {B : Wish} {W : WX} {md : Md} {e : Expr} {es : List Expr} {w : Ev → Nat → XR → Rs → Prop} {wl : Ev → Nat → XR → (List D → Nat → Prop) → Prop} {pos : Pos}
theorem sndL_nil : PA X [] (TAm X.K B W md (fun _ g _ Q => Q [] g)) :=
  PA.imp pa_nil fun σ H Q ⟨F, ast, ρ, g, XX, R, s, q, G⟩ => G.ok [] F H [] g (Step.refl _ _ _) s.fh s.st .nil q
theorem sndL_cons (km : Keeps md) (he : PE X e (TDm X.K B W md w)) (hr : PA X es (TAm X.K B W md wl)) (hs : starEach (e :: es) X.env = (false, eval e X.env) :: starEach es X.env) :
    PA X (e :: es) (TAm X.K B W md (fun ρ g XX R => w ρ g XX fun d g1 => wl ρ g1 XX fun ds g2 => R (d :: ds) g2)) :=
  PA.imp (pa_cons he hr hs) fun σ H Q ⟨F, ast, ρ, g, XX, R, s, q, G⟩ => by
    refine ⟨F, ast, ρ, g, XX, _, s, q, ⟨fun v F1 H1 d g1 s1 fh1 st1 vv q1 => ?_, G.ex⟩⟩
    have G1 := G.later km s1
    refine ⟨F1, ast, ρ, g1, XX, _, s.step s1 fh1 st1, q1, ⟨fun vs F2 H2 ds g2 s2 fh2 st2 vvs q2 => ?_, G1.ex⟩⟩
    exact G1.ok (v :: vs) F2 H2 (d :: ds) g2 s2 fh2 st2 (.cons (Val.step km vv s2) vvs) q2
end
theorem GoalL.of {K : PySem.W.Frag} {B : Wish} {W : WX} {md md1 : Md} {ast : Option Addr} {F H : Hp} {σ : L2.St} {X : XR} {R : Rs} {Q : VK} {ρ : Ev} {g : Nat} (G : Goal K B W md ast F H σ X R Q) (s : SRc K F H ast σ ρ g) {R1 : List D → Nat → Prop} {Q1 : List V → Hp → Prop}
    (ok : ∀ vs F' H' ds g', Step ast F H F' H' → SRc K F' H' ast σ ρ g' → Goal K B W md ast F' H' σ X R Q → ValL K md1 ast H F' H' vs ds → R1 ds g' → Q1 vs H') : GoalL K B W md1 ast F H σ X R1 Q1 :=
  ⟨fun v F' H' d g' st fh so vv r => ok v F' H' d g' st (s.step st fh so) (G.later st) vv r, G.ex⟩
section
variable {X : Cx} {B : Wish} {W : WX} {e a b c i : Expr} {es : List Expr} {w wa wb wc : Ev → Nat → XR → Rs → Prop} {wl : Ev → Nat → XR → (List D → Nat → Prop) → Prop} {pos : Pos}
theorem snd_tup {j} (h : PA X es (TAm X.K B W .st wl)) : PE X (.Tuple es j pos) (TDm X.K B W .st (fun ρ g XX R => wl ρ g XX fun ds g1 => ds.length ≤ sizeLine ∧ R (.tuple ds) g1)) :=
  PE.imp (pe_tup h) fun σ H Q ⟨F, ast, ρ, g, XX, R, s, q, G⟩ => ⟨F, ast, ρ, g, XX, _, s, q, GoalL.of G s fun vs F1 H1 ds g1 s1 c1 G1 vv q1 => by
    have r := ValL.rp vv
    refine ⟨by rw [RpA.length r]; exact q1.1, fun p hp => ?_⟩
    have gr := Grow.laid (o := .tup vs) c1.fh hp
    exact G1.grown c1 gr (Same.upd2 c1.fh) (Rp.tup (SqT.of upd_same) (RpA.mono gr.same _ _ r)) q1.2⟩
theorem snd_lst (h : PA X es (TAm X.K B W .st wl)) : PE X (.List es pos) (TDm X.K B W .fr (fun ρ g XX R => wl ρ g XX fun ds g1 => ds.length ≤ sizeLine ∧ R (.list ds) g1)) :=
  PE.imp (pe_lst h) fun σ H Q ⟨F, ast, ρ, g, XX, R, s, q, G⟩ => ⟨F, ast, ρ, g, XX, _, s, q, GoalL.of G s fun vs F1 H1 ds g1 s1 c1 G1 vv q1 => by
    have r := ValL.rp vv
    refine ⟨by rw [RpA.length r]; exact q1.1, fun p hp => ?_⟩
    have fp : F1 p = none := c1.fh.free hp
    have np : ast ≠ some p := fun z => by
      have st := c1.st
      rw [z] at st
      obtain ⟨_, b, c, y, ys, h1, _⟩ := st
      rw [hp] at h1
      cases h1
    have gr := Grow.fresh (o := .lst vs) c1.fh hp
    exact G1.ok _ F1 _ (.list ds) g1 gr.step (Same.updR c1.fh fp) (gr.st c1.st) ⟨p, rfl, hp, np, fp, .inl ⟨vs, ds, rfl, upd_same, r⟩⟩ q1.2⟩
theorem ixN_eq (n : Nat) (i : Int) : L2.ixN n i = Dz.ixN n i := rfl
theorem at_rp {K : PySem.W.Frag} {F : Hp} {vs : List V} {ds : List D} {i : Int} {d : D} (r : RpA K F vs ds) (h : at_ ds i = some d) : ∃ v, atI vs i = some v ∧ Rp K F v d := by
  unfold at_ at h
  unfold atI
  rw [ixN_eq, r.length]
  cases e : Dz.ixN ds.length i with
  | none => rw [e] at h; cases h
  | some j =>
    rw [e] at h
    exact r.get h
theorem snd_ix (ha : PE X a (TDm X.K B W .tp wa)) (hi : PE X i (TDm X.K B W .tp wb)) (hs : PlainIx i) :
    PE X (.Subscript a i pos) (TDm X.K B W .st (fun ρ g XX R => wa ρ g XX fun x g1 => wb ρ g1 XX fun y g2 => ixD x y fun z => R z g2)) :=
  PE.imp (pe_ix ix_seq ha hi hs) fun σ H Q ⟨F, ast, ρ, g, XX, R, s, q, G⟩ => by
    refine ⟨F, ast, ρ, g, XX, _, s, q, G.go s (t := .tp) fun v F1 H1 x g1 s1 c1 G1 vv q1 => ?_⟩
    refine ⟨F1, ast, ρ, g1, XX, _, c1, q1, G1.go c1 (t := .tp) fun u F2 H2 y g2 s2 c2 G2 uu q2 => ?_⟩
    have vv2 := Top.step vv s2
    cases x <;> cases y <;> first | exact False.elim q2 | skip
    · obtain ⟨d, e, q2⟩ := q2
      cases Top.int uu
      obtain ⟨p, vs, ev, hq, r⟩ := Top.list c2.fh vv2
      obtain ⟨z, ez, rz⟩ := at_rp r e
      exact .inl ⟨p, vs, _, z, ev, rfl, hq, ez, G2.here c2 rz q2⟩
    · obtain ⟨d, e, q2⟩ := q2
      cases Top.int uu
      obtain ⟨p, vs, ev, hq, r⟩ := Top.tuple c2.fh vv2
      obtain ⟨z, ez, rz⟩ := at_rp r e
      exact .inr (.inl ⟨p, vs, _, z, ev, rfl, hq, ez, G2.here c2 rz q2⟩)
/-! ### slices -/
abbrev TOw := Ev → Nat → XR → (Option Int → Nat → Prop) → Prop
structure GoalO (K : PySem.W.Frag) (B : Wish) (W : WX) (ast : Option Addr) (F H : Hp) (σ : L2.St) (X : XR) (R : Option Int → Nat → Prop) (Q : Option Int → Hp → Prop) : Prop where
  ok : ∀ v F' H' g, Step ast F H F' H' → Same F' H' → StOk K F' H' ast g → R v g → Q v H'
  ex : ∀ x c F' H' g, Step ast F H F' H' → Same F' H' → StOk K F' H' ast g → X x g → B x c → W c none σ H'
def TOm (K : PySem.W.Frag) (B : Wish) (W : WX) (w : TOw) : TO := fun σ H Q =>
  ∃ F ast ρ g X R, SRc K F H ast σ ρ g ∧ w ρ g X R ∧ GoalO K B W ast F H σ X R Q
theorem PO.imp {X : Cx} {e : Option Expr} {t t' : TO} (h : PO X e t) (i : ∀ σ H Q, t' σ H Q → t σ H Q) : PO X e t' := ⟨fun pins s σ H Q I q => h.run pins s σ H Q I (i σ H Q q)⟩
theorem onInt_some {k : Int → Prop} {d : D} (h : onInt d k) : ∃ i, d = .int i ∧ k i := by
  cases d <;> first | exact False.elim h | exact ⟨_, rfl, h⟩
theorem sndO_no : PO X none (TOm X.K B W (fun _ g _ Q => Q none g)) := PO.imp po_none fun σ H Q ⟨F, ast, ρ, g, XX, R, s, q, G⟩ => G.ok none F H g (Step.refl _ _ _) s.fh s.st q
theorem sndO_ye (h : PE X e (TDm X.K B W .tp w)) : PO X (some e) (TOm X.K B W (fun ρ g XX Q => w ρ g XX fun d g1 => onInt d fun i => Q (some i) g1)) :=
  PO.imp (po_some h) fun σ H Q ⟨F, ast, ρ, g, XX, R, s, q, G⟩ => ⟨F, ast, ρ, g, XX, _, s, q, ⟨fun v F' H' d g' st fh so vv q1 => by
    obtain ⟨i, rfl, q1⟩ := onInt_some q1
    cases Top.int vv
    exact ⟨i, rfl, G.ok _ F' H' g' st fh so q1⟩, G.ex⟩⟩
theorem GoalO.of {K : PySem.W.Frag} {B : Wish} {W : WX} {md : Md} {ast : Option Addr} {F H : Hp} {σ : L2.St} {X : XR} {R : Rs} {Q : VK} {ρ : Ev} {g : Nat} (G : Goal K B W md ast F H σ X R Q) (s : SRc K F H ast σ ρ g) {R1 : Option Int → Nat → Prop} {Q1 : Option Int → Hp → Prop}
    (ok : ∀ v F' H' g', Step ast F H F' H' → SRc K F' H' ast σ ρ g' → Goal K B W md ast F' H' σ X R Q → R1 v g' → Q1 v H') : GoalO K B W ast F H σ X R1 Q1 :=
  ⟨fun v F' H' g' st fh so r => ok v F' H' g' st (s.step st fh so) (G.later st) r, G.ex⟩
theorem cut_rp {K : PySem.W.Frag} {F : Hp} {vs : List V} {ds : List D} (r : RpA K F vs ds) (lo hi : Option Int) : RpA K F (cutV vs lo hi) (cutD ds lo hi) := by
  unfold cutV cutD
  rw [r.length]
  exact (r.drop _).take _
theorem cut_whole {K : PySem.W.Frag} {F : Hp} {vs : List V} {ds : List D} (r : RpA K F vs ds) (lo hi : Option Int) (h : HT.sIx vs.length 0 lo = 0 ∧ HT.sIx vs.length vs.length hi = vs.length) : cutD ds lo hi = ds := by
  rw [r.length] at h
  have h1 : Dz.sIx ds.length 0 lo = 0 := h.1
  have h2 : Dz.sIx ds.length ds.length hi = ds.length := h.2
  unfold cutD
  rw [h1, h2, List.drop_zero, Nat.sub_zero, List.take_length]
theorem Top.stands {K : PySem.W.Frag} {ast : Option Addr} {F H : Hp} {v : V} {ds : List D} (t : Top K ast F H v (.tuple ds)) : Rp K F v (.tuple ds) := by
  rcases t with t | ⟨a, e, n, o⟩
  · exact t
  · rcases o.2 with ⟨vs, ds', e1, e2, r⟩ | ⟨_, _, e1, _⟩ <;> cases e1
theorem snd_slice {lo hi : Option Expr} {p2 : Pos} {wl wh : TOw} (ha : PE X a (TDm X.K B W .tp wa)) (hl : PO X lo (TOm X.K B W wl)) (hh : PO X hi (TOm X.K B W wh)) :
    PE X (.Subscript a (.Slice lo hi none p2) pos) (TDm X.K B W .st (fun ρ g XX R => wa ρ g XX fun x g1 => wl ρ g1 XX fun l g2 => wh ρ g2 XX fun h g3 => sliceD x l h fun z => R z g3)) :=
  PE.imp (pe_slice (SlR.or sl_list sl_tupA) ha hl hh) fun σ H Q ⟨F, ast, ρ, g, XX, R, s, q, G⟩ => by
    refine ⟨F, ast, ρ, g, XX, _, s, q, G.go s (t := .tp) fun v F1 H1 x g1 s1 c1 G1 vv q1 => ?_⟩
    refine ⟨F1, ast, ρ, g1, XX, _, c1, q1, GoalO.of G1 c1 fun l F2 H2 g2 s2 c2 G2 q2 => ?_⟩
    refine ⟨F2, ast, ρ, g2, XX, _, c2, q2, GoalO.of G2 c2 fun h F3 H3 g3 s3 c3 G3 q3 => ?_⟩
    have vv3 := (Top.step vv s2).step s3
    cases x <;> first | exact False.elim q3 | skip
    · obtain ⟨p, vs, ev, hq, r⟩ := Top.list c3.fh vv3
      refine .inl ⟨p, vs, ev, hq, fun p' np => ?_⟩
      have gr := Grow.laid (o := .lst (cutV vs l h)) c3.fh np
      exact G3.grown c3 gr (Same.upd2 c3.fh) (Rp.lst (SqL.of upd_same) (RpA.mono gr.same _ _ (cut_rp r l h))) q3
    · obtain ⟨p, vs, ev, hq, r⟩ := Top.tuple c3.fh vv3
      refine .inr ⟨p, vs, ev, hq, fun hw => ?_, fun hw p' np => ?_⟩
      · rename_i ds
        have q4 : R (.tuple (cutD ds l h)) g3 := q3
        rw [cut_whole r l h hw] at q4
        rw [← ev]
        exact G3.here c3 (Top.stands vv3) q4
      · have gr := Grow.laid (o := .tup (cutV vs l h)) c3.fh np
        exact G3.grown c3 gr (Same.upd2 c3.fh) (Rp.tup (SqT.of upd_same) (RpA.mono gr.same _ _ (cut_rp r l h))) q3
end
end Dz
set_option Elab.async false
set_option linter.all false
set_option maxRecDepth 100000
/-! Dz: f-strings, calls of built-ins, of defs. -/
namespace Dz
open PySem PySem.Spec PyProof.Rows L2
section
variable {X : Cx} {B : Wish} {W : WX} {e a b c i : Expr} {es : List Expr} {w wa wb wc : Ev → Nat → XR → Rs → Prop} {wl : Ev → Nat → XR → (List D → Nat → Prop) → Prop} {pos : Pos}
/-! ### f-strings -/
structure GoalJ (K : PySem.W.Frag) (B : Wish) (W : WX) (ast : Option Addr) (F H : Hp) (σ : L2.St) (X : XR) (R : Str → Nat → Prop) (Q : Str → Hp → Prop) : Prop where
  ok : ∀ v F' H' g, Step ast F H F' H' → Same F' H' → StOk K F' H' ast g → R v g → Q v H'
  ex : ∀ x c F' H' g, Step ast F H F' H' → Same F' H' → StOk K F' H' ast g → X x g → B x c → W c none σ H'
abbrev JW := Str → Ev → Nat → XR → (Str → Nat → Prop) → Prop
/-- the parts of an f-string and what is wanted of them -/
def PJd (X : Cx) (B : Wish) (W : WX) (es : List Expr) (w : JW) : Prop :=
  ∃ ts, PJ X es ts ∧ ∀ acc σ H Q, (∃ F ast ρ g XX R, SRc X.K F H ast σ ρ g ∧ w acc ρ g XX R ∧ GoalJ X.K B W ast F H σ XX R Q) → tJs ts acc σ H Q
theorem sndJ_nil : PJd X B W [] (fun acc _ g _ Q => Q acc g) := ⟨[], .nil, fun acc σ H Q ⟨F, ast, ρ, g, XX, R, s, q, G⟩ => G.ok acc F H g (Step.refl _ _ _) s.fh s.st q⟩
theorem sndJ_str {x : Str} {j : Nat} {p : Pos} {wj : JW} (h : PJd X B W es wj) : PJd X B W (.Constant (.str x) j p :: es) (fun acc ρ g XX Q => strD (.str x) fun t => (acc ++ t).length ≤ sizeLine ∧ wj (acc ++ t) ρ g XX Q) := by
  obtain ⟨ts, h1, h2⟩ := h
  refine ⟨tC (.str x) :: ts, .cons pe_str h1, fun acc σ H Q ⟨F, ast, ρ, g, XX, R, s, q, G⟩ => ?_⟩
  exact ⟨x, rfl, q.2.1, h2 _ _ _ _ ⟨F, ast, ρ, g, XX, R, s, q.2.2, G⟩⟩
theorem sndJ_fmt {p : Pos} {wj : JW} (he : PE X e (TDm X.K B W .tp w)) (h : PJd X B W es wj) : PJd X B W (.FormattedValue e (-1) none p :: es) (fun acc ρ g XX Q => w ρ g XX fun d g1 => strD d fun t => (acc ++ t).length ≤ sizeLine ∧ wj (acc ++ t) ρ g1 XX Q) := by
  obtain ⟨ts, h1, h2⟩ := h
  refine ⟨_, .cons (pe_fmt he) h1, fun acc σ H Q ⟨F, ast, ρ, g, XX, R, s, q, G⟩ => ?_⟩
  refine ⟨F, ast, ρ, g, XX, _, s, q, ⟨fun v F' H' d g' st fh so vv q1 => ?_, G.ex⟩⟩
  have G1 : GoalJ X.K B W ast F' H' σ XX R Q := ⟨fun v F2 H2 g2 s' fh st' r => G.ok v F2 H2 g2 (st.trans s') fh st' r, fun x c F2 H2 g2 s' fh st' q b => G.ex x c F2 H2 g2 (st.trans s') fh st' q b⟩
  cases d <;> first | exact False.elim q1 | skip
  · cases Top.int vv
    exact .inr ⟨_, rfl, q1.1, _, rfl, q1.2.1, h2 _ _ _ _ ⟨F', ast, ρ, g', XX, R, s.step st fh so, q1.2.2, G1⟩⟩
  · cases Top.str vv
    exact .inl ⟨_, rfl, q1.1, _, rfl, q1.2.1, h2 _ _ _ _ ⟨F', ast, ρ, g', XX, R, s.step st fh so, q1.2.2, G1⟩⟩
theorem snd_fmt {v1 v2 : Expr} {rest : List Expr} {wj : JW} (h : PJd X B W (v1 :: v2 :: rest) wj) : PE X (.JoinedStr (v1 :: v2 :: rest) pos) (TDm X.K B W .st (fun ρ g XX Q => wj Str.empty ρ g XX fun t g1 => Q (.str t) g1)) := by
  obtain ⟨ts, h1, h2⟩ := h
  refine PE.imp (pe_joined h1) fun σ H Q ⟨F, ast, ρ, g, XX, R, s, q, G⟩ => h2 _ _ _ _ ⟨F, ast, ρ, g, XX, _, s, q, ⟨fun v F' H' g' st fh so r => ?_, G.ex⟩⟩
  exact G.ok (.str v) F' H' (.str v) g' st fh so (.str v) r

/-! ### built-ins -/
/-- a built-in on data, by values -/
def rF (K : PySem.W.Frag) (f : List D → (D → Prop) → Prop) : List V → Hp → VK → Prop := fun vs H Q => ∃ F ast ds P, Same F H ∧ Paired (fun v d => Top K ast F H v d) vs ds ∧ f ds P ∧ ∀ v F' H' z, Grow F H F' H' → Same F' H' → Rp K F' v z → P z → Q v H'
theorem snd_fnB {x : Str} {p : Pos} {id : String} {f : List D → (D → Prop) → Prop} (hc : CallR X (.builtin id) (rF X.K f)) (hg : Gl X x) (hm : X.mg x = none) (hv : bootBuiltins x = some (.builtin id)) (ha : PA X (e :: es) (TAm X.K B W .tp wl)) (hn : x ≠ "__name__") (hdb : (x == ("__debug__" : Str)) = false)
    (he : starEach (e :: es) X.env = (false, eval e X.env) :: starEach es X.env) (hpl : (backTo pos (starEach es X.env)).any (·.1) = false) :
    PE X (.Call (.Name x p) (e :: es) [] pos) (TDm X.K B W .st (fun ρ g XX R => wl ρ g XX fun ds g1 => f ds fun z => R z g1)) :=
  PE.imp (pe_callB hc hg hm hv ha hn hdb he hpl) fun σ H Q ⟨F, ast, ρ, g, XX, R, s, q, G⟩ => ⟨F, ast, ρ, g, XX, _, s, q, GoalL.of G s fun vs F1 H1 ds g1 s1 c1 G1 vv q1 =>
    ⟨F1, ast, ds, _, c1.fh, vv, q1, fun v' F' H' z gr fh' r p => G1.grown c1 gr fh' r p⟩⟩
theorem snd_fnT {x : Str} {p : Pos} {T : String} {f : List D → (D → Prop) → Prop} (hc : CallR X (.type T) (rF X.K f)) (hg : Gl X x) (hm : X.mg x = none) (hv : bootBuiltins x = some (.type T)) (ha : PA X (e :: es) (TAm X.K B W .tp wl)) (hn : x ≠ "__name__") (hdb : (x == ("__debug__" : Str)) = false)
    (he : starEach (e :: es) X.env = (false, eval e X.env) :: starEach es X.env) (hpl : (backTo pos (starEach es X.env)).any (·.1) = false) :
    PE X (.Call (.Name x p) (e :: es) [] pos) (TDm X.K B W .st (fun ρ g XX R => wl ρ g XX fun ds g1 => f ds fun z => R z g1)) :=
  PE.imp (pe_callTy hc hg hm hv ha hn hdb he hpl) fun σ H Q ⟨F, ast, ρ, g, XX, R, s, q, G⟩ => ⟨F, ast, ρ, g, XX, _, s, q, GoalL.of G s fun vs F1 H1 ds g1 s1 c1 G1 vv q1 =>
    ⟨F1, ast, ds, _, c1.fh, vv, q1, fun v' F' H' z gr fh' r p => G1.grown c1 gr fh' r p⟩⟩
theorem pr1 {α β : Type} {R : α → β → Prop} {vs : List α} {d : β} (h : Paired R vs [d]) : ∃ v, vs = [v] ∧ R v d := by
  cases h with
  | cons h r => cases r; exact ⟨_, rfl, h⟩
theorem pr2 {α β : Type} {R : α → β → Prop} {vs : List α} {d e : β} (h : Paired R vs [d, e]) : ∃ v u, vs = [v, u] ∧ R v d ∧ R u e := by
  cases h with
  | cons h r =>
    cases r with
    | cons h2 r => cases r; exact ⟨_, _, rfl, h, h2⟩
theorem cf_len : CallR X (.builtin "len") (rF X.K (fnD .len)) := by
  intro pins s σ H vs us Q I r h
  obtain ⟨F, ast, ds, P, fh, pr, f, k⟩ := h
  match ds, f with
  | [.list xs], f =>
    obtain ⟨v, rfl, t⟩ := pr1 pr
    obtain ⟨p, ys, rfl, hq, rr⟩ := Top.list fh t
    exact call_len_seq pins s σ H _ us Q I r ⟨p, ys, rfl, .inl hq, by rw [rr.length]; exact endI fh k (.int _) f⟩
  | [.tuple xs], f =>
    obtain ⟨v, rfl, t⟩ := pr1 pr
    obtain ⟨p, ys, rfl, hq, rr⟩ := Top.tuple fh t
    exact call_len_seq pins s σ H _ us Q I r ⟨p, ys, rfl, .inr hq, by rw [rr.length]; exact endI fh k (.int _) f⟩
theorem cf_abs : CallR X (.builtin "abs") (rF X.K (fnD .abs)) := by
  intro pins s σ H vs us Q I r h
  obtain ⟨F, ast, ds, P, fh, pr, f, k⟩ := h
  match ds, f with
  | [.int i], f =>
    obtain ⟨v, rfl, t⟩ := pr1 pr
    cases t.int
    exact call_abs pins s σ H _ us Q I r ⟨i, rfl, endI fh k (.int _) f⟩
theorem cf_int : CallR X (.type "int") (rF X.K (fnD .int)) := by
  intro pins s σ H vs us Q I r h
  obtain ⟨F, ast, ds, P, fh, pr, f, k⟩ := h
  match ds, f with
  | [.int i], f =>
    obtain ⟨v, rfl, t⟩ := pr1 pr
    cases t.int
    exact call_int1 pins s σ H _ us Q I r (.inl ⟨i, rfl, endI fh k (.int _) f⟩)
  | [.bool i], f =>
    obtain ⟨v, rfl, t⟩ := pr1 pr
    cases t.bool
    exact call_int1 pins s σ H _ us Q I r (.inr ⟨i, rfl, endI fh k (.int _) f⟩)
theorem cf_str : CallR X (.type "str") (rF X.K (fnD .str)) := by
  intro pins s σ H vs us Q I r h
  obtain ⟨F, ast, ds, P, fh, pr, f, k⟩ := h
  match ds, f with
  | [.int i], f =>
    obtain ⟨v, rfl, t⟩ := pr1 pr
    cases t.int
    exact call_str_int pins s σ H _ us Q I r ⟨i, rfl, f.1, endI fh k (.str _) f.2⟩
theorem cf_max (hc : X.calm = true) : CallR X (.builtin "max") (rF X.K (fnD .max)) := by
  intro pins s σ H vs us Q I r h
  obtain ⟨F, ast, ds, P, fh, pr, f, k⟩ := h
  match ds, f with
  | [.int i, .int j], f =>
    obtain ⟨v, u, rfl, t, t'⟩ := pr2 pr
    cases t.int; cases t'.int
    exact call_max2 hc pins s σ H _ us Q I r ⟨i, j, rfl, endI fh k (.int _) f⟩
theorem cf_min (hc : X.calm = true) : CallR X (.builtin "min") (rF X.K (fnD .min)) := by
  intro pins s σ H vs us Q I r h
  obtain ⟨F, ast, ds, P, fh, pr, f, k⟩ := h
  match ds, f with
  | [.int i, .int j], f =>
    obtain ⟨v, u, rfl, t, t'⟩ := pr2 pr
    cases t.int; cases t'.int
    exact call_min2 hc pins s σ H _ us Q I r ⟨i, j, rfl, endI fh k (.int _) f⟩
/-- repr of a list of data -/
theorem cf_repr (hu : X.A.units + 100 < cLine) (hgd : X.A.guards = some []) : CallR X (.builtin "repr") (rF X.K (fnD .repr)) := by
  intro pins s σ H vs us Q I r h
  obtain ⟨F, ast, ds, P, fh, pr, f, k⟩ := h
  match ds, f with
  | [.list xs], f =>
    obtain ⟨v, rfl, t⟩ := pr1 pr
    obtain ⟨p, ys, e, hq, rr⟩ := Top.list fh t
    subst e
    obtain ⟨u, rfl, ru⟩ := vals1 r
    cases ru
    obtain ⟨⟨f1, f2, f3, f4⟩, f5⟩ := f
    obtain ⟨as, rd⟩ := Dp.reads I (.list xs) (.ref p) (.ref p) (Rp.dp _ _ f3 (Top.rp fh t)) rfl
    exact repr_of_reads' rd f1 (PyData.noDict_hsm f3) hgd (by omega) (fun _ _ e => e) (fun h' u tk kk => ⟨.str (PyData.list xs).shown, H, I.kept kk, ⟨_, rfl⟩, endI fh k (.str _) f5⟩) f4
end
end Dz
set_option Elab.async false
set_option linter.all false
set_option maxRecDepth 100000
/-! Dz: defs: what a def promises over data, its call. -/
namespace Dz
open PySem PySem.Spec PyProof.Rows L2
/-- a def's promise, told of calls within which no repr is running -/
structure FnG (P : Program) (w : World) (K : PySem.W.Frag) (mg : Str → Option Value) (base : Heap) (k : Nat) (f : Addr) (fd : FuncData) (ps : List Str) (sp : Sp) : Prop where
  len : ∀ vs H Q E, sp vs H Q E → vs.length = ps.length
  run : ∀ (A : Around) (outer : List Env) (s : Shared) (H : Hp) (us : List Value) (vs : List V) (Q : VK) (E : XK), Room k A → A.guards = some [] → Env0 P w K mg base A outer s H →
    BindsTo s fd ⟨us, []⟩ (ps.zip us) → Vals vs us → sp vs H Q E → codeAny (model P w) A (.call (.ref f) ⟨us, []⟩) (CR (L2.CX P w) outer P w H s Q E) s
theorem FnG.mono {P : Program} {w : World} {K : PySem.W.Frag} {mg : Str → Option Value} {base : Heap} {j k : Nat} {f : Addr} {fd : FuncData} {ps : List Str} {sp : Sp} (F : FnG P w K mg base j f fd ps sp) (h : j ≤ k) : FnG P w K mg base k f fd ps sp :=
  ⟨F.len, fun A outer s H us vs Q E hr => F.run A outer s H us vs Q E (hr.mono h)⟩
section
variable {X : Cx} {k : Nat} {f : Addr} {fd : FuncData} {ps : List Str} {sp : Sp}
theorem run_fnG {pins : List (Addr × Obj)} {σ : L2.St} {H : Hp} {s : Shared} {Q : VK} {E : XK} {us : List Value} {vs : List V} (F : FnG X.prog X.w X.K X.mg X.base k f fd ps sp) (hr : Room k X.A) (hg : X.A.guards = some []) (hb : Binds X.K fd ps [])
    (hx : PassesAt (L2.CX X.prog X.w) X σ E) (I : Inv X pins σ H s) (r : Vals vs us) (h : sp vs H Q E) : wpAny (model X.prog X.w) X.A (call (.ref f) us) (EP X pins σ Q) X.xe s := by
  have hlen : us.length = ps.length := r.length.symm.trans (F.len vs H Q E h)
  have hbind : BindsTo s fd ⟨us, []⟩ (ps.zip us) := by
    have q := hb s us I.kIn (by rw [List.append_nil]; exact hlen)
    rw [List.append_nil] at q
    exact q
  have run := F.run X.A X.stack s H us vs Q E hr hg I.env0 hbind r h
  refine wpAny_call (codeAny_mono run ?_)
  intro res s' q
  match res, q with
  | .error e, q => exact hx pins H s e s' I q
  | .ok (.ret u), q => exact I.after q
/-- f(e, ..) by its promise -/
theorem pe_callG {x : Str} {p pos : Pos} {e : Expr} {es : List Expr} {t : TA} {E : L2.St → XK} (F : FnG X.prog X.w X.K X.mg X.base k f fd ps sp) (hr : Room k X.A) (hgd : X.A.guards = some []) (hg : Gl X x) (hm : X.mg x = some (.ref f))
    (hk : PySem.W.keepIn X.K (.ref f) = true) (hb : Binds X.K fd ps []) (hx : ∀ σ, PassesAt (L2.CX X.prog X.w) X σ (E σ)) (ha : PA X (e :: es) t) (hdb : (x == ("__debug__" : Str)) = false)
    (he : starEach (e :: es) X.env = (false, eval e X.env) :: starEach es X.env) (hpl : (backTo pos (starEach es X.env)).any (·.1) = false) : PE X (.Call (.Name x p) (e :: es) [] pos) (tCallS sp E t) := by
  constructor
  intro pins s σ H Q I h
  refine wpAny_Call_Name_kw (ld_glob I hg hm (PySem.W.callWith_K (h₀ := X.base) I.ok.mod.kin hk ?_ he hpl) hdb)
  refine thn (ha.run pos pins s σ H _ I h) ?_
  rintro us s1 ⟨vs, H1, I1, r, q⟩
  exact ⟨I1.kIn, run_fnG F hr hgd hb (hx σ) I1 r q⟩
/-- f() -/
theorem pe_callG0 {x : Str} {p pos : Pos} {E : L2.St → XK} (F : FnG X.prog X.w X.K X.mg X.base k f fd ps sp) (hr : Room k X.A) (hgd : X.A.guards = some []) (hg : Gl X x) (hm : X.mg x = some (.ref f))
    (hk : PySem.W.keepIn X.K (.ref f) = true) (hb : Binds X.K fd ps []) (hx : ∀ σ, PassesAt (L2.CX X.prog X.w) X σ (E σ)) (hdb : (x == ("__debug__" : Str)) = false) : PE X (.Call (.Name x p) [] [] pos) (tCallS sp E tNil) := by
  constructor
  intro pins s σ H Q I h
  exact wpAny_Call_Name_kw (ld_glob I hg hm (PySem.W.callWith_K0 I.kIn hk (run_fnG (us := []) F hr hgd hb (hx σ) I .nil h)) hdb)
end

/-! ### promises over data -/
def ArgOk (K : PySem.W.Frag) (F : Hp) (ast : Option Addr) (v : V) : SV → Prop
  | .fz d => Rp K F v d
  | .st => ∃ a, v = .ref a ∧ ast = some a
  | _ => False
/-- the promise that a predicate over data makes -/
def spD (K : PySem.W.Frag) (B : Wish) (np : Nat) (φ : List SV → Nat → XR → Rs → Prop) : Sp := fun vs H Q E => vs.length = np ∧ ∃ F ast svs g X R, Same F H ∧ StOk K F H ast g ∧ Paired (ArgOk K F ast) vs svs ∧ φ svs g X R ∧
  (∀ v F' H' d g', Step ast F H F' H' → Same F' H' → StOk K F' H' ast g' → Rp K F' v d → R d g' → Q v H') ∧ (∀ x c F' H' g', Step ast F H F' H' → Same F' H' → StOk K F' H' ast g' → X x g' → B x c → E c none H')
/-- a list of arguments -/
structure GoalA (K : PySem.W.Frag) (B : Wish) (W : WX) (ast : Option Addr) (F H : Hp) (σ : L2.St) (X : XR) (R : List SV → Nat → Prop) (Q : List V → Hp → Prop) : Prop where
  ok : ∀ vs F' H' svs g, Step ast F H F' H' → Same F' H' → StOk K F' H' ast g → Paired (ArgOk K F' ast) vs svs → R svs g → Q vs H'
  ex : ∀ x c F' H' g, Step ast F H F' H' → Same F' H' → StOk K F' H' ast g → X x g → B x c → W c none σ H'
abbrev AW := Ev → Nat → XR → (List SV → Nat → Prop) → Prop
def TGm (K : PySem.W.Frag) (B : Wish) (W : WX) (w : AW) : TA := fun σ H Q => ∃ F ast ρ g X R, SRc K F H ast σ ρ g ∧ w ρ g X R ∧ GoalA K B W ast F H σ X R Q
theorem ArgOk.mono {K : PySem.W.Frag} {F F' : Hp} (s : Same F F') {ast : Option Addr} {v : V} {sv : SV} (h : ArgOk K F ast v sv) : ArgOk K F' ast v sv := by
  cases sv with
  | fz d => exact Rp.mono s _ _ h
  | st => exact h
  | _ => exact h
theorem onSt_some {o : Option SV} {P : Prop} (h : onSt o P) : o = some .st ∧ P := by
  match o, h with
  | some .st, h => exact ⟨rfl, h⟩
theorem onFz_some {o : Option SV} {P : D → Prop} (h : onFz o P) : ∃ d, o = some (.fz d) ∧ P d := by
  match o, h with
  | some (.fz d), h => exact ⟨d, rfl, h⟩
theorem onOw_some {o : Option SV} {P : D → Prop} (h : onOw o P) : ∃ d, o = some (.ow d) ∧ P d := by
  match o, h with
  | some (.ow d), h => exact ⟨d, rfl, h⟩
section
variable {X : Cx} {B : Wish} {W : WX} {e : Expr} {es : List Expr} {w : Ev → Nat → XR → Rs → Prop} {wa : AW} {pos : Pos}
theorem sndA_nil : PA X [] (TGm X.K B W (fun _ g _ Q => Q [] g)) := PA.imp pa_nil fun σ H Q ⟨F, ast, ρ, g, XX, R, s, q, G⟩ => G.ok [] F H [] g (Step.refl _ _ _) s.fh s.st .nil q
theorem sndA_cons (he : PE X e (TDm X.K B W .st w)) (hr : PA X es (TGm X.K B W wa)) (hs : starEach (e :: es) X.env = (false, eval e X.env) :: starEach es X.env) :
    PA X (e :: es) (TGm X.K B W (fun ρ g XX R => w ρ g XX fun d g1 => wa ρ g1 XX fun ds g2 => R (.fz d :: ds) g2)) :=
  PA.imp (pa_cons he hr hs) fun σ H Q ⟨F, ast, ρ, g, XX, R, s, q, G⟩ => by
    refine ⟨F, ast, ρ, g, XX, _, s, q, ⟨fun v F1 H1 d g1 s1 fh1 st1 vv q1 => ?_, G.ex⟩⟩
    refine ⟨F1, ast, ρ, g1, XX, _, s.step s1 fh1 st1, q1, ⟨fun vs F2 H2 ds g2 s2 fh2 st2 vvs q2 => ?_, fun x c F2 H2 g2 s2 fh2 st2 q b => G.ex x c F2 H2 g2 (s1.trans s2) fh2 st2 q b⟩⟩
    exact G.ok (v :: vs) F2 H2 _ g2 (s1.trans s2) fh2 st2 (.cons (ArgOk.mono (sv := .fz d) s2.same vv) vvs) q2
theorem sndA_st {i : Nat} {x : Str} {p : Pos} (hN : X.N[i]? = some x) (hv : Vis X.env.scope x) (hd : (x == ("__debug__" : Str)) = false) (hcd : (x == ("__classdict__" : Str)) = false) (hr : PA X es (TGm X.K B W wa)) :
    PA X (.Name x p :: es) (TGm X.K B W (fun ρ g XX R => onSt ρ[i]? (wa ρ g XX fun ds g2 => R (.st :: ds) g2))) :=
  PA.imp (pa_cons (pe_var hN hv hd hcd) hr rfl) fun σ H Q ⟨F, ast, ρ, g, XX, R, s, q, G⟩ => by
    obtain ⟨hi, q⟩ := onSt_some q
    obtain ⟨y, e, a, ev, ea⟩ := s.sl.at_ i _ hi
    subst ev
    refine ⟨.ref a, e, F, ast, ρ, g, XX, _, s, q, ⟨fun vs F2 H2 ds g2 s2 fh2 st2 vvs q2 => ?_, G.ex⟩⟩
    exact G.ok (.ref a :: vs) F2 H2 _ g2 s2 fh2 st2 (.cons (show ArgOk _ _ _ _ SV.st from ⟨a, rfl, ea⟩) vvs) q2
theorem call_ok {np : Nat} {φ : List SV → Nat → XR → Rs → Prop} (hlen : ∀ svs g XX R, φ svs g XX R → svs.length = np) {σ : L2.St} {H : Hp} {Q : VK} (h : TDm X.K B W .st (fun ρ g XX R => wa ρ g XX fun svs g1 => φ svs g1 XX R) σ H Q) :
    tCallS (spD X.K B np φ) (WE W) (TGm X.K B W wa) σ H Q := by
  obtain ⟨F, ast, ρ, g, XX, R, s, q, G⟩ := h
  refine ⟨F, ast, ρ, g, XX, _, s, q, ⟨fun vs F1 H1 svs g1 s1 fh1 st1 vv q1 => ?_, G.ex⟩⟩
  refine ⟨by rw [vv.length]; exact hlen _ _ _ _ q1, F1, ast, svs, g1, XX, R, fh1, st1, vv, q1, fun v F' H' d g' s' fh' st' r p => ?_, fun x c F' H' g' s' fh' st' p b => ?_⟩
  · exact G.ok v F' H' d g' (s1.trans s') fh' st' r p
  · exact G.ex x c F' H' g' (s1.trans s') fh' st' p b
theorem snd_call {np k : Nat} {f : Addr} {fd : FuncData} {ps : List Str} {x : Str} {p : Pos} {φ : List SV → Nat → XR → Rs → Prop} (hlen : ∀ svs g XX R, φ svs g XX R → svs.length = np) (FN : FnG X.prog X.w X.K X.mg X.base k f fd ps (spD X.K B np φ)) (hr : Room k X.A) (hgd : X.A.guards = some []) (hg : Gl X x)
    (hm : X.mg x = some (.ref f)) (hk : PySem.W.keepIn X.K (.ref f) = true) (hb : Binds X.K fd ps []) (tk : Takes X W) (ha : PA X (e :: es) (TGm X.K B W wa)) (hdb : (x == ("__debug__" : Str)) = false)
    (he : starEach (e :: es) X.env = (false, eval e X.env) :: starEach es X.env) (hpl : (backTo pos (starEach es X.env)).any (·.1) = false) :
    PE X (.Call (.Name x p) (e :: es) [] pos) (TDm X.K B W .st (fun ρ g XX R => wa ρ g XX fun svs g1 => φ svs g1 XX R)) :=
  PE.imp (pe_callG (E := WE W) FN hr hgd hg hm hk hb (fun σ => passAt tk σ) ha hdb he hpl) fun σ H Q h => call_ok hlen h
theorem snd_call0 {np k : Nat} {f : Addr} {fd : FuncData} {ps : List Str} {x : Str} {p : Pos} {φ : List SV → Nat → XR → Rs → Prop} (hlen : ∀ svs g XX R, φ svs g XX R → svs.length = np) (FN : FnG X.prog X.w X.K X.mg X.base k f fd ps (spD X.K B np φ)) (hr : Room k X.A) (hgd : X.A.guards = some []) (hg : Gl X x)
    (hm : X.mg x = some (.ref f)) (hk : PySem.W.keepIn X.K (.ref f) = true) (hb : Binds X.K fd ps []) (tk : Takes X W) (hdb : (x == ("__debug__" : Str)) = false) :
    PE X (.Call (.Name x p) [] [] pos) (TDm X.K B W .st (fun ρ g XX R => φ [] g XX R)) :=
  PE.imp (pe_callG0 (E := WE W) FN hr hgd hg hm hk hb (fun σ => passAt tk σ) hdb) fun σ H Q ⟨F, ast, ρ, g, XX, R, s, q, G⟩ =>
    ⟨hlen _ _ _ _ q, F, ast, [], g, XX, R, s.fh, s.st, .nil, q, G.ok, G.ex⟩
end
/-! ### draws -/
/-- next(state, many): a number from 0 to below many, the counter one more -/
def spNext (K : PySem.W.Frag) : Sp := fun vs H Q _ => ∃ (F : Hp) (a : Addr) (m : Int) (g : Nat), vs = [.ref a, .int m] ∧ Same F H ∧ StOk K F H (some a) g ∧ 0 < m ∧ 1 < g ∧
  ∀ (x : Int) (H' : Hp), 0 ≤ x → x < m → Step (some a) F H F H' → Same F H' → StOk K F H' (some a) (g - 1) → Q (.int x) H'
section
variable {X : Cx} {B : Wish} {W : WX} {e : Expr} {w : Ev → Nat → XR → Rs → Prop} {pos : Pos}
theorem snd_draw {k i : Nat} {f : Addr} {fd : FuncData} {ps : List Str} {x y : Str} {p p2 : Pos} (FN : FnG X.prog X.w X.K X.mg X.base k f fd ps (spNext X.K)) (hr : Room k X.A) (hgd : X.A.guards = some []) (hg : Gl X x)
    (hm : X.mg x = some (.ref f)) (hk : PySem.W.keepIn X.K (.ref f) = true) (hb : Binds X.K fd ps []) (tk : Takes X W) (hN : X.N[i]? = some y) (hv : Vis X.env.scope y) (hd : (y == ("__debug__" : Str)) = false) (hcd : (y == ("__classdict__" : Str)) = false)
    (he : PE X e (TDm X.K B W .tp w)) (hdb : (x == ("__debug__" : Str)) = false) (hs : starEach [e] X.env = [(false, eval e X.env)]) :
    PE X (.Call (.Name x p) [.Name y p2, e] [] pos) (TDm X.K B W .st (fun ρ g XX R => onSt ρ[i]? (w ρ g XX fun d g1 => onInt d fun n => 0 < n ∧ 1 < g1 ∧ ∀ x : Int, 0 ≤ x → x < n → R (.int x) (g1 - 1)))) := by
  have ha : PA X [.Name y p2, e] (tCons (tVar i) (tCons (TDm X.K B W .tp w) tNil)) := pa_cons (pe_var hN hv hd hcd) (pa_cons he pa_nil hs) rfl
  have hpl : (backTo pos (starEach [e] X.env)).any (·.1) = false := by rw [hs]; rfl
  refine PE.imp (pe_callG (E := WE W) FN hr hgd hg hm hk hb (fun σ => passAt tk σ) ha hdb rfl hpl) fun σ H Q ⟨F, ast, ρ, g, XX, R, s, q, G⟩ => ?_
  obtain ⟨hi, q⟩ := onSt_some q
  obtain ⟨z, e1, a, ev, ea⟩ := s.sl.at_ i _ hi
  subst ev ea
  refine ⟨.ref a, e1, F, some a, ρ, g, XX, _, s, q, G.go s (t := .tp) fun v F1 H1 d g1 s1 c1 G1 vv q1 => ?_⟩
  obtain ⟨n, rfl, q1⟩ := onInt_some q1
  cases Top.int vv
  refine ⟨F1, a, n, g1, rfl, c1.fh, c1.st, q1.1, q1.2.1, fun x H' h1 h2 st fh so => ?_⟩
  exact G1.ok (.int x) F1 H' (.int x) (g1 - 1) st fh so (.int x) (q1.2.2 x h1 h2)
end
end Dz
set_option Elab.async false
set_option linter.all false
set_option maxRecDepth 100000
/-! Dz: what is walked; comprehensions. -/
namespace Dz
open PySem PySem.Spec PyProof.Rows L2 RZ
/-- a walk over the data ds, from F on -/
def WalkD (K : PySem.W.Frag) (F1 : Hp) (J : L2.It) (ds : List D) : Prop := ∃ n G Y, Walk J n G Y ∧ n = ds.length ∧ (∀ F H, Same F1 F → Same F H → G H) ∧
  ∀ i F H x H', i < n → Same F1 F → Same F H → Y i H x H' → ∃ F' d, Grow F H F' H' ∧ Same F' H' ∧ ds[i]? = some d ∧ Rp K F' x d
structure GoalI (K : PySem.W.Frag) (B : Wish) (W : WX) (ast : Option Addr) (F H : Hp) (σ : L2.St) (X : XR) (R : List D → Nat → Prop) (Q : L2.It → Hp → Prop) : Prop where
  ok : ∀ J F' H' ds g, Step ast F H F' H' → Same F' H' → StOk K F' H' ast g → WalkD K F' J ds → R ds g → Q J H'
  ex : ∀ x c F' H' g, Step ast F H F' H' → Same F' H' → StOk K F' H' ast g → X x g → B x c → W c none σ H'
abbrev IW := Ev → Nat → XR → (List D → Nat → Prop) → Prop
def TIm (K : PySem.W.Frag) (B : Wish) (W : WX) (w : IW) : TI := fun σ H Q => ∃ F ast ρ g X R, SRc K F H ast σ ρ g ∧ w ρ g X R ∧ GoalI K B W ast F H σ X R Q
theorem PI.imp {X : Cx} {tg e : Expr} {t t' : TI} (h : PI X tg e t) (i : ∀ σ H Q, t' σ H Q → t σ H Q) : PI X tg e t' := ⟨fun pins s σ H R I q => h.run pins s σ H R I (i σ H R q)⟩
theorem GoalI.sub {K : PySem.W.Frag} {B : Wish} {W : WX} {ast : Option Addr} {F H : Hp} {σ : L2.St} {X : XR} {R : List D → Nat → Prop} {Q : L2.It → Hp → Prop} (G : GoalI K B W ast F H σ X R Q) {ρ : Ev} {g : Nat} (s : SRc K F H ast σ ρ g) {t : Md} {R1 : Rs} {Q1 : VK}
    (ok : ∀ v F' H' d g', Step ast F H F' H' → SRc K F' H' ast σ ρ g' → GoalI K B W ast F' H' σ X R Q → Val K t ast H F' H' v d → R1 d g' → Q1 v H') : Goal K B W t ast F H σ X R1 Q1 :=
  ⟨fun v F' H' d g' st fh so vv r => ok v F' H' d g' st (s.step st fh so)
    ⟨fun J F2 H2 ds g2 s' fh st' wk r => G.ok J F2 H2 ds g2 (st.trans s') fh st' wk r, fun x c F2 H2 g2 s' fh st' q b => G.ex x c F2 H2 g2 (st.trans s') fh st' q b⟩ vv r, G.ex⟩
theorem GoalI.here {K : PySem.W.Frag} {B : Wish} {W : WX} {ast : Option Addr} {F H : Hp} {σ : L2.St} {X : XR} {R : List D → Nat → Prop} {Q : L2.It → Hp → Prop} (G : GoalI K B W ast F H σ X R Q) {ρ : Ev} {g : Nat} (s : SRc K F H ast σ ρ g) {J : L2.It} {ds : List D} (wk : WalkD K F J ds) (r : R ds g) : Q J H :=
  G.ok J F H ds g (Step.refl _ _ _) s.fh s.st wk r
theorem Rp.listInv {K : PySem.W.Frag} {F : Hp} {v : V} {ds : List D} (h : Rp K F v (.list ds)) : ∃ a vs, v = .ref a ∧ SqL K F a vs ∧ RpA K F vs ds := by
  cases h with
  | lst h1 h2 => exact ⟨_, _, rfl, h1, h2⟩
theorem Rp.tupleInv {K : PySem.W.Frag} {F : Hp} {v : V} {ds : List D} (h : Rp K F v (.tuple ds)) : ∃ a vs, v = .ref a ∧ SqT K F a vs ∧ RpA K F vs ds := by
  cases h with
  | tup h1 h2 => exact ⟨_, _, rfl, h1, h2⟩
theorem walkD_list {K : PySem.W.Frag} {F : Hp} {a : Addr} {vs : List V} {ds : List D} (h : SqL K F a vs) (r : RpA K F vs ds) : WalkD K F (Itl K a) ds := by
  refine ⟨_, _, _, walk_list (xs := vs), r.length, fun F1 H s1 s2 => Same.sqL s2 (Same.sqL s1 h), fun i F1 H x H' hi s1 s2 y => ?_⟩
  obtain ⟨e, ex⟩ := y
  subst e
  obtain ⟨d, ed, rd⟩ := r.get' ex
  exact ⟨F1, d, Grow.refl _ _, s2, ed, Rp.mono s1 _ _ rd⟩
theorem walkD_tup {K : PySem.W.Frag} {F : Hp} {a : Addr} {vs : List V} {ds : List D} (h : SqT K F a vs) (r : RpA K F vs ds) : WalkD K F (Itt K a) ds := by
  refine ⟨_, _, _, walk_tup (xs := vs), r.length, fun F1 H s1 s2 => Same.sqT s2 (Same.sqT s1 h), fun i F1 H x H' hi s1 s2 y => ?_⟩
  obtain ⟨e, ex⟩ := y
  subst e
  obtain ⟨d, ed, rd⟩ := r.get' ex
  exact ⟨F1, d, Grow.refl _ _, s2, ed, Rp.mono s1 _ _ rd⟩
theorem range_at {lo hi : Int} {i : Nat} (h : i < (hi - lo).toNat) : (rangeD lo hi)[i]? = some (.int (lo + i)) := by
  unfold rangeD
  rw [List.getElem?_map, List.getElem?_range h]
  rfl
theorem walkD_range {K : PySem.W.Frag} {F : Hp} (lo hi : Int) : WalkD K F (Itr lo (hi - lo).toNat) (rangeD lo hi) := by
  refine ⟨_, _, _, walk_range, by simp [rangeD], fun _ _ _ _ => trivial, fun i F1 H x H' h s1 s2 y => ?_⟩
  obtain ⟨e, ex⟩ := y
  subst e ex
  exact ⟨F1, _, Grow.refl _ _, s2, range_at h, .int _⟩
/-- new pairs -/
theorem walkD_pair {K : PySem.W.Frag} {F : Hp} {J : L2.It} {n : Nat} {G : Hp → Prop} {xs ys : Nat → Option V} {ds : List D} (w : Walk J n G (YPair xs ys)) (hn : n = ds.length) (hG : ∀ F1 H, Same F F1 → Same F1 H → G H)
    (hd : ∀ i x y, i < n → xs i = some x → ys i = some y → ∃ d e, ds[i]? = some (.tuple [d, e]) ∧ Rp K F x d ∧ Rp K F y e) : WalkD K F J ds := by
  refine ⟨_, _, _, w, hn, hG, fun i F1 H x H' hi s1 s2 y => ?_⟩
  obtain ⟨T, x1, x2, e1, e2, e3, e4, e5⟩ := y
  subst e1 e3
  obtain ⟨d, e, ed, r1, r2⟩ := hd i x1 x2 hi e4 e5
  have gr := Grow.laid (o := .tup [x1, x2]) s2 e2
  exact ⟨upd F1 T (.tup [x1, x2]), _, gr, Same.upd2 s2, ed, Rp.tup (SqT.of upd_same) (.cons (Rp.mono (s1.trans gr.same) _ _ r1) (.cons (Rp.mono (s1.trans gr.same) _ _ r2) .nil))⟩
theorem zip_at {xs ys : List D} {i : Nat} {d e : D} (h1 : xs[i]? = some d) (h2 : ys[i]? = some e) : (zipD xs ys)[i]? = some (.tuple [d, e]) := by
  unfold zipD
  rw [List.getElem?_zipWith, h1, h2]
theorem walk_zipT {K : PySem.W.Frag} {a b : Addr} {xs ys : List V} {n : Nat} (hn : n = min xs.length ys.length) : Walk (ItzT K a b) n (fun H => SqT K H a xs ∧ SqT K H b ys) (YPair (fun i => xs[i]?) (fun i => ys[i]?)) where
  goes := fun i H hi q => by
    have h1 : i < xs.length := by omega
    have h2 : i < ys.length := by omega
    exact ⟨xs, ys, xs[i], ys[i], q.1, q.2, by simp [h1], by simp [h2]⟩
  stops := fun H q => ⟨xs, ys, q.1, q.2, by omega⟩
  yields := fun i H v H' _ q y => by
    obtain ⟨T, x, z, h1, h2, h3, h4, h5⟩ := y
    exact ⟨T, x, z, h1, h2, h3, h4 xs q.1, h5 ys q.2⟩
section
variable {X : Cx} {B : Wish} {W : WX} {tg e a b : Expr} {w wa wb : Ev → Nat → XR → Rs → Prop} {pos p : Pos}
/-- a list or a tuple, walked -/
theorem pi_seq {te : TE} (he : PE X e te) : PI X tg e (fun σ H R => te σ H fun x H1 => ∃ a, x = .ref a ∧ (((∃ xs, SqL X.K H1 a xs) ∧ R (Itl X.K a) H1) ∨ ((∃ xs, SqT X.K H1 a xs) ∧ R (Itt X.K a) H1))) := by
  constructor
  intro pins s σ H R I h
  refine thn (he.run pins s σ H _ I h) ?_
  rintro v s1 ⟨x, H1, I1, r1, a, ex, q⟩
  subst ex
  cases r1
  have new : ∀ (ob : Obj), Inv X pins σ H1 { s1 with heap := s1.heap.push ob } := fun ob => I1.kept (t' := s1.toks) fun b o e => Heap.get?_push_of_some _ e
  have fp : ∀ b ∈ [s1.heap.objs.size], FpOk X pins H1 b := fun b hb => by
    obtain rfl := List.mem_singleton.mp hb
    exact I1.fpOk (Nat.le_refl _) (I1.hok.fresh (Nat.le_refl _))
  rcases q with ⟨⟨xs, hq⟩, q⟩ | ⟨⟨xs, hq⟩, q⟩
  · obtain ⟨its, _, pl, _⟩ := I1.list hq
    exact wpAny_pyIter_list pl.isList ⟨_, _, _, _, H1, rfl, new _, turn_list a _, ⟨_, Heap.get?_push_size _ rfl, rfl, rfl⟩, fp, q⟩
  · obtain ⟨its, _, pl, _⟩ := I1.tuple hq
    exact wpAny_pyIter_tuple (show s1.heap.IsTuple a its.toArray from pl) ⟨_, _, _, _, H1, rfl, new _, turn_tuple a _, ⟨_, Heap.get?_push_size _ rfl, rfl, rfl⟩, fp, q⟩
theorem onSeq_some {d : D} {k : List D → Prop} (h : onSeq d k) : ∃ ds, (d = .list ds ∨ d = .tuple ds) ∧ k ds := by
  cases d <;> first | exact False.elim h | exact ⟨_, .inl rfl, h⟩ | exact ⟨_, .inr rfl, h⟩
theorem sndI_of (he : PE X e (TDm X.K B W .st w)) : PI X tg e (TIm X.K B W (fun ρ g XX R => w ρ g XX fun d g1 => onSeq d fun ds => R ds g1)) :=
  PI.imp (pi_seq he) fun σ H Q ⟨F, ast, ρ, g, XX, R, s, q, G⟩ => ⟨F, ast, ρ, g, XX, _, s, q, G.sub s (t := .st) fun v F1 H1 d g1 s1 c1 G1 vv q1 => by
    obtain ⟨ds, e, q1⟩ := onSeq_some q1
    rcases e with e | e
    · subst e
      obtain ⟨a, vs, ev, h1, h2⟩ := Rp.listInv vv
      exact ⟨a, ev, .inl ⟨⟨vs, Same.sqL c1.fh h1⟩, G1.here c1 (walkD_list h1 h2) q1⟩⟩
    · subst e
      obtain ⟨a, vs, ev, h1, h2⟩ := Rp.tupleInv vv
      exact ⟨a, ev, .inr ⟨⟨vs, Same.sqT c1.fh h1⟩, G1.here c1 (walkD_tup h1 h2) q1⟩⟩⟩
theorem GoalI.subL {K : PySem.W.Frag} {B : Wish} {W : WX} {ast : Option Addr} {F H : Hp} {σ : L2.St} {X : XR} {R : List D → Nat → Prop} {Q : L2.It → Hp → Prop} (G : GoalI K B W ast F H σ X R Q) {ρ : Ev} {g : Nat} (s : SRc K F H ast σ ρ g) {t : Md} {R1 : List D → Nat → Prop} {Q1 : List V → Hp → Prop}
    (ok : ∀ v F' H' d g', Step ast F H F' H' → SRc K F' H' ast σ ρ g' → GoalI K B W ast F' H' σ X R Q → ValL K t ast H F' H' v d → R1 d g' → Q1 v H') : GoalL K B W t ast F H σ X R1 Q1 :=
  ⟨fun v F' H' d g' st fh so vv r => ok v F' H' d g' st (s.step st fh so)
    ⟨fun J F2 H2 ds g2 s' fh st' wk r => G.ok J F2 H2 ds g2 (st.trans s') fh st' wk r, fun x c F2 H2 g2 s' fh st' q b => G.ex x c F2 H2 g2 (st.trans s') fh st' q b⟩ vv r, G.ex⟩
theorem onInt2_some {d e : D} {k : Int → Int → Prop} (h : onInt2 d e k) : ∃ i j, d = .int i ∧ e = .int j ∧ k i j := by
  cases d <;> cases e <;> first | exact False.elim h | exact ⟨_, _, rfl, rfl, h⟩
theorem sndI_range1 (hg : Gl X "range") (hm : X.mg "range" = none) (ha : PE X a (TDm X.K B W .tp wa)) (hs : starEach [a] X.env = [(false, eval a X.env)]) :
    PI X tg (.Call (.Name "range" p) [a] [] pos) (TIm X.K B W (fun ρ g XX R => wa ρ g XX fun d g1 => onInt d fun j => (-(2 ^ 62) ≤ j ∧ j < 2 ^ 62) ∧ R (rangeD 0 j) g1)) :=
  PI.imp (pi_range1 hg hm (pa_cons ha pa_nil hs) hs) fun σ H Q ⟨F, ast, ρ, g, XX, R, s, q, G⟩ => ⟨F, ast, ρ, g, XX, _, s, q, G.sub s (t := .tp) fun v F1 H1 d g1 s1 c1 G1 vv q1 => by
    obtain ⟨j, rfl, q1⟩ := onInt_some q1
    cases Top.int vv
    have wk : WalkD X.K F1 (Itr 0 j.toNat) (rangeD 0 j) := by
      have q := walkD_range (K := X.K) (F := F1) 0 j
      rw [Int.sub_zero] at q
      exact q
    exact ⟨j, rfl, q1.1.1, q1.1.2, G1.here c1 wk q1.2⟩⟩
theorem sndI_range (hg : Gl X "range") (hm : X.mg "range" = none) (ha : PE X a (TDm X.K B W .tp wa)) (hb : PE X b (TDm X.K B W .tp wb)) (hs : starEach [a, b] X.env = [(false, eval a X.env), (false, eval b X.env)]) (hs2 : starEach [b] X.env = [(false, eval b X.env)]) :
    PI X tg (.Call (.Name "range" p) [a, b] [] pos) (TIm X.K B W (fun ρ g XX R => wa ρ g XX fun x g1 => wb ρ g1 XX fun y g2 => onInt2 x y fun i j => (-(2 ^ 62) ≤ i ∧ i < 2 ^ 62 ∧ -(2 ^ 62) ≤ j ∧ j < 2 ^ 62) ∧ R (rangeD i j) g2)) :=
  PI.imp (pi_range2 hg hm (pa_cons ha (pa_cons hb pa_nil hs2) (by rw [hs, hs2])) hs hs2) fun σ H Q ⟨F, ast, ρ, g, XX, R, s, q, G⟩ => ⟨F, ast, ρ, g, XX, _, s, q, G.sub s (t := .tp) fun v F1 H1 d g1 s1 c1 G1 vv q1 =>
    ⟨F1, ast, ρ, g1, XX, _, c1, q1, G1.sub c1 (t := .tp) fun u F2 H2 e g2 s2 c2 G2 uu q2 => by
      obtain ⟨i, j, rfl, rfl, q2⟩ := onInt2_some q2
      cases Top.int vv
      cases Top.int uu
      exact ⟨i, j, rfl, q2.1, G2.here c2 (walkD_range i j) q2.2⟩⟩⟩
theorem onSeqs_some {d e : D} {k : List D → List D → Prop} (h : onSeqs d e k) : ∃ i j, ((d = .list i ∧ e = .list j) ∨ (d = .tuple i ∧ e = .tuple j)) ∧ k i j := by
  cases d <;> cases e <;> first | exact False.elim h | exact ⟨_, _, .inl ⟨rfl, rfl⟩, h⟩ | exact ⟨_, _, .inr ⟨rfl, rfl⟩, h⟩
theorem pairs_at {K : PySem.W.Frag} {F : Hp} {vs us : List V} {ds es : List D} (r1 : RpA K F vs ds) (r2 : RpA K F us es) (i : Nat) (x y : V) (h1 : vs[i]? = some x) (h2 : us[i]? = some y) : ∃ d e, (zipD ds es)[i]? = some (.tuple [d, e]) ∧ Rp K F x d ∧ Rp K F y e := by
  obtain ⟨d, ed, rd⟩ := r1.get' h1
  obtain ⟨e, ee, re⟩ := r2.get' h2
  exact ⟨d, e, zip_at ed ee, rd, re⟩
theorem zipD_len (xs ys : List D) : (zipD xs ys).length = min xs.length ys.length := by simp [zipD]
theorem sndI_zip {elts : List Expr} {kk : Nat} {tpos : Pos} (hg : Gl X "zip") (hm : X.mg "zip" = none) (ha : PE X a (TDm X.K B W .st wa)) (hb : PE X b (TDm X.K B W .st wb)) (hs : starEach [a, b] X.env = (false, eval a X.env) :: starEach [b] X.env) (hs2 : starEach [b] X.env = [(false, eval b X.env)]) :
    PI X (.Tuple elts kk tpos) (.Call (.Name "zip" p) [a, b] [] pos) (TIm X.K B W (fun ρ g XX R => wa ρ g XX fun x g1 => wb ρ g1 XX fun y g2 => onSeqs x y fun xs ys => R (zipD xs ys) g2)) :=
  PI.imp (pi_zipA hg hm (pa_cons ha (pa_cons hb pa_nil hs2) hs) hs (by rw [hs2]; rfl)) fun σ H Q ⟨F, ast, ρ, g, XX, R, s, q, G⟩ => ⟨F, ast, ρ, g, XX, _, s, q, G.sub s (t := .st) fun v F1 H1 d g1 s1 c1 G1 vv q1 =>
    ⟨F1, ast, ρ, g1, XX, _, c1, q1, G1.sub c1 (t := .st) fun u F2 H2 e g2 s2 c2 G2 uu q2 => by
      obtain ⟨xs, ys, e, q2⟩ := onSeqs_some q2
      rcases e with ⟨e1, e2⟩ | ⟨e1, e2⟩
      · subst e1 e2
        obtain ⟨a, vs, ev, h1, r1⟩ := Rp.listInv (Rp.mono s2.same _ _ vv)
        obtain ⟨b, us, eu, h2, r2⟩ := Rp.listInv uu
        refine ⟨a, b, vs, us, by rw [ev, eu], .inl ⟨Same.sqL c2.fh h1, Same.sqL c2.fh h2, G2.here c2 ?_ q2⟩⟩
        exact walkD_pair (walk_zip rfl) (by rw [zipD_len, r1.length, r2.length]) (fun F1 H s1 s2 => ⟨Same.sqL s2 (Same.sqL s1 h1), Same.sqL s2 (Same.sqL s1 h2)⟩) fun i x y _ e1 e2 => pairs_at r1 r2 i x y e1 e2
      · subst e1 e2
        obtain ⟨a, vs, ev, h1, r1⟩ := Rp.tupleInv (Rp.mono s2.same _ _ vv)
        obtain ⟨b, us, eu, h2, r2⟩ := Rp.tupleInv uu
        refine ⟨a, b, vs, us, by rw [ev, eu], .inr ⟨Same.sqT c2.fh h1, Same.sqT c2.fh h2, G2.here c2 ?_ q2⟩⟩
        exact walkD_pair (walk_zipT rfl) (by rw [zipD_len, r1.length, r2.length]) (fun F1 H s1 s2 => ⟨Same.sqT s2 (Same.sqT s1 h1), Same.sqT s2 (Same.sqT s1 h2)⟩) fun i x y _ e1 e2 => pairs_at r1 r2 i x y e1 e2⟩⟩
theorem onList_some {d : D} {k : List D → Prop} (h : onList d k) : ∃ i, d = .list i ∧ k i := by
  cases d <;> first | exact False.elim h | exact ⟨_, rfl, h⟩
theorem sndI_enum {elts : List Expr} {kk : Nat} {tpos : Pos} (hg : Gl X "enumerate") (hm : X.mg "enumerate" = none) (ha : PE X a (TDm X.K B W .st wa)) (hs : starEach [a] X.env = [(false, eval a X.env)]) :
    PI X (.Tuple elts kk tpos) (.Call (.Name "enumerate" p) [a] [] pos) (TIm X.K B W (fun ρ g XX R => wa ρ g XX fun x g1 => onList x fun xs => R (enumD xs) g1)) :=
  PI.imp (pi_enum hg hm (pa_cons ha pa_nil hs) hs) fun σ H Q ⟨F, ast, ρ, g, XX, R, s, q, G⟩ => ⟨F, ast, ρ, g, XX, _, s, q, G.sub s (t := .st) fun v F1 H1 d g1 s1 c1 G1 vv q1 => by
    obtain ⟨xs, rfl, q1⟩ := onList_some q1
    obtain ⟨a, vs, ev, h1, r1⟩ := Rp.listInv vv
    refine ⟨a, vs, by rw [ev], Same.sqL c1.fh h1, G1.here c1 ?_ q1⟩
    refine walkD_pair (walk_enum (xs := vs)) (by simp [enumD, zipD_len, r1.length]) (fun F1 H s1 s2 => Same.sqL s2 (Same.sqL s1 h1)) fun i x y hi e1 e2 => ?_
    obtain ⟨d, ed, rd⟩ := r1.get' e2
    cases e1
    refine ⟨.int i, d, zip_at ?_ ed, .int _, rd⟩
    rw [List.getElem?_map, List.getElem?_range (by rw [← r1.length]; exact hi)]
    rfl⟩
end
end Dz
set_option Elab.async false
set_option linter.all false
set_option maxRecDepth 100000
/-! Dz: targets, comprehensions. -/
namespace Dz
open PySem PySem.Spec PyProof.Rows L2
/-! ### slots stored -/
theorem SlOk.setF {K : PySem.W.Frag} {F H : Hp} {ast : Option Addr} {σ : L2.St} {ρ : Ev} (s : SlOk K F H ast σ ρ) {i : Nat} {v : V} {d : D} (r : Rp K F v d) : SlOk K F H ast (σ.set i (some v)) (setD ρ i d) where
  len := by rw [List.length_set]; unfold setD; rw [List.length_set]; exact s.len
  at_ := fun j sv e => by
    unfold setD at e
    by_cases hj : i = j
    · subst hj
      by_cases hl : i < ρ.length
      · rw [List.getElem?_set_self hl] at e
        cases e
        exact ⟨some v, by rw [List.getElem?_set_self (by rw [s.len]; exact hl)], v, rfl, r⟩
      · rw [List.getElem?_eq_none (by rw [List.length_set]; omega)] at e
        cases e
    · rw [List.getElem?_set_ne hj] at e ⊢
      exact s.at_ j sv e
  apart := fun j k d1 d2 a hjk e1 e2 h1 h2 => by
    unfold setD at e1 e2
    have no : ∀ {m d'}, (ρ.set i (.fz d))[m]? = some (.ow d') → i ≠ m := fun {m d'} e z => by
      subst z
      by_cases hl : i < ρ.length
      · rw [List.getElem?_set_self hl] at e; cases e
      · rw [List.getElem?_eq_none (by rw [List.length_set]; omega)] at e; cases e
    have n1 := no e1
    have n2 := no e2
    rw [List.getElem?_set_ne n1] at e1 h1
    rw [List.getElem?_set_ne n2] at e2 h2
    exact s.apart j k d1 d2 a hjk e1 e2 h1 h2
theorem SlOk.setU {K : PySem.W.Frag} {F H : Hp} {ast : Option Addr} {σ : L2.St} {ρ : Ev} (s : SlOk K F H ast σ ρ) {i : Nat} {x : Option V} : SlOk K F H ast (σ.set i x) (ρ.set i .un) where
  len := by rw [List.length_set, List.length_set]; exact s.len
  at_ := fun j sv e => by
    by_cases hj : i = j
    · subst hj
      by_cases hl : i < ρ.length
      · rw [List.getElem?_set_self hl] at e
        cases e
        exact ⟨x, by rw [List.getElem?_set_self (by rw [s.len]; exact hl)], trivial⟩
      · rw [List.getElem?_eq_none (by rw [List.length_set]; omega)] at e
        cases e
    · rw [List.getElem?_set_ne hj] at e ⊢
      exact s.at_ j sv e
  apart := fun j k d1 d2 a hjk e1 e2 h1 h2 => by
    have no : ∀ {m d'}, (ρ.set i .un)[m]? = some (.ow d') → i ≠ m := fun {m d'} e z => by
      subst z
      by_cases hl : i < ρ.length
      · rw [List.getElem?_set_self hl] at e; cases e
      · rw [List.getElem?_eq_none (by rw [List.length_set]; omega)] at e; cases e
    have n1 := no e1
    have n2 := no e2
    rw [List.getElem?_set_ne n1] at e1 h1
    rw [List.getElem?_set_ne n2] at e2 h2
    exact s.apart j k d1 d2 a hjk e1 e2 h1 h2
theorem SlOk.wiped {K : PySem.W.Frag} {F H : Hp} {ast : Option Addr} {σ : L2.St} {ρ : Ev} (s : SlOk K F H ast σ ρ) : ∀ vs : List Nat, SlOk K F H ast (wipe σ vs) (wipeE ρ vs)
  | [] => s
  | v :: vs => (s.wiped vs).setU
theorem wipe_at (σ : L2.St) (j : Nat) : ∀ vs : List Nat, (wipe σ vs)[j]? = if j ∈ vs then σ[j]?.map (fun _ => none) else σ[j]?
  | [] => by rw [if_neg (by simp)]; rfl
  | v :: vs => by
    show ((wipe σ vs).set v none)[j]? = _
    by_cases h : v = j
    · subst h
      rw [if_pos (by simp)]
      by_cases hl : v < σ.length
      · rw [List.getElem?_set_self (by rw [wipe_length]; exact hl), List.getElem?_eq_getElem hl]; rfl
      · rw [List.getElem?_eq_none (by rw [List.length_set, wipe_length]; omega), List.getElem?_eq_none (by omega)]; rfl
    · rw [List.getElem?_set_ne h, wipe_at σ j vs]
      by_cases hm : j ∈ vs
      · rw [if_pos hm, if_pos (by simp [hm])]
      · rw [if_neg hm, if_neg (by simp only [List.mem_cons, not_or]; exact ⟨fun e => h e.symm, hm⟩)]
theorem wipe_wipe (σ : L2.St) (vs : List Nat) : wipe (wipe σ vs) vs = wipe σ vs := List.ext_getElem? fun j => by
  rw [wipe_at, wipe_at]
  by_cases h : j ∈ vs
  · simp only [if_pos h]
    cases σ[j]? <;> rfl
  · simp only [if_neg h]
theorem wipe_set {σ : L2.St} {vs : List Nat} {i : Nat} {x : Option V} (h : i ∈ vs) : wipe (σ.set i x) vs = wipe σ vs := List.ext_getElem? fun j => by
  rw [wipe_at, wipe_at]
  by_cases hj : j ∈ vs
  · rw [if_pos hj, if_pos hj]
    by_cases e : i = j
    · subst e
      by_cases hl : i < σ.length
      · rw [List.getElem?_set_self hl, List.getElem?_eq_getElem hl]; rfl
      · rw [List.getElem?_eq_none (by rw [List.length_set]; omega), List.getElem?_eq_none (by omega)]
    · rw [List.getElem?_set_ne e]
  · rw [if_neg hj, if_neg hj]
    exact List.getElem?_set_ne fun (e : i = j) => hj (by rw [← e]; exact h)

/-! ### targets -/
def gNs : List Nat → TGs
  | [] => gNil
  | i :: is => gCons (gName i) (gNs is)
def tgG (K : PySem.W.Frag) : Tg → TG
  | .v i => gName i
  | .t is => gTup K is.length (gNs is)
def Tg.has : Tg → List Nat
  | .v i => [i]
  | .t is => is
/-- each target's slot is among vs: what is wiped stays -/
theorem gNs_ok {K : PySem.W.Frag} {F H : Hp} {ast : Option Addr} (Q : L2.St → Hp → Prop) : ∀ (is : List Nat) (vs : List V) (ds : List D) (σ : L2.St) (ρ ρ' : Ev), SlOk K F H ast σ ρ → RpA K F vs ds → setAll ρ is ds = some ρ' →
    (∀ σ', SlOk K F H ast σ' ρ' → (∀ us : List Nat, (∀ i ∈ is, i ∈ us) → wipe σ' us = wipe σ us) → Q σ' H) → gNs is vs σ H Q
  | [], vs, [], σ, ρ, ρ', s, r, e, k => by
    cases r
    cases e
    exact ⟨rfl, k σ s fun _ _ => rfl⟩
  | [], vs, _ :: _, σ, ρ, ρ', s, r, e, k => by cases e
  | i :: is, vs, [], σ, ρ, ρ', s, r, e, k => by cases e
  | i :: is, vs, d :: ds, σ, ρ, ρ', s, r, e, k => by
    cases r with
    | cons r1 r2 =>
      refine ⟨_, _, rfl, gNs_ok Q is _ ds _ _ ρ' (s.setF r1) r2 e fun σ' s' w => k σ' s' fun us hu => ?_⟩
      rw [w us fun j hj => hu j (List.mem_cons_of_mem _ hj), wipe_set (hu i (List.mem_cons_self ..))]
theorem tgG_ok {K : PySem.W.Frag} {F H : Hp} {ast : Option Addr} (fh : Same F H) {Q : L2.St → Hp → Prop} {t : Tg} {x : V} {d : D} {σ : L2.St} {ρ ρ' : Ev} (s : SlOk K F H ast σ ρ) (r : Rp K F x d) (e : bindT t d ρ = some ρ')
    (k : ∀ σ', SlOk K F H ast σ' ρ' → (∀ us : List Nat, (∀ i ∈ t.has, i ∈ us) → wipe σ' us = wipe σ us) → Q σ' H) : tgG K t x σ H Q := by
  cases t with
  | v i =>
    cases e
    exact k _ (s.setF r) fun us hu => wipe_set (hu i (List.mem_singleton.mpr rfl))
  | t is =>
    cases d <;> first | (cases e; done) | skip
    obtain ⟨a, vs, ev, h1, h2⟩ := Rp.tupleInv r
    have hl : ∀ (is : List Nat) (ds : List D) (ρ : Ev), setAll ρ is ds = some ρ' → is.length = ds.length := by
      intro is
      induction is with
      | nil => intro ds ρ e; cases ds <;> first | rfl | cases e
      | cons i is ih =>
        intro ds ρ e
        cases ds with
        | nil => cases e
        | cons d ds => rw [List.length_cons, List.length_cons, ih ds _ e]
    exact ⟨a, vs, ev, Same.sqT fh h1, by rw [h2.length]; exact (hl is _ ρ e).symm, gNs_ok Q is vs _ σ ρ ρ' s h2 e k⟩
/-- a name that may be stored here: a local, or a cell that is made here -/
def stoB (fnb : Str → Bool) (sc : Scope) (x : Str) : Bool := sc.names.lookup x == some .local || (sc.names.lookup x == some .cell && fnb x)
/-- the written names of a target -/
def isNames (fnb : Str → Bool) (N : List Str) (sc : Scope) : List Nat → List Expr → Bool
  | [], [] => true
  | i :: is, .Name x _ :: es => N[i]? == some x && stoB fnb sc x && isNames fnb N sc is es
  | _, _ => false
def isTg (fnb : Str → Bool) (N : List Str) (sc : Scope) : Tg → Expr → Bool
  | .v i, .Name x _ => N[i]? == some x && stoB fnb sc x
  | .t is, .Tuple es _ _ => isNames fnb N sc is es
  | _, _ => false
theorem eqO_of {α : Type} [BEq α] [LawfulBEq α] {a b : Option α} (h : (a == b) = true) : a = b := eq_of_beq h
theorem sto_of {X : Cx} {fnb : Str → Bool} (hf : ∀ x, fnb x = true → X.fn x = true) {x : Str} (h : stoB fnb X.env.scope x = true) : Loc X.env.scope x ∧ (X.fn x = true ∨ X.env.scope.names.lookup x = some .local) := by
  unfold stoB at h
  rw [Bool.or_eq_true, Bool.and_eq_true] at h
  rcases h with h | ⟨h, h2⟩
  · exact ⟨.inl (eqO_of h), .inr (eqO_of h)⟩
  · exact ⟨.inr (eqO_of h), .inl (hf x h2)⟩
theorem names_each {X : Cx} {fnb : Str → Bool} : ∀ (is : List Nat) (es : List Expr), isNames fnb X.N X.env.scope is es = true → (assignEach es X.env).length = is.length ∧ (assignEach es X.env).findIdx? (·.1) = none
  | [], [], _ => ⟨rfl, rfl⟩
  | [], _ :: _, h => by cases h
  | _ :: _, [], h => by cases h
  | i :: is, e :: es, h => by
    cases e <;> first | (cases h; done) | skip
    unfold isNames at h
    rw [Bool.and_eq_true] at h
    obtain ⟨h1, h2⟩ := names_each is es h.2
    refine ⟨by show (assignEach es X.env).length + 1 = is.length + 1; rw [h1], ?_⟩
    show ((false, _) :: assignEach es X.env).findIdx? (·.1) = none
    rw [List.findIdx?_cons, h2]
    rfl
theorem names_ok {X : Cx} {fnb : Str → Bool} (hf : ∀ x, fnb x = true → X.fn x = true) (nd : X.N.Nodup) : ∀ (is : List Nat) (es : List Expr), isNames fnb X.N X.env.scope is es = true → PGs X es (gNs is)
  | [], [], _ => pgs_nil
  | [], _ :: _, h => by cases h
  | _ :: _, [], h => by cases h
  | i :: is, e :: es, h => by
    cases e <;> first | (cases h; done) | skip
    unfold isNames at h
    rw [Bool.and_eq_true, Bool.and_eq_true] at h
    obtain ⟨h1, h2⟩ := sto_of hf h.1.2
    exact pgs_cons (pg_name nd (eqO_of h.1.1) h1 h2) (names_ok hf nd is es h.2) rfl
theorem tg_ok {X : Cx} {fnb : Str → Bool} (hf : ∀ x, fnb x = true → X.fn x = true) (nd : X.N.Nodup) (hc : X.calm = true) {t : Tg} {e : Expr} (h : isTg fnb X.N X.env.scope t e = true) : PG X e (tgG X.K t) := by
  cases t with
  | v i =>
    cases e <;> first | (cases h; done) | skip
    unfold isTg at h
    rw [Bool.and_eq_true] at h
    obtain ⟨h1, h2⟩ := sto_of hf h.2
    exact pg_name nd (eqO_of h.1) h1 h2
  | t is =>
    cases e <;> first | (cases h; done) | skip
    unfold isTg at h
    obtain ⟨h1, h2⟩ := names_each is _ h
    exact pg_tup hc (names_ok hf nd is _ h) h1 h2

/-! ### comprehensions -/
def noW : WX := fun _ _ _ _ => False
/-- the tests of a clause -/
theorem sndC_nil {X : Cx} {B : Wish} {W : WX} : PTs X [] (TTm X.K B W (fun _ g _ R => R true g)) :=
  ⟨fun pins s σ H Q I ⟨F, ast, ρ, g, XX, R, c, q, G⟩ => pts_nil.run pins s σ H Q I (show Q true H from G.here c q)⟩
theorem sndC_one {X : Cx} {B : Wish} {W : WX} {c : Expr} {w : Ev → Nat → XR → Rs → Prop} (h : PT X c (TTm X.K B W (tst w))) : PTs X [c] (TTm X.K B W (fun ρ g XX R => w ρ g XX (onBool fun t g1 => if t = true then R true g1 else R false g1))) := by
  refine ⟨fun pins s σ H Q I ⟨F, ast, ρ, g, XX, R, cc, q, G⟩ => (pts_one h).run pins s σ H Q I ⟨F, ast, ρ, g, XX, _, cc, q, G.goB cc fun v F' H' g' s1 c1 G1 q1 => ?_⟩⟩
  cases v with
  | true => exact G1.here c1 q1
  | false => exact G1.here c1 q1
abbrev CW := Ev → Nat → XR → (Bool → Nat → Prop) → Prop
/-- one element of a comprehension -/
def stepC (tg : Tg) (wc : CW) (we : Ev → Nat → XR → Rs → Prop) (ρw : Ev) : D → Nat → (Option D → Nat → Prop) → Prop := fun d g k => ∃ ρ', bindT tg d ρw = some ρ' ∧ wc ρ' g noX fun t g1 => if t = true then we ρ' g1 noX fun y g2 => k (some y) g2 else k none g1
theorem comp_ok {K : PySem.W.Frag} {B : Wish} {W : WX} {wi : IW} {tg : Tg} {wc : CW} {we : Ev → Nat → XR → Rs → Prop} {own : List Nat} (htg : ∀ i ∈ tg.has, i ∈ own) {σ : L2.St} {H : Hp} {Q : VK}
    (h : TDm K B W .fr (fun ρ g XX R => wi ρ g XX fun ds g0 => loopC (stepC tg wc we (wipeE ρ own)) ds [] g0 fun r g1 => R (.list r) g1) σ H Q) :
    tLc (TIm K B W wi) (tgG K tg) (TTm K B noW wc) (TDm K B noW .st we) own σ H Q := by
  obtain ⟨F, ast, ρ, g, XX, R, s, q, G⟩ := h
  refine ⟨F, ast, ρ, g, XX, _, s, q, ⟨fun J F1 H1 ds g0 s1 fh1 st1 wk q1 => ?_, G.ex⟩⟩
  intro Dn hD
  obtain ⟨n, GG, Y, wa, hn, hG, hY⟩ := wk
  have c1 := s.step s1 fh1 st1
  have fD : F1 Dn = none := fh1.free hD
  have nD : ast ≠ some Dn := fun z => by
    rw [z] at st1
    obtain ⟨_, b, c, y, ys, h1, _⟩ := st1
    rw [hD] at h1
    cases h1
  refine lc_it wa (fun i H => ∃ F2 g' acc vs, Step ast F1 H1 F2 H ∧ Same F2 H ∧ StOk K F2 H ast g' ∧ F2 Dn = none ∧ H Dn = some (.lst vs) ∧ RpA K F2 vs acc ∧ loopC (stepC tg wc we (wipeE ρ own)) (ds.drop i) acc g' fun r g1 => R (.list r) g1)
    ⟨F1, g0, [], [], (Grow.fresh fh1 hD).step, Same.updR fh1 fD, (Grow.fresh fh1 hD).st st1, fD, upd_same, .nil, q1⟩
    (fun i H _ ⟨F2, g', acc, vs, st2, fh2, _⟩ => hG F2 H st2.same fh2) (fun i x H2 H' hi pv y => ?_) (fun H2 pv => ?_)
  · obtain ⟨F2, g', acc, vs, st2, fh2, so2, f2, h2, r2, lp⟩ := pv
    obtain ⟨F3, d, gr, fh3, ed, rd⟩ := hY i F2 H2 x H' hi st2.same fh2 y
    have hlt : i < ds.length := hn ▸ hi
    have ed' : ds[i] = d := by
      rw [List.getElem?_eq_getElem hlt] at ed
      exact Option.some.inj ed
    rw [List.drop_eq_getElem_cons hlt, ed'] at lp
    obtain ⟨ρ', eb, lp⟩ := lp
    have st3 := st2.trans (gr.step (ast := ast))
    have so3 := gr.st so2
    have h3 : H' Dn = some (.lst vs) := gr.pres _ _ h2
    have f3 : F3 Dn = none := gr.new Dn (by rw [h2]; exact fun z => nomatch z) f2
    have sl := ((c1.sl.step st3).wiped own)
    refine tgG_ok fh3 sl rd eb fun σ2 s2 hw => ⟨(hw own htg).trans (wipe_wipe σ own), ?_⟩
    have c3 : SRc K F3 H' ast σ2 ρ' g' := ⟨fh3, so3, s2⟩
    have fin : ∀ {F' H' : Hp}, Step ast F3 H' F' H' → True := fun _ => trivial
    refine ⟨F3, ast, ρ', g', noX, _, c3, lp, ⟨fun b F4 H4 g4 st4 fh4 so4 q4 => ?_, fun x c F' H' g s fh so z => False.elim z⟩⟩
    have h4 : H4 Dn = some (.lst vs) := st4.pres _ _ h3 nD
    have f4 : F4 Dn = none := st4.new Dn (by rw [h3]; exact fun z => nomatch z) f3 nD
    have r4 : RpA K F4 vs acc := RpA.mono ((gr.same).trans st4.same) _ _ r2
    cases b with
    | false => exact ⟨F4, g4, acc, vs, st3.trans st4, fh4, so4, f4, h4, r4, q4⟩
    | true =>
      refine ⟨F4, ast, ρ', g4, noX, _, c3.step st4 fh4 so4, q4, ⟨fun v F5 H5 y g5 st5 fh5 so5 vv q5 => ?_, fun x c F' H' g s fh so z => False.elim z⟩⟩
      have h5 : H5 Dn = some (.lst vs) := st5.pres _ _ h4 nD
      have f5 : F5 Dn = none := st5.new Dn (by rw [h4]; exact fun z => nomatch z) f4 nD
      have r5 : RpA K F5 vs acc := RpA.mono st5.same _ _ r4
      refine ⟨vs, h5, by rw [r5.length]; exact q5.1, F5, g5, acc ++ [y], vs ++ [v], ?_, Same.updR fh5 f5, ?_, f5, upd_same, r5.append (.cons vv .nil), q5.2⟩
      · have st := (st3.trans st4).trans st5
        exact ⟨st.same, fun b o e nb => by
          have hb : b ≠ Dn := fun z => by rw [z, hD] at e; cases e
          rw [upd_ne hb]
          exact st.pres b o e nb, st.new⟩
      · cases ast with
        | none => exact so5
        | some a =>
          obtain ⟨fa, b, c, y, ys, e1, e2⟩ := so5
          exact ⟨fa, b, c, y, ys, by rw [upd_ne (fun z => nD (by rw [z]))]; exact e1, e2⟩
  · obtain ⟨F2, g', acc, vs, st2, fh2, so2, f2, h2, r2, lp⟩ := pv
    rw [hn, List.drop_length] at lp
    exact G.ok (.ref Dn) F2 H2 (.list acc) g' (s1.trans st2) fh2 so2 ⟨Dn, rfl, s1.none_back nD hD, nD, f2, .inl ⟨vs, acc, rfl, h2, r2⟩⟩ lp
end Dz
set_option Elab.async false
set_option linter.all false
set_option maxRecDepth 100000
/-! Dz: statements, blocks, loops. -/
namespace Dz
open PySem PySem.Spec PyProof.Rows L2
/-- a state of a def's body: Hi, Fi, a0 as at the entry -/
structure SR (K : PySem.W.Frag) (mk : Bool) (Fb Fi Hi : Hp) (a0 ast : Option Addr) (F H : Hp) (σ : L2.St) (ρ : Ev) (g : Nat) : Prop where
  c : SRc K F H ast σ ρ g
  i : Step a0 Fi Hi F H
  a : ast = a0 ∨ (mk = true ∧ a0 = none ∧ ∀ x, ast = some x → Hi x = none)
  own : ∀ (j : Nat) d x, ρ[j]? = some (.ow d) → σ[j]? = some (some (V.ref x)) → Hi x = none
  b : Same Fb F
theorem SR.notAst {K : PySem.W.Frag} {mk : Bool} {Fb Fi Hi : Hp} {a0 ast : Option Addr} {F H : Hp} {σ : L2.St} {ρ : Ev} {g : Nat} (s : SR K mk Fb Fi Hi a0 ast F H σ ρ g) {b : Addr} (h : Hi b ≠ none) (n : a0 ≠ some b) : ast ≠ some b := by
  rcases s.a with e | ⟨_, _, e⟩
  · rw [e]; exact n
  · exact fun z => h (e b z)
theorem SR.later {K : PySem.W.Frag} {mk : Bool} {Fb Fi Hi : Hp} {a0 ast : Option Addr} {F H F' H' : Hp} {σ : L2.St} {ρ : Ev} {g g' : Nat} (s : SR K mk Fb Fi Hi a0 ast F H σ ρ g) (t : Step ast F H F' H') : Step a0 Fi Hi F' H' where
  same := s.i.same.trans t.same
  pres := fun b o h n => t.pres b o (s.i.pres b o h n) (s.notAst (by rw [h]; exact fun z => nomatch z) n)
  new := fun b h f n => by
    have q : H b ≠ none := by
      cases e : Hi b with
      | none => exact absurd e h
      | some o => rw [s.i.pres b o e n]; exact fun z => nomatch z
    exact t.new b q (s.i.new b h f n) (s.notAst h n)
theorem SR.step {K : PySem.W.Frag} {mk : Bool} {Fb Fi Hi : Hp} {a0 ast : Option Addr} {F H F' H' : Hp} {σ : L2.St} {ρ : Ev} {g g' : Nat} (s : SR K mk Fb Fi Hi a0 ast F H σ ρ g) (t : Step ast F H F' H') (c : SRc K F' H' ast σ ρ g') : SR K mk Fb Fi Hi a0 ast F' H' σ ρ g' :=
  ⟨c, s.later (g' := g') t, s.a, s.own, s.b.trans t.same⟩
/-- what was nothing now was nothing at the entry -/
theorem SR.was {K : PySem.W.Frag} {mk : Bool} {Fb Fi Hi : Hp} {a0 ast : Option Addr} {F H : Hp} {σ : L2.St} {ρ : Ev} {g : Nat} (s : SR K mk Fb Fi Hi a0 ast F H σ ρ g) {b : Addr} (h : H b = none) : Hi b = none := by
  cases e : Hi b with
  | none => rfl
  | some o =>
    by_cases n : a0 = some b
    · have z : ast = some b := by
        rcases s.a with q | ⟨_, q, _⟩
        · rw [q]; exact n
        · rw [q] at n; cases n
      have st := s.c.st
      rw [z] at st
      obtain ⟨_, _, _, _, _, h1, _⟩ := st
      rw [h] at h1
      cases h1
    · rw [s.i.pres b o e n] at h
      cases h
/-- what a body is to reach -/
structure GoalS (K : PySem.W.Frag) (B : Wish) (W : WX) (mk : Bool) (Fb Fi Hi : Hp) (a0 : Option Addr) (X : XR) (k : Kt) (N : Ends) : Prop where
  nx : ∀ σ F H ast ρ g, SR K mk Fb Fi Hi a0 ast F H σ ρ g → k.nx ρ g → N.nx σ H
  bk : ∀ σ F H ast ρ g, SR K mk Fb Fi Hi a0 ast F H σ ρ g → k.bk ρ g → N.bk σ H
  ct : ∀ σ F H ast ρ g, SR K mk Fb Fi Hi a0 ast F H σ ρ g → k.ct ρ g → N.ct σ H
  rt : ∀ v d F H ast g, Step a0 Fi Hi F H → Same F H → StOk K F H ast g → (ast = a0 ∨ (mk = true ∧ a0 = none ∧ ∀ x, ast = some x → Hi x = none)) → Rp K F v d → k.rt d g → N.rt v H
  ex : ∀ x c F H ast σ g, Step a0 Fi Hi F H → Same F H → StOk K F H ast g → (ast = a0 ∨ (mk = true ∧ a0 = none ∧ ∀ x, ast = some x → Hi x = none)) → X x g → B x c → W c none σ H
abbrev SW := Ev → Nat → XR → Kt → Prop
def TSm (K : PySem.W.Frag) (B : Wish) (W : WX) (mk : Bool) (w : SW) : TS := fun N σ H => ∃ Fb Fi Hi a0 ast F ρ g X k, SR K mk Fb Fi Hi a0 ast F H σ ρ g ∧ w ρ g X k ∧ GoalS K B W mk Fb Fi Hi a0 X k N
section
variable {K : PySem.W.Frag} {B : Wish} {W : WX} {mk : Bool} {Fb Fi Hi F H : Hp} {a0 ast : Option Addr} {X : XR} {k : Kt} {N : Ends} {σ : L2.St} {ρ : Ev} {g : Nat}
/-- an expression's goal within a body -/
theorem GoalS.expr (G : GoalS K B W mk Fb Fi Hi a0 X k N) (s : SR K mk Fb Fi Hi a0 ast F H σ ρ g) {md : Md} {R : Rs} {Q : VK} (ok : ∀ v F' H' d g', SR K mk Fb Fi Hi a0 ast F' H' σ ρ g' → Step ast F H F' H' → Val K md ast H F' H' v d → R d g' → Q v H') : Goal K B W md ast F H σ X R Q :=
  ⟨fun v F' H' d g' t fh st vv r => ok v F' H' d g' (s.step t (s.c.step t fh st)) t vv r, fun x c F' H' g' t fh st q b => G.ex x c F' H' ast σ g' (s.later (g' := g') t) fh st s.a q b⟩
theorem GoalS.exprB (G : GoalS K B W mk Fb Fi Hi a0 X k N) (s : SR K mk Fb Fi Hi a0 ast F H σ ρ g) {R : Bool → Nat → Prop} {Q : Bool → Hp → Prop} (ok : ∀ v F' H' g', SR K mk Fb Fi Hi a0 ast F' H' σ ρ g' → R v g' → Q v H') : GoalB K B W ast F H σ X R Q :=
  ⟨fun v F' H' g' t fh st r => ok v F' H' g' (s.step t (s.c.step t fh st)) r, fun x c F' H' g' t fh st q b => G.ex x c F' H' ast σ g' (s.later (g' := g') t) fh st s.a q b⟩
theorem GoalS.exprL (G : GoalS K B W mk Fb Fi Hi a0 X k N) (s : SR K mk Fb Fi Hi a0 ast F H σ ρ g) {md : Md} {R : List D → Nat → Prop} {Q : List V → Hp → Prop} (ok : ∀ v F' H' d g', SR K mk Fb Fi Hi a0 ast F' H' σ ρ g' → ValL K md ast H F' H' v d → R d g' → Q v H') : GoalL K B W md ast F H σ X R Q :=
  ⟨fun v F' H' d g' t fh st vv r => ok v F' H' d g' (s.step t (s.c.step t fh st)) vv r, fun x c F' H' g' t fh st q b => G.ex x c F' H' ast σ g' (s.later (g' := g') t) fh st s.a q b⟩
theorem GoalS.exprI (G : GoalS K B W mk Fb Fi Hi a0 X k N) (s : SR K mk Fb Fi Hi a0 ast F H σ ρ g) {R : List D → Nat → Prop} {Q : L2.It → Hp → Prop} (ok : ∀ J F' H' ds g', SR K mk Fb Fi Hi a0 ast F' H' σ ρ g' → WalkD K F' J ds → R ds g' → Q J H') : GoalI K B W ast F H σ X R Q :=
  ⟨fun J F' H' ds g' t fh st wk r => ok J F' H' ds g' (s.step t (s.c.step t fh st)) wk r, fun x c F' H' g' t fh st q b => G.ex x c F' H' ast σ g' (s.later (g' := g') t) fh st s.a q b⟩
/-- a slot gets data that stands still -/
theorem SR.setF (s : SR K mk Fb Fi Hi a0 ast F H σ ρ g) {i : Nat} {v : V} {d : D} (r : Rp K F v d) : SR K mk Fb Fi Hi a0 ast F H (σ.set i (some v)) (setD ρ i d) g :=
  ⟨⟨s.c.fh, s.c.st, s.c.sl.setF r⟩, s.i, s.a, fun j e x h1 h2 => by
    unfold setD at h1
    by_cases hj : i = j
    · subst hj
      by_cases hl : i < ρ.length
      · rw [List.getElem?_set_self hl] at h1; cases h1
      · rw [List.getElem?_eq_none (by rw [List.length_set]; omega)] at h1; cases h1
    · rw [List.getElem?_set_ne hj] at h1 h2
      exact s.own j e x h1 h2, s.b⟩
/-- a slot gets a new list, dict of one's own -/
theorem SR.setO (s : SR K mk Fb Fi Hi a0 ast F H σ ρ g) {i : Nat} {p : Addr} {d : D} (n : ast ≠ some p) (o : OwnAt K F H p d) (hi : Hi p = none) (new : ∀ (j : Nat) e, ρ[j]? = some (.ow e) → σ[j]? ≠ some (some (V.ref p))) :
    SR K mk Fb Fi Hi a0 ast F H (σ.set i (some (.ref p))) (ρ.set i (.ow d)) g := by
  have cs : ∀ {j : Nat} {e : D}, (ρ.set i (.ow d))[j]? = some (.ow e) → (j = i ∧ e = d ∧ i < ρ.length) ∨ (j ≠ i ∧ ρ[j]? = some (.ow e)) := fun {j e} h => by
    by_cases hj : i = j
    · subst hj
      by_cases hl : i < ρ.length
      · rw [List.getElem?_set_self hl] at h; cases h; exact .inl ⟨rfl, rfl, hl⟩
      · rw [List.getElem?_eq_none (by rw [List.length_set]; omega)] at h; cases h
    · rw [List.getElem?_set_ne hj] at h
      exact .inr ⟨fun z => hj z.symm, h⟩
  have len := s.c.sl.len
  refine ⟨⟨s.c.fh, s.c.st, ⟨by rw [List.length_set, List.length_set]; exact len, fun j sv e => ?_, fun j l e1 e2 a hjl h1 h2 k1 k2 => ?_⟩⟩, s.i, s.a, fun j e x h1 h2 => ?_, s.b⟩
  · by_cases hj : i = j
    · subst hj
      by_cases hl : i < ρ.length
      · rw [List.getElem?_set_self hl] at e
        cases e
        exact ⟨_, List.getElem?_set_self (by rw [len]; exact hl), p, rfl, n, o⟩
      · rw [List.getElem?_eq_none (by rw [List.length_set]; omega)] at e; cases e
    · rw [List.getElem?_set_ne hj] at e ⊢
      exact s.c.sl.at_ j sv e
  · rcases cs h1 with ⟨rfl, _, hl⟩ | ⟨n1, q1⟩
    · rcases cs h2 with ⟨rfl, _, _⟩ | ⟨n2, q2⟩
      · exact hjl rfl
      · rw [List.getElem?_set_self (by rw [len]; exact hl)] at k1
        cases k1
        rw [List.getElem?_set_ne (fun z => n2 z.symm)] at k2
        exact new l e2 q2 k2
    · rw [List.getElem?_set_ne (fun z => n1 z.symm)] at k1
      rcases cs h2 with ⟨rfl, _, hl⟩ | ⟨n2, q2⟩
      · rw [List.getElem?_set_self (by rw [len]; exact hl)] at k2
        cases k2
        exact new j e1 q1 k1
      · rw [List.getElem?_set_ne (fun z => n2 z.symm)] at k2
        exact s.c.sl.apart j l e1 e2 a hjl q1 q2 k1 k2
  · rcases cs h1 with ⟨rfl, _, hl⟩ | ⟨n1, q1⟩
    · rw [List.getElem?_set_self (by rw [len]; exact hl)] at h2
      cases h2
      exact hi
    · rw [List.getElem?_set_ne (fun z => n1 z.symm)] at h2
      exact s.own j e x q1 h2
/-- the object of a slot of one's own is written -/
theorem SR.mut (s : SR K mk Fb Fi Hi a0 ast F H σ ρ g) {i : Nat} {p : Addr} {d d' : D} {o : HO} (e1 : ρ[i]? = some (.ow d)) (e2 : σ[i]? = some (some (V.ref p))) (n : ast ≠ some p) (own : OwnAt K F H p d) (own' : OwnAt K F (upd H p o) p d') :
    SR K mk Fb Fi Hi a0 ast F (upd H p o) σ (ρ.set i (.ow d')) g := by
  have hi := s.own i d p e1 e2
  have hF : F p = none := own.1
  have len := s.c.sl.len
  have hl : i < ρ.length := (List.getElem?_eq_some_iff.mp e1).1
  have back : ∀ {j : Nat} {e : D}, (ρ.set i (.ow d'))[j]? = some (.ow e) → ∃ e', ρ[j]? = some (.ow e') := fun {j e} h => by
    by_cases hj : i = j
    · subst hj; exact ⟨d, e1⟩
    · rw [List.getElem?_set_ne hj] at h; exact ⟨e, h⟩
  refine ⟨⟨Same.updR s.c.fh hF, ?_, ⟨by rw [List.length_set]; exact len, fun j sv e => ?_, fun j l d1 d2 a hjl h1 h2 k1 k2 => ?_⟩⟩, ⟨s.i.same, fun b ob h nb => ?_, s.i.new⟩, s.a, fun j e x h1 h2 => ?_, s.b⟩
  · have st := s.c.st
    cases hast : ast with
    | none => rw [hast] at st; exact st
    | some a =>
      rw [hast] at st
      obtain ⟨f, b, c, y, ys, h1, h2, h3⟩ := st
      have hap : a ≠ p := fun z => n (by rw [hast, z])
      exact ⟨f, b, c, y, ys, by rw [upd_ne hap]; exact h1, h2, h3⟩
  · by_cases hj : i = j
    · subst hj
      rw [List.getElem?_set_self hl] at e
      cases e
      exact ⟨_, e2, p, rfl, n, own'⟩
    · rw [List.getElem?_set_ne hj] at e
      obtain ⟨x, q1, q2⟩ := s.c.sl.at_ j sv e
      refine ⟨x, q1, ?_⟩
      cases sv with
      | un => trivial
      | fz d => exact q2
      | st => exact q2
      | ow d2 =>
        obtain ⟨a, ea, na, oa⟩ := q2
        subst ea
        have hap : a ≠ p := fun z => by
          subst z
          exact s.c.sl.apart j i d2 d a (fun z => hj z.symm) e e1 q1 e2
        refine ⟨a, rfl, na, oa.1, ?_⟩
        rcases oa.2 with ⟨vs, ds, z1, z2, r⟩ | ⟨vs, ds, z1, z2, r⟩
        · exact .inl ⟨vs, ds, z1, by rw [upd_ne hap]; exact z2, r⟩
        · exact .inr ⟨vs, ds, z1, by rw [upd_ne hap]; exact z2, r⟩
  · obtain ⟨f1, g1⟩ := back h1
    obtain ⟨f2, g2⟩ := back h2
    exact s.c.sl.apart j l f1 f2 a hjl g1 g2 k1 k2
  · have hb : b ≠ p := fun z => by rw [z, hi] at h; cases h
    rw [upd_ne hb]
    exact s.i.pres b ob h nb
  · obtain ⟨f1, g1⟩ := back h1
    exact s.own j f1 x g1 h2
/-- what was one's own stands still from now on -/
theorem SR.freeze (s : SR K mk Fb Fi Hi a0 ast F H σ ρ g) {i : Nat} {d : D} (e1 : ρ[i]? = some (.ow d)) : ∃ F', SR K mk Fb Fi Hi a0 ast F' H σ (setD ρ i d) g := by
  obtain ⟨x, q1, p, ex, n, o⟩ := s.c.sl.at_ i _ e1
  subst ex
  have hi := s.own i d p e1 q1
  obtain ⟨ob, eo⟩ := o.there
  have hF : F p = none := o.1
  have sF : Same F (upd F p ob) := same_upd hF
  have len := s.c.sl.len
  have hl : i < ρ.length := (List.getElem?_eq_some_iff.mp e1).1
  have rp : Rp K (upd F p ob) (.ref p) d := by
    rcases o.2 with ⟨vs, ds, z1, z2, rr⟩ | ⟨kvs, ds, z1, z2, rr⟩
    · subst z1
      rw [eo] at z2
      cases z2
      exact Rp.lst (SqL.of upd_same) (RpA.mono sF _ _ rr)
    · subst z1
      rw [eo] at z2
      cases z2
      exact Rp.dic upd_same (RpK.mono sF _ _ rr)
  refine ⟨upd F p ob, ⟨fun b u e => ?_, ?_, ⟨by unfold setD; rw [List.length_set]; exact len, fun j sv e => ?_, fun j l d1 d2 a hjl h1 h2 k1 k2 => ?_⟩⟩, ⟨s.i.same.trans sF, s.i.pres, fun b h f nb => ?_⟩, s.a, fun j e x h1 h2 => ?_, s.b.trans sF⟩
  · by_cases hb : b = p
    · subst hb; rw [upd_same] at e; cases e; exact eo
    · rw [upd_ne hb] at e; exact s.c.fh _ _ e
  · have st := s.c.st
    cases hast : ast with
    | none => rw [hast] at st; exact st
    | some a =>
      rw [hast] at st
      obtain ⟨f, b, c, y, ys, h1, h2, h3⟩ := st
      have hap : a ≠ p := fun z => n (by rw [hast, z])
      exact ⟨by rw [upd_ne hap]; exact f, b, c, y, ys, h1, Rp.mono sF _ _ h2, h3⟩
  · unfold setD at e
    by_cases hj : i = j
    · subst hj
      rw [List.getElem?_set_self hl] at e
      cases e
      exact ⟨_, q1, _, rfl, rp⟩
    · rw [List.getElem?_set_ne hj] at e
      obtain ⟨x, z1, z2⟩ := s.c.sl.at_ j sv e
      refine ⟨x, z1, ?_⟩
      cases sv with
      | un => trivial
      | fz d => obtain ⟨v, ev, r⟩ := z2; exact ⟨v, ev, Rp.mono sF _ _ r⟩
      | st => exact z2
      | ow d2 =>
        obtain ⟨a, ea, na, oa⟩ := z2
        subst ea
        have hap : a ≠ p := fun z => by
          subst z
          exact s.c.sl.apart j i d2 d a (fun z => hj z.symm) e e1 z1 q1
        refine ⟨a, rfl, na, by rw [upd_ne hap]; exact oa.1, ?_⟩
        rcases oa.2 with ⟨vs, ds, y1, y2, r⟩ | ⟨vs, ds, y1, y2, r⟩
        · exact .inl ⟨vs, ds, y1, y2, RpA.mono sF _ _ r⟩
        · exact .inr ⟨vs, ds, y1, y2, RpK.mono sF _ _ r⟩
  · unfold setD at h1 h2
    have no : ∀ {m d'}, (ρ.set i (.fz d))[m]? = some (.ow d') → i ≠ m := fun {m d'} e z => by
      subst z
      rw [List.getElem?_set_self hl] at e; cases e
    rw [List.getElem?_set_ne (no h1)] at h1
    rw [List.getElem?_set_ne (no h2)] at h2
    exact s.c.sl.apart j l d1 d2 a hjl h1 h2 k1 k2
  · have hb : b ≠ p := fun z => h (by rw [z]; exact hi)
    rw [upd_ne hb]
    exact s.i.new b h f nb
  · unfold setD at h1
    by_cases hj : i = j
    · subst hj; rw [List.getElem?_set_self hl] at h1; cases h1
    · rw [List.getElem?_set_ne hj] at h1
      exact s.own j e x h1 h2
end
end Dz
set_option Elab.async false
set_option linter.all false
set_option maxRecDepth 100000
/-! Dz: the statements' rules. -/
namespace Dz
open PySem PySem.Spec PyProof.Rows L2
section
variable {X : Cx} {B : Wish} {W : WX} {mk : Bool} {e a b c : Expr} {st : Stmt} {sts : List Stmt} {we wc : Ev → Nat → XR → Rs → Prop} {ws wr wa wb : SW} {pos : Pos}
/-! ### blocks -/
theorem sndS_nil : PSs X [] (TSm X.K B W mk (fun ρ g _ k => k.nx ρ g)) :=
  PSs.imp pss_nil fun N σ H ⟨Fb, Fi, Hi, a0, ast, F, ρ, g, XX, k, s, q, G⟩ => G.nx σ F H ast ρ g s q
theorem sndS_cons (h1 : PS X st (TSm X.K B W mk ws)) (h2 : PSs X sts (TSm X.K B W mk wr)) : PSs X (st :: sts) (TSm X.K B W mk (fun ρ g XX k => ws ρ g XX { k with nx := fun ρ g => wr ρ g XX k })) :=
  PSs.imp (pss_cons h1 h2) fun N σ H ⟨Fb, Fi, Hi, a0, ast, F, ρ, g, XX, k, s, q, G⟩ =>
    ⟨Fb, Fi, Hi, a0, ast, F, ρ, g, XX, _, s, q, ⟨fun σ' F' H' ast' ρ' g' s' q' => ⟨Fb, Fi, Hi, a0, ast', F', ρ', g', XX, k, s', q', G⟩, G.bk, G.ct, G.rt, G.ex⟩⟩
theorem sndS_freeze {i : Nat} (h : PSs X sts (TSm X.K B W mk wr)) : PSs X sts (TSm X.K B W mk (fun ρ g XX k => onOw ρ[i]? fun d => wr (setD ρ i d) g XX k)) :=
  PSs.imp h fun N σ H ⟨Fb, Fi, Hi, a0, ast, F, ρ, g, XX, k, s, q, G⟩ => by
    obtain ⟨d, e, q⟩ := onOw_some q
    obtain ⟨F', s'⟩ := s.freeze e
    exact ⟨Fb, Fi, Hi, a0, ast, F', setD ρ i d, g, XX, k, s', q, G⟩
/-! ### names -/
theorem gN_ok {K : PySem.W.Frag} {B : Wish} {W : WX} {mk : Bool} {Fb Fi Hi F H : Hp} {a0 ast : Option Addr} {XX : XR} {k : Kt} {N : Ends} {σ : L2.St} {ρ : Ev} {g i : Nat} {v : V} {d : D} (G : GoalS K B W mk Fb Fi Hi a0 XX k N) (s : SR K mk Fb Fi Hi a0 ast F H σ ρ g) (r : Rp K F v d) (q : k.nx (setD ρ i d) g) : gName i v σ H N.nx :=
  G.nx _ F H ast _ g (s.setF r) q
theorem set_ok {te : TE} {i : Nat} (hte : ∀ σ H Q, TDm X.K B W .st we σ H Q → te σ H Q) (N : Ends) (σ : L2.St) (H : Hp) (h : TSm X.K B W mk (fun ρ g XX k => we ρ g XX fun d g1 => k.nx (setD ρ i d) g1) N σ H) : tAsg te (gName i) N σ H := by
  obtain ⟨Fb, Fi, Hi, a0, ast, F, ρ, g, XX, k, s, q, G⟩ := h
  exact hte _ _ _ ⟨F, ast, ρ, g, XX, _, s.c, q, G.expr s fun v F' H' d g' s' _ vv q' => gN_ok G s' vv q'⟩
theorem sndS_set {i : Nat} {x : Str} {p : Pos} (nd : X.N.Nodup) (hi : X.N[i]? = some x) (hx : Loc X.env.scope x) (hf : X.fn x = true) (he : PE X e (TDm X.K B W .st we)) (hs : swapsWith e (some (.Name x p)) pos.line X.env = pure false) :
    PS X (.Assign [.Name x p] e pos) (TSm X.K B W mk (fun ρ g XX k => we ρ g XX fun d g1 => k.nx (setD ρ i d) g1)) :=
  PS.imp (ps_set nd hi hx he hs (.inl hf)) fun N σ H h => set_ok (fun _ _ _ q => q) N σ H h
theorem setO_ok {te : TE} {i : Nat} (hte : ∀ σ H Q, TDm X.K B W .fr we σ H Q → te σ H Q) (N : Ends) (σ : L2.St) (H : Hp) (h : TSm X.K B W mk (fun ρ g XX k => we ρ g XX fun d g1 => k.nx (ρ.set i (.ow d)) g1) N σ H) : tAsg te (gName i) N σ H := by
  obtain ⟨Fb, Fi, Hi, a0, ast, F, ρ, g, XX, k, s, q, G⟩ := h
  refine hte _ _ _ ⟨F, ast, ρ, g, XX, _, s.c, q, G.expr s fun v F' H' d g' s' t vv q' => ?_⟩
  obtain ⟨p, ev, hp, n, o⟩ := vv
  subst ev
  refine G.nx _ F' H' ast _ g' (s'.setO n o (s.was hp) fun j e e1 e2 => ?_) q'
  obtain ⟨x, q1, a, ex, na, oa⟩ := s.c.sl.at_ j _ e1
  subst ex
  rw [q1] at e2
  cases e2
  obtain ⟨ob, eo⟩ := oa.there
  rw [hp] at eo
  cases eo
theorem sndS_setO {i : Nat} {x : Str} {p : Pos} (nd : X.N.Nodup) (hi : X.N[i]? = some x) (hx : Loc X.env.scope x) (hf : X.fn x = true) (he : PE X e (TDm X.K B W .fr we)) (hs : swapsWith e (some (.Name x p)) pos.line X.env = pure false) :
    PS X (.Assign [.Name x p] e pos) (TSm X.K B W mk (fun ρ g XX k => we ρ g XX fun d g1 => k.nx (ρ.set i (.ow d)) g1)) :=
  PS.imp (ps_set nd hi hx he hs (.inl hf)) fun N σ H h => setO_ok (fun _ _ _ q => q) N σ H h
/-- the state of draws is made: [e, 0] -/
theorem sndS_mkst {i j : Nat} {x : Str} {p p2 p3 : Pos} (nd : X.N.Nodup) (hi : X.N[i]? = some x) (hx : Loc X.env.scope x) (hf : X.fn x = true) (he : PE X e (TDm X.K B W .st we)) (hst : starEach [e, .Constant (.int 0) j p3] X.env = (false, eval e X.env) :: starEach [.Constant (.int 0) j p3] X.env) :
    PS X (.Assign [.Name x p] (.List [e, .Constant (.int 0) j p3] p2) pos) (TSm X.K B W true (fun ρ g XX k => we ρ g XX fun d g1 => g1 = 0 ∧ ∃ (x : Int) (xs : List Int), d = .list (.int x :: xs.map PyData.int) ∧ xs.length < 16777216 ∧ k.nx (ρ.set i .st) (2 ^ 50))) :=
  PS.imp (ps_set nd hi hx (pe_lst (pa_cons he (pa_cons pe_int pa_nil) hst)) rfl (.inl hf)) fun N σ H ⟨Fb, Fi, Hi, a0, ast, F, ρ, g, XX, k, s, q, G⟩ => by
    refine ⟨F, ast, ρ, g, XX, _, s.c, q, G.expr s fun v F' H' d g' s' t vv q' => ?_⟩
    obtain ⟨g0, y, ys, ed, hys, q'⟩ := q'
    subst ed
    refine ⟨by show 2 ≤ sizeLine; decide, fun z hz => ?_⟩
    have hF : F' z = none := s'.c.fh.free hz
    have nast : ast = none := by
      cases ha : ast with
      | none => rfl
      | some a =>
        have st := s'.c.st
        rw [ha, g0] at st
        obtain ⟨_, _, _, _, _, _, _, _, _, h0, _⟩ := st
        omega
    have na0 : a0 = none := by
      rcases s'.a with z | ⟨_, z, _⟩
      · rw [← z]; exact nast
      · exact z
    have hiz : Hi z = none := s'.was hz
    have gr := Grow.fresh (o := .lst [v, .int 0]) s'.c.fh hz
    have sl := s'.c.sl.step (gr.step (ast := ast))
    obtain ⟨b, vs, ev, _⟩ := Rp.listInv vv
    subst ev
    refine G.nx _ F' (upd H' z (.lst [.ref b, .int 0])) (some z) _ (2 ^ 50) ⟨⟨Same.updR s'.c.fh hF, ?_, ?_⟩, ?_, ?_, ?_, s'.b⟩ q'
    · exact ⟨hF, b, 0, y, ys, upd_same, vv, by omega, by decide, by decide, hys⟩
    · have base : SlOk X.K F' (upd H' z (.lst [.ref b, .int 0])) (some z) σ ρ := by
        refine ⟨sl.len, fun m sv e => ?_, sl.apart⟩
        obtain ⟨x, q1, q2⟩ := sl.at_ m sv e
        refine ⟨x, q1, ?_⟩
        cases sv with
        | un => trivial
        | fz d => exact q2
        | st =>
          obtain ⟨a, _, ea⟩ := q2
          rw [nast] at ea
          cases ea
        | ow d =>
          obtain ⟨a, ea, _, oa⟩ := q2
          refine ⟨a, ea, fun w => ?_, oa⟩
          obtain ⟨x', q1', a', ea', _, oa'⟩ := s'.c.sl.at_ m _ e
          have eq : a' = a := by
            rw [ea] at q1
            rw [ea'] at q1'
            rw [q1] at q1'
            cases q1'
            rfl
          obtain ⟨ob, eo⟩ := oa'.there
          rw [eq] at eo
          cases w
          rw [hz] at eo
          cases eo
      have u := base.setU (i := i) (x := some (V.ref z))
      refine ⟨by rw [List.length_set, List.length_set]; exact sl.len, fun m sv e => ?_, fun m l d1 d2 a hml h1 h2 k1 k2 => ?_⟩
      · by_cases hm : i = m
        · subst hm
          by_cases hl : i < ρ.length
          · rw [List.getElem?_set_self hl] at e
            cases e
            exact ⟨_, List.getElem?_set_self (by rw [sl.len]; exact hl), z, rfl, rfl⟩
          · rw [List.getElem?_eq_none (by rw [List.length_set]; omega)] at e; cases e
        · rw [List.getElem?_set_ne hm] at e ⊢
          exact base.at_ m sv e
      · have no : ∀ {m d'}, (ρ.set i .st)[m]? = some (.ow d') → i ≠ m := fun {m d'} e w => by
          subst w
          by_cases hl : i < ρ.length
          · rw [List.getElem?_set_self hl] at e; cases e
          · rw [List.getElem?_eq_none (by rw [List.length_set]; omega)] at e; cases e
        have n1 := no h1
        have n2 := no h2
        rw [List.getElem?_set_ne n1] at h1 k1
        rw [List.getElem?_set_ne n2] at h2 k2
        exact base.apart m l d1 d2 a hml h1 h2 k1 k2
    · exact ⟨s'.i.same, fun b ob h nb => (same_upd hz) _ _ (s'.i.pres b ob h nb), s'.i.new⟩
    · exact .inr ⟨rfl, na0, fun w ew => by cases ew; exact hiz⟩
    · intro m d w h1 h2
      by_cases hm : i = m
      · subst hm
        by_cases hl : i < ρ.length
        · rw [List.getElem?_set_self hl] at h1; cases h1
        · rw [List.getElem?_eq_none (by rw [List.length_set]; omega)] at h1; cases h1
      · rw [List.getElem?_set_ne hm] at h1 h2
        exact s'.own m d w h1 h2
/-! ### several names -/
theorem setAll_ok {K : PySem.W.Frag} {mk : Bool} {Fb Fi Hi F H : Hp} {a0 ast : Option Addr} {g : Nat} : ∀ (is : List Nat) (vs : List V) (ds : List D) (σ : L2.St) (ρ ρ' : Ev), SR K mk Fb Fi Hi a0 ast F H σ ρ g → RpA K F vs ds → setAll ρ is ds = some ρ' →
    vs.length = is.length ∧ SR K mk Fb Fi Hi a0 ast F H ((is.zip vs).foldl (fun σ p => σ.set p.1 (some p.2)) σ) ρ' g
  | [], vs, [], σ, ρ, ρ', s, r, e => by cases r; cases e; exact ⟨rfl, s⟩
  | [], vs, _ :: _, σ, ρ, ρ', s, r, e => by cases e
  | i :: is, vs, [], σ, ρ, ρ', s, r, e => by cases e
  | i :: is, vs, d :: ds, σ, ρ, ρ', s, r, e => by
    cases r with
    | cons r1 r2 =>
      obtain ⟨h1, h2⟩ := setAll_ok is _ ds _ _ ρ' (s.setF r1) r2 e
      exact ⟨by rw [List.length_cons, List.length_cons, h1], h2⟩
abbrev parW (is : List Nat) (wl : Ev → Nat → XR → (List D → Nat → Prop) → Prop) : SW := fun ρ g XX k => wl ρ g XX fun ds g1 => ∃ ρ', setAll ρ is ds = some ρ' ∧ k.nx ρ' g1
theorem sndS_par2 {i j : Nat} {x y : Str} {px py pt pt2 : Pos} {kt k2} {wl : Ev → Nat → XR → (List D → Nat → Prop) → Prop} (hc : X.calm = true) (nd : X.N.Nodup) (hi : X.N[i]? = some x) (hj : X.N[j]? = some y) (hij : i ≠ j) (hx : X.env.scope.names.lookup x = some .local) (hy : X.env.scope.names.lookup y = some .local)
    (ha : PA X [a, b] (TAm X.K B W .st wl)) (hw : swappedStores [.Tuple [.Name x px, .Name y py] kt pt] (.Tuple [a, b] k2 pt2) X.env = pure (some [x, y])) :
    PS X (.Assign [.Tuple [.Name x px, .Name y py] kt pt] (.Tuple [a, b] k2 pt2) pos) (TSm X.K B W mk (parW [i, j] wl)) :=
  PS.imp (ps_par hc nd hi hj hij hx hy ha hw) fun N σ H ⟨Fb, Fi, Hi, a0, ast, F, ρ, g, XX, k, s, q, G⟩ => ⟨F, ast, ρ, g, XX, _, s.c, q, G.exprL s fun vs F' H' ds g' s' vv q' => by
    obtain ⟨ρ', e, q'⟩ := q'
    obtain ⟨h1, h2⟩ := setAll_ok [i, j] vs ds σ ρ ρ' s' (ValL.rp vv) e
    match vs, h1, h2 with
    | [v, u], _, h2 => exact ⟨v, u, rfl, G.nx _ F' H' ast ρ' g' h2 q'⟩⟩
theorem sndS_par3 {i j l : Nat} {x y z : Str} {px py pz pt pt2 : Pos} {kt k2} {wl : Ev → Nat → XR → (List D → Nat → Prop) → Prop} (hc : X.calm = true) (nd : X.N.Nodup) (hi : X.N[i]? = some x) (hj : X.N[j]? = some y) (hl : X.N[l]? = some z) (hij : i ≠ j) (hil : i ≠ l) (hjl : j ≠ l)
    (hx : X.env.scope.names.lookup x = some .local) (hy : X.env.scope.names.lookup y = some .local) (hz : X.env.scope.names.lookup z = some .local)
    (ha : PA X [a, b, c] (TAm X.K B W .st wl)) (hw : swappedStores [.Tuple [.Name x px, .Name y py, .Name z pz] kt pt] (.Tuple [a, b, c] k2 pt2) X.env = pure (some [x, y, z])) :
    PS X (.Assign [.Tuple [.Name x px, .Name y py, .Name z pz] kt pt] (.Tuple [a, b, c] k2 pt2) pos) (TSm X.K B W mk (parW [i, j, l] wl)) :=
  PS.imp (ps_par3 hc nd hi hj hl hij hil hjl hx hy hz ha hw) fun N σ H ⟨Fb, Fi, Hi, a0, ast, F, ρ, g, XX, k, s, q, G⟩ => ⟨F, ast, ρ, g, XX, _, s.c, q, G.exprL s fun vs F' H' ds g' s' vv q' => by
    obtain ⟨ρ', e, q'⟩ := q'
    obtain ⟨h1, h2⟩ := setAll_ok [i, j, l] vs ds σ ρ ρ' s' (ValL.rp vv) e
    match vs, h1, h2 with
    | [v, u, w], _, h2 => exact ⟨v, u, w, rfl, G.nx _ F' H' ast ρ' g' h2 q'⟩⟩
/-- the target of a body: as in comprehensions, the names of the def -/
theorem tgS_ok {K : PySem.W.Frag} {mk : Bool} {Fb Fi Hi F H : Hp} {a0 ast : Option Addr} {g : Nat} {Q : L2.St → Hp → Prop} {t : Tg} {v : V} {d : D} {σ : L2.St} {ρ ρ' : Ev} (s : SR K mk Fb Fi Hi a0 ast F H σ ρ g) (r : Rp K F v d) (e : bindT t d ρ = some ρ')
    (k : ∀ σ', SR K mk Fb Fi Hi a0 ast F H σ' ρ' g → Q σ' H) : tgG K t v σ H Q := by
  cases t with
  | v i => cases e; exact k _ (s.setF r)
  | t is =>
    cases d <;> first | (cases e; done) | skip
    rename_i ds
    obtain ⟨a, vs, ev, h1, h2⟩ := Rp.tupleInv r
    have go : ∀ (is : List Nat) (vs : List V) (ds : List D) (σ : L2.St) (ρ : Ev), SR K mk Fb Fi Hi a0 ast F H σ ρ g → RpA K F vs ds → setAll ρ is ds = some ρ' → ds.length = is.length ∧ gNs is vs σ H Q := by
      intro is
      induction is with
      | nil =>
        intro vs ds σ ρ s r e
        cases ds with
        | nil => cases r; cases e; exact ⟨rfl, rfl, k σ s⟩
        | cons d ds => cases e
      | cons i is ih =>
        intro vs ds σ ρ s r e
        cases ds with
        | nil => cases e
        | cons d ds =>
          cases r with
          | cons r1 r2 =>
            obtain ⟨q1, q2⟩ := ih _ ds _ _ (s.setF r1) r2 e
            exact ⟨by rw [List.length_cons, List.length_cons, q1], _, _, rfl, q2⟩
    obtain ⟨q1, q2⟩ := go is vs ds σ ρ s h2 e
    exact ⟨a, vs, ev, Same.sqT s.c.fh h1, by rw [h2.length]; exact q1, q2⟩
theorem sndS_unpack {t : Tg} {tg : Expr} (hg : PG X tg (tgG X.K t)) (he : PE X e (TDm X.K B W .st we)) (hs : swapsWithSole [tg] e pos.line X.env = pure false) (hw : swappedStores [tg] e X.env = pure none) (h1 : (assignEach [tg] X.env).map (·.2) = [assign tg X.env]) :
    PS X (.Assign [tg] e pos) (TSm X.K B W mk (fun ρ g XX k => we ρ g XX fun d g1 => ∃ ρ', bindT t d ρ = some ρ' ∧ k.nx ρ' g1)) :=
  PS.imp (ps_asg he hg hs hw h1) fun N σ H ⟨Fb, Fi, Hi, a0, ast, F, ρ, g, XX, k, s, q, G⟩ => ⟨F, ast, ρ, g, XX, _, s.c, q, G.expr s fun v F' H' d g' s' _ vv q' => by
    obtain ⟨ρ', e, q'⟩ := q'
    exact tgS_ok s' vv e fun σ' s2 => G.nx σ' F' H' ast ρ' g' s2 q'⟩
/-! ### append -/
theorem sndS_append {i : Nat} {x : Str} {p apos cpos : Pos} (hN : X.N[i]? = some x) (hv : Vis X.env.scope x) (hd : (x == ("__debug__" : Str)) = false) (hcd : (x == ("__classdict__" : Str)) = false) (he : PE X e (TDm X.K B W .st we)) (hs : starEach [e] X.env = [(false, eval e X.env)])
    (hline : (apos.endLine == cpos.line) = true) :
    PS X (.Expr (.Call (.Attribute (.Name x p) "append" apos) [e] [] cpos) pos) (TSm X.K B W mk (fun ρ g XX k => onOw ρ[i]? fun o => onList o fun xs => we ρ g XX fun d g1 => xs.length < sizeLine ∧ k.nx (ρ.set i (.ow (.list (xs ++ [d])))) g1)) := by
  have hfew : ((backTo cpos (starEach [e] X.env)).all (fun x => !x.1) && (backToKw cpos (keywordEach [] X.env)).all (fun x => x.1.isSome) && decide ([e].length + ([] : List Keyword).length + (if ([] : List Keyword).isEmpty then 0 else 1) < 30)) = true := by rw [hs]; rfl
  refine PS.imp (ps_expr (pe_bm PySem.F.plainAttrs_list PySem.F.slot_list_append PySem.F.type_list_append mt_append (pe_var hN hv hd hcd) (pa_cons he pa_nil hs) rfl hfew hline hs rfl)) fun N σ H ⟨Fb, Fi, Hi, a0, ast, F, ρ, g, XX, k, s, q, G⟩ => ?_
  obtain ⟨o, hi, q⟩ := onOw_some q
  obtain ⟨xs, eo, q⟩ := onList_some q
  subst eo
  obtain ⟨y, q1, p, ey, n, own⟩ := s.c.sl.at_ i _ hi
  subst ey
  have lst : ∀ {F H : Hp}, OwnAt X.K F H p (.list xs) → ∃ vs, H p = some (.lst vs) ∧ RpA X.K F vs xs := fun {F H} o => by
    rcases o.2 with ⟨vs, ds, z1, z2, r⟩ | ⟨vs, ds, z1, z2, r⟩
    · cases z1; exact ⟨vs, z2, r⟩
    · cases z1
  obtain ⟨vs0, h0, _⟩ := lst own
  refine ⟨.ref p, q1, .inl ⟨rfl, vs0, SqL.of h0⟩, F, ast, ρ, g, XX, _, s.c, q, G.expr s fun v F' H' d g' s' t vv q' => ?_⟩
  have own1 := own.step n t
  obtain ⟨vs, h1, r1⟩ := lst own1
  refine ⟨p, vs, v, rfl, rfl, h1, by rw [r1.length]; exact q'.1, ?_⟩
  exact G.nx σ F' (upd H' p (.lst (vs ++ [v]))) ast _ g' (s'.mut hi q1 n own1 ⟨own1.1, .inl ⟨vs ++ [v], xs ++ [d], rfl, upd_same, r1.append (.cons vv .nil)⟩⟩) q'.2
/-! ### if, loops, return -/
theorem sndS_ifs {sa sb : List Stmt} (hc : PT X c (TTm X.K B W (tst wc))) (ha : PSs X sa (TSm X.K B W mk wa)) (hb : PSs X sb (TSm X.K B W mk wb)) :
    PS X (.If c sa sb pos) (TSm X.K B W mk (fun ρ g XX k => wc ρ g XX (onBool fun t g1 => if t = true then wa ρ g1 XX k else wb ρ g1 XX k))) :=
  PS.imp (ps_if hc ha hb) fun N σ H ⟨Fb, Fi, Hi, a0, ast, F, ρ, g, XX, k, s, q, G⟩ => ⟨F, ast, ρ, g, XX, _, s.c, q, G.exprB s fun b F' H' g' s' q' => by
    cases b with
    | true => exact ⟨Fb, Fi, Hi, a0, ast, F', ρ, g', XX, k, s', q', G⟩
    | false => exact ⟨Fb, Fi, Hi, a0, ast, F', ρ, g', XX, k, s', q', G⟩⟩
theorem sndS_ret (he : PE X e (TDm X.K B W .st we)) : PS X (.Return (some e) pos) (TSm X.K B W mk (fun ρ g XX k => we ρ g XX k.rt)) :=
  PS.imp (ps_ret he) fun N σ H ⟨Fb, Fi, Hi, a0, ast, F, ρ, g, XX, k, s, q, G⟩ => ⟨F, ast, ρ, g, XX, _, s.c, q, G.expr s fun v F' H' d g' s' t vv q' =>
    G.rt v d F' H' ast g' s'.i s'.c.fh s'.c.st s'.a vv q'⟩
theorem sndS_brk : PS X (.Break pos) (TSm X.K B W mk (fun ρ g _ k => k.bk ρ g)) :=
  PS.imp ps_break fun N σ H ⟨Fb, Fi, Hi, a0, ast, F, ρ, g, XX, k, s, q, G⟩ => G.bk σ F H ast ρ g s q
theorem sndS_cont : PS X (.Continue pos) (TSm X.K B W mk (fun ρ g _ k => k.ct ρ g)) :=
  PS.imp ps_continue fun N σ H ⟨Fb, Fi, Hi, a0, ast, F, ρ, g, XX, k, s, q, G⟩ => G.ct σ F H ast ρ g s q
theorem sndS_for {t : Tg} {tg it : Expr} {body : List Stmt} {wi : IW} {wb : SW} (hp : PassesOwn (model X.prog X.w) X.A X.env X.xe) (hc : X.calm = true) (hi : PI X tg it (TIm X.K B W wi)) (hg : PG X tg (tgG X.K t)) (hb : PSs X body (TSm X.K B W mk wb))
    (hs : ∀ x, foldedSetIterable it X.env x = pure x) : PS X (.For tg it body [] pos) (TSm X.K B W mk (fun ρ g XX k => wi ρ g XX fun ds g1 => loopF t (fun ρ g k => wb ρ g XX k) ds ρ g1 k)) :=
  PS.imp (ps_for hp hc hi hg hb hs) fun N σ H ⟨Fb, Fi, Hi, a0, ast, F, ρ, g, XX, k, s, q, G⟩ => by
    refine ⟨F, ast, ρ, g, XX, _, s.c, q, G.exprI s fun J F1 H1 ds g1 s1 wk q1 => ?_⟩
    obtain ⟨n, GG, Y, wa, hn, hG, hY⟩ := wk
    refine for_it wa (fun i σ H => ∃ F2 ast2 ρ2 g2, SR X.K mk F1 Fi Hi a0 ast2 F2 H σ ρ2 g2 ∧ loopF t (fun ρ g k => wb ρ g XX k) (ds.drop i) ρ2 g2 k) ⟨F1, ast, ρ, g1, ⟨s1.c, s1.i, s1.a, s1.own, Same.refl _⟩, q1⟩
      (fun i σ H _ ⟨F2, ast2, ρ2, g2, s2, _⟩ => hG F2 H s2.b s2.c.fh) (fun i x σ H H' hi pv y => ?_) (fun σ H pv => ?_)
    · obtain ⟨F2, ast2, ρ2, g2, s2, lp⟩ := pv
      obtain ⟨F3, d, gr, fh3, ed, rd⟩ := hY i F2 H x H' hi s2.b s2.c.fh y
      have hlt : i < ds.length := hn ▸ hi
      have ed' : ds[i] = d := by
        rw [List.getElem?_eq_getElem hlt] at ed
        exact Option.some.inj ed
      rw [List.drop_eq_getElem_cons hlt, ed'] at lp
      obtain ⟨ρ', eb, lp⟩ := lp
      have s3 := s2.step (gr.step (ast := ast2)) (s2.c.step gr.step fh3 (gr.st s2.c.st))
      refine tgS_ok s3 rd eb fun σ' s4 => ⟨F1, Fi, Hi, a0, ast2, F3, ρ', g2, XX, _, s4, lp, ?_⟩
      have back : ∀ {F : Hp} {σ : L2.St} {H : Hp} {ast : Option Addr} {ρ : Ev} {g : Nat}, SR X.K mk F1 Fi Hi a0 ast F H σ ρ g → SR X.K mk Fb Fi Hi a0 ast F H σ ρ g := fun s => ⟨s.c, s.i, s.a, s.own, s1.b.trans s.b⟩
      exact ⟨fun σ F H ast ρ g s q => ⟨F, ast, ρ, g, s, q⟩, fun σ F H ast ρ g s q => G.nx σ F H ast ρ g (back s) q, fun σ F H ast ρ g s q => ⟨F, ast, ρ, g, s, q⟩, G.rt, G.ex⟩
    · obtain ⟨F2, ast2, ρ2, g2, s2, lp⟩ := pv
      rw [hn, List.drop_length] at lp
      exact G.nx σ F2 H ast2 ρ2 g2 ⟨s2.c, s2.i, s2.a, s2.own, s1.b.trans s2.b⟩ lp
theorem sndS_while {body : List Stmt} {wb : SW} (hp : PassesOwn (model X.prog X.w) X.A X.env X.xe) (hc : PT X c (TTm X.K B W (tst wc))) (hb : PSs X body (TSm X.K B W mk wb)) :
    PS X (.While c body [] pos) (TSm X.K B W mk (fun ρ g XX k => ∃ n, loopW (fun ρ g k => wc ρ g XX (onBool k)) (fun ρ g k => wb ρ g XX k) n ρ g k)) :=
  PS.imp (ps_while hp hc hb) fun N σ H ⟨Fb, Fi, Hi, a0, ast, F, ρ, g, XX, k, s, q, G⟩ => by
    obtain ⟨n, q⟩ := q
    refine ⟨fun m σ H => ∃ F2 ast2 ρ2 g2, SR X.K mk Fb Fi Hi a0 ast2 F2 H σ ρ2 g2 ∧ loopW (fun ρ g k => wc ρ g XX (onBool k)) (fun ρ g k => wb ρ g XX k) m ρ2 g2 k, ⟨n, F, ast, ρ, g, s, q⟩, ?_⟩
    rintro m σ H ⟨F2, ast2, ρ2, g2, s2, lp⟩
    cases m with
    | zero => exact False.elim lp
    | succ m =>
      refine ⟨F2, ast2, ρ2, g2, XX, _, s2.c, lp, G.exprB s2 fun b F' H' g' s' q' => ?_⟩
      cases b with
      | false => exact G.nx σ F' H' ast2 ρ2 g' s' q'
      | true =>
        refine ⟨fun σ H => ∃ F2 ast2 ρ2 g2, SR X.K mk Fb Fi Hi a0 ast2 F2 H σ ρ2 g2 ∧ loopW (fun ρ g k => wc ρ g XX (onBool k)) (fun ρ g k => wb ρ g XX k) m ρ2 g2 k, fun σ' H' q => ⟨m, Nat.lt_succ_self m, q⟩, Fb, Fi, Hi, a0, ast2, F', ρ2, g', XX, _, s', q', ?_⟩
        exact ⟨fun σ F H ast ρ g s q => ⟨F, ast, ρ, g, s, q⟩, fun σ F H ast ρ g s q => G.nx σ F H ast ρ g s q, fun σ F H ast ρ g s q => ⟨F, ast, ρ, g, s, q⟩, G.rt, G.ex⟩
/-! ### raise -/
theorem sndS_raise {n : Nat} {C : Addr} {t : L2.St → Hp → XK → Prop} (hc : X.calm = true) (tk : Takes X W) (he : PMk X e t) (ht : ∀ σ H Q, Q (.ref C) none H → t σ H Q) (hB : B (.cls n) (.ref C)) : PS X (.Raise (some e) none pos) (TSm X.K B W mk (fun _ g XX _ => XX (.cls n) g)) :=
  PS.imp (ps_raise hc tk he) fun N σ H ⟨Fb, Fi, Hi, a0, ast, F, ρ, g, XX, k, s, q, G⟩ => ht σ H _ (G.ex (.cls n) (.ref C) F H ast σ g s.i s.c.fh s.c.st s.a q hB)
end
end Dz
set_option Elab.async false
set_option linter.all false
set_option maxRecDepth 100000
/-! Dz: a written def against a text of the small language: the looks, and what they give. -/
namespace Dz
open PySem PySem.Spec PyProof.Rows L2
/-! ### the looks -/
def visB (sc : Scope) (x : Str) : Bool := sc.names.lookup x == some .local || sc.names.lookup x == some .cell || sc.names.lookup x == some .free
def slotB (N : List Str) (sc : Scope) (i : Nat) (x : Str) : Bool := N[i]? == some x && visB sc x && !(x == ("__debug__" : Str)) && !(x == ("__classdict__" : Str))
def glB (sc : Scope) (x : Str) : Bool := sc.names.lookup x == some .globalImplicit && !(x == ("__debug__" : Str)) && !(x == ("__name__" : Str))
def plainB : Expr → Bool
  | .Starred .. => false
  | _ => true
def ixB : Expr → Bool
  | .Slice .. => false
  | _ => true
def isBin : Bin → Operator → Bool
  | .add, .Add => true
  | .sub, .Sub => true
  | .mul, .Mult => true
  | .fdiv, .FloorDiv => true
  | .mod, .Mod => true
  | .pow, .Pow => true
  | _, _ => false
def isCmp : Cmp → CmpOp → Bool
  | .eq, .Eq => true
  | .ne, .NotEq => true
  | .lt, .Lt => true
  | .le, .LtE => true
  | .gt, .Gt => true
  | .ge, .GtE => true
  | _, _ => false
def fnName : Fn → Str
  | .len => "len"
  | .abs => "abs"
  | .int => "int"
  | .str => "str"
  | .repr => "repr"
  | .max => "max"
  | .min => "min"
  | .sum => "sum"
  | .sorted => "sorted"
  | .list => "list"
  | .tuple => "tuple"
def fnDone : Fn → Bool
  | .len => true
  | .abs => true
  | .int => true
  | .str => true
  | .repr => true
  | .max => true
  | .min => true
  | _ => false
/-- tests that are told by their value or by their parts -/
def tOk : E → Bool
  | .ite .. => false
  | .and a b => tOk a && tOk b
  | .or a b => tOk a && tOk b
  | .not a => tOk a
  | _ => true
def ownNames (N : List Str) (own : List Nat) : List (Str × Nat) := own.map fun i => (N.getD i Str.empty, i)
def blkFn (scope : Scope) : Str → Bool := fun x => scope.names.lookup x == some .cell
section
variable (tb : List Def) (N : List Str)
mutual
def isE : E → Bool → Scope → Expr → Bool
  | .var i, _, sc, .Name x _ => slotB N sc i x
  | .own i, pk, sc, .Name x _ => pk && slotB N sc i x
  | .int i, _, _, .Constant (.int j) _ _ => i == j
  | .bl i, _, _, .Constant (.bool j) _ _ => i == j
  | .non, _, _, .Constant .none _ _ => true
  | .str i, _, _, .Constant (.str j) _ _ => i == j
  | .bin o a b, _, sc, .BinOp a' o' b' _ => isBin o o' && isE a true sc a' && isE b true sc b'
  | .neg a, _, sc, .UnaryOp .USub a' _ => isE a true sc a'
  | .cmp o a b, _, sc, .Compare a' [o'] [b'] _ => isCmp o o' && isE a true sc a' && isE b true sc b'
  | .and a b, _, sc, .BoolOp .And (x :: y :: r) p => isE a true sc x && (match r with | [] => isE b true sc y | z :: r' => isE b true sc (.BoolOp .And (y :: z :: r') p))
  | .or a b, _, sc, .BoolOp .Or (x :: y :: r) p => isE a true sc x && (match r with | [] => isE b true sc y | z :: r' => isE b true sc (.BoolOp .Or (y :: z :: r') p))
  | .not a, _, sc, .UnaryOp .Not a' _ => isE a true sc a'
  | .ite c a b, _, sc, .IfExp c' a' b' _ => tOk c && isE c true sc c' && isE a false sc a' && isE b false sc b'
  | .tup es, _, sc, .Tuple es' _ _ => isL es false sc es'
  | .lst es, _, sc, .List es' _ => isL es false sc es'
  | .ix a i, _, sc, .Subscript a' i' _ => isE a true sc a' && isE i true sc i' && ixB i'
  | .slice a lo hi, _, sc, .Subscript a' (.Slice lo' hi' none _) _ => isE a true sc a' && isO lo sc lo' && isO hi sc hi'
  | .call f as, _, sc, .Call (.Name x _) es [] _ => (match tb[f]? with | some d => x == d.name | none => false) && glB sc x && isA as sc es
  | .draw i m, _, sc, .Call (.Name x _) [.Name y _, m'] [] _ => x == ("_law_next" : Str) && glB sc x && slotB N sc i y && plainB m' && isE m true sc m'
  | .fn b as, _, sc, .Call (.Name x _) (e :: es) [] _ => x == fnName b && fnDone b && glB sc x && isL as true sc (e :: es)
  | .comp elt tg it ifs own, _, sc, .ListComp elt' [⟨tg', it', ifs', 0⟩] scope _ => isE elt false (relS scope sc) elt' && isTg (blkFn scope) N (relS scope sc) tg tg' && isI it sc tg' it' && isC ifs (relS scope sc) ifs' &&
      blkC N sc scope (ownNames N own) && tg.has.all fun i => own.contains i
  | .fmt es, _, sc, .JoinedStr (v1 :: v2 :: r) _ => isJ es sc (v1 :: v2 :: r)
  | _, _, _, _ => false
def isL : L → Bool → Scope → List Expr → Bool
  | .nil, _, _, [] => true
  | .cons e r, pk, sc, e' :: r' => plainB e' && isE e pk sc e' && isL r pk sc r'
  | _, _, _, _ => false
def isC : L → Scope → List Expr → Bool
  | .nil, _, [] => true
  | .cons e .nil, sc, [e'] => tOk e && isE e true sc e'
  | _, _, _ => false
def isJ : L → Scope → List Expr → Bool
  | .nil, _, [] => true
  | .cons e r, sc, v :: r' => (match v with
      | .Constant (.str t) _ _ => (match e with | .str s => s == t | _ => false)
      | .FormattedValue e' c none _ => c == -1 && isE e true sc e'
      | _ => false) && isJ r sc r'
  | _, _, _ => false
def isA : A → Scope → List Expr → Bool
  | .nil, _, [] => true
  | .cons e r, sc, e' :: r' => plainB e' && isE e false sc e' && isA r sc r'
  | .st i r, sc, .Name y _ :: r' => slotB N sc i y && isA r sc r'
  | _, _, _ => false
def isO : O → Scope → Option Expr → Bool
  | .no, _, none => true
  | .ye e, sc, some e' => isE e true sc e'
  | _, _, _ => false
def isI : It → Scope → Expr → Expr → Bool
  | .of e, sc, _, e' => isE e false sc e' && foldB e'
  | .range1 b, sc, _, .Call (.Name x _) [b'] [] _ => x == ("range" : Str) && glB sc x && plainB b' && isE b true sc b'
  | .range a b, sc, _, .Call (.Name x _) [a', b'] [] _ => x == ("range" : Str) && glB sc x && plainB a' && isE a true sc a' && plainB b' && isE b true sc b'
  | .zip a b, sc, .Tuple .., .Call (.Name x _) [a', b'] [] _ => x == ("zip" : Str) && glB sc x && plainB a' && isE a false sc a' && plainB b' && isE b false sc b'
  | .enum a, sc, .Tuple .., .Call (.Name x _) [a'] [] _ => x == ("enumerate" : Str) && glB sc x && plainB a' && isE a false sc a'
  | _, _, _, _ => false
where foldB : Expr → Bool
  | .Set .. => false
  | _ => true
end
end
end Dz
set_option Elab.async false
set_option linter.all false
set_option maxRecDepth 100000
set_option maxHeartbeats 1000000
namespace Dz
open PySem PySem.Spec PyProof.Rows L2
def blts : List Str := ["len", "abs", "int", "str", "repr", "max", "min", "sum", "sorted", "list", "tuple", "range", "zip", "enumerate", "set", "any", "all", "dict", "isinstance"]
structure Good (tb : List Def) (B : Wish) (n : Nat) (X : Cx) : Prop where
  calm : X.calm = true
  nd : X.N.Nodup
  room : Room (n + 1) X.A
  gd : X.A.guards = some []
  blt : ∀ x ∈ blts, X.mg x = none
  fn : ∀ (f : Nat) d, tb[f]? = some d → ∃ (a : Addr) (fd : FuncData), X.mg d.name = some (.ref a) ∧ PySem.W.keepIn X.K (.ref a) = true ∧ Binds X.K fd d.ps [] ∧ FnG X.prog X.w X.K X.mg X.base (n + 1) a fd d.ps (spD X.K B d.ps.length (Phi tb n f))
  draw : ∃ (a : Addr) (fd : FuncData) (ps : List Str), X.mg "_law_next" = some (.ref a) ∧ PySem.W.keepIn X.K (.ref a) = true ∧ Binds X.K fd ps [] ∧ FnG X.prog X.w X.K X.mg X.base (n + 1) a fd ps (spNext X.K)
theorem Good.blk {tb : List Def} {B : Wish} {n : Nat} {X : Cx} (G : Good tb B n X) (s : Shared) (H : Hp) (scope : Scope) (cenv : PySem.Env) (fp : List Addr) : Good tb B n (X.blk s H scope cenv fp) :=
  ⟨G.calm, G.nd, G.room, G.gd, G.blt, G.fn, G.draw⟩
def mdOf : Bool → Md
  | true => .tp
  | false => .st
theorem up {X : Cx} {B : Wish} {W : WX} {e : Expr} {w : Ev → Nat → XR → Rs → Prop} (pk : Bool) (h : PE X e (TDm X.K B W .st w)) : PE X e (TDm X.K B W (mdOf pk) w) := by
  cases pk with
  | true => exact PE.tp h
  | false => exact h
theorem keeps_md (pk : Bool) : Keeps (mdOf pk) := by cases pk <;> trivial
theorem and_of {a b : Bool} (h : (a && b) = true) : a = true ∧ b = true := by rwa [Bool.and_eq_true] at h
theorem beqS {a b : Str} (h : (a == b) = true) : a = b := eq_of_beq h
theorem not_of' {a : Bool} (h : (!a) = true) : a = false := by cases a <;> first | rfl | cases h
theorem slot_of {N : List Str} {sc : Scope} {i : Nat} {x : Str} (h : slotB N sc i x = true) : N[i]? = some x ∧ Vis sc x ∧ (x == ("__debug__" : Str)) = false ∧ (x == ("__classdict__" : Str)) = false := by
  unfold slotB at h
  obtain ⟨h, h4⟩ := and_of h
  obtain ⟨h, h3⟩ := and_of h
  obtain ⟨h1, h2⟩ := and_of h
  refine ⟨eqO_of h1, ?_, not_of' h3, not_of' h4⟩
  unfold visB at h2
  rw [Bool.or_eq_true, Bool.or_eq_true] at h2
  rcases h2 with (h2 | h2) | h2
  · exact .inl (eqO_of h2)
  · exact .inr (.inl (eqO_of h2))
  · exact .inr (.inr (eqO_of h2))
theorem gl_of {X : Cx} {x : Str} (h : glB X.env.scope x = true) : Gl X x ∧ (x == ("__debug__" : Str)) = false ∧ x ≠ "__name__" := by
  unfold glB at h
  obtain ⟨h, h3⟩ := and_of h
  obtain ⟨h1, h2⟩ := and_of h
  exact ⟨eqO_of h1, not_of' h2, fun e => by rw [e] at h3; cases h3⟩
theorem star_of {X : Cx} {e : Expr} {es : List Expr} (h : plainB e = true) : starEach (e :: es) X.env = (false, eval e X.env) :: starEach es X.env := by
  cases e <;> first | rfl | cases h
theorem ix_of {e : Expr} (h : ixB e = true) : PlainIx e := by
  cases e <;> first | (intro o i; rfl) | cases h
theorem nb_of {op : CmpOp} {b : Expr} (h : op ≠ .In) (h2 : op ≠ .NotIn) : behindInMarks op b = false := nomark b h h2
theorem phi_len {tb : List Def} {f : Nat} {d : Def} (hd : tb[f]? = some d) : ∀ (n : Nat) svs g XX R, Phi tb n f svs g XX R → svs.length = d.ps.length
  | 0, _, _, _, _, h => False.elim h
  | n + 1, svs, g, XX, R, h => by
    have h' : (match tb[f]? with
      | some d => svs.length = d.ps.length ∧ wpSL (Phi tb n) d.body (startE d svs) g XX ⟨fun _ g => R .none g, R, fun _ _ => False, fun _ _ => False⟩
      | none => False) := h
    rw [hd] at h'
    exact h'.1
theorem own_fst (N : List Str) : ∀ own : List Nat, (ownNames N own).map (·.2) = own
  | [] => rfl
  | i :: is => by
    show i :: (ownNames N is).map (·.2) = i :: is
    rw [own_fst N is]
theorem PT.pw {X : Cx} {op : BoolOp} {vs : List Expr} {p : Pos} {t : TT} (h : PT X (.BoolOp op vs p) t) : PW X (.BoolOp op vs p) t := ⟨fun _ pins s σ H Q I q => h.run pins s σ H Q I q⟩
theorem cf_fn {X : Cx} (hc : X.calm = true) (hr : X.A.units + 100 < cLine) (hg : X.A.guards = some []) {es : List Expr} {e : Expr} {x : Str} {p pos : Pos} {B : Wish} {W : WX} {wl : Ev → Nat → XR → (List D → Nat → Prop) → Prop} (b : Fn) (hd : fnDone b = true) (hx : x = fnName b) (gx : Gl X x) (hm : X.mg x = none) (hdb : (x == ("__debug__" : Str)) = false)
    (hn : x ≠ "__name__") (ha : PA X (e :: es) (TAm X.K B W .tp wl)) (he : starEach (e :: es) X.env = (false, eval e X.env) :: starEach es X.env) (hpl : (backTo pos (starEach es X.env)).any (·.1) = false) :
    PE X (.Call (.Name x p) (e :: es) [] pos) (TDm X.K B W .st (fun ρ g XX R => wl ρ g XX fun ds g1 => fnD b ds fun z => R z g1)) := by
  subst hx
  cases b <;> first | (cases hd; done) | skip
  · exact snd_fnB cf_len gx hm (by decide +kernel) ha hn hdb he hpl
  · exact snd_fnB cf_abs gx hm (by decide +kernel) ha hn hdb he hpl
  · exact snd_fnT cf_int gx hm (by decide +kernel) ha hn hdb he hpl
  · exact snd_fnT cf_str gx hm (by decide +kernel) ha hn hdb he hpl
  · exact snd_fnB (cf_repr hr hg) gx hm (by decide +kernel) ha hn hdb he hpl
  · exact snd_fnB (cf_max hc) gx hm (by decide +kernel) ha hn hdb he hpl
  · exact snd_fnB (cf_min hc) gx hm (by decide +kernel) ha hn hdb he hpl
theorem blt_fn (b : Fn) : fnName b ∈ blts := by cases b <;> decide +kernel
theorem isL_star {tb : List Def} {X : Cx} : ∀ (es : L) (pk : Bool) (pes : List Expr) (pos : Pos), isL tb X.N es pk X.env.scope pes = true → (backTo pos (starEach pes X.env)).any (·.1) = false
  | .nil, pk, [], pos, _ => rfl
  | .nil, pk, _ :: _, pos, h => by cases h
  | .cons e r, pk, [], pos, h => by cases h
  | .cons e r, pk, pe :: pr, pos, h => by
    unfold isL at h
    obtain ⟨h, h2⟩ := and_of h
    obtain ⟨h0, h1⟩ := and_of h
    rw [star_of h0]
    show (false || (backTo pos (starEach pr X.env)).any (·.1)) = false
    rw [isL_star r pk pr pos h2]
    rfl
theorem isA_star {tb : List Def} {X : Cx} : ∀ (es : A) (pes : List Expr) (pos : Pos), isA tb X.N es X.env.scope pes = true → (backTo pos (starEach pes X.env)).any (·.1) = false
  | .nil, [], pos, _ => rfl
  | .nil, _ :: _, pos, h => by cases h
  | .cons e r, [], pos, h => by cases h
  | .st i r, [], pos, h => by cases h
  | .cons e r, pe :: pr, pos, h => by
    unfold isA at h
    obtain ⟨h, h2⟩ := and_of h
    obtain ⟨h0, h1⟩ := and_of h
    rw [star_of h0]
    show (false || (backTo pos (starEach pr X.env)).any (·.1)) = false
    rw [isA_star r pr pos h2]
    rfl
  | .st i r, pe :: pr, pos, h => by
    cases pe <;> first | (cases h; done) | skip
    unfold isA at h
    obtain ⟨h1, h2⟩ := and_of h
    show (false || (backTo pos (starEach pr X.env)).any (·.1)) = false
    rw [isA_star r pr pos h2]
    rfl
theorem fold_of {X : Cx} {e : Expr} (h : isI.foldB e = true) (x : Value) : foldedSetIterable e X.env x = pure x := by
  cases e <;> first | rfl | cases h
theorem isBin_ok {X : Cx} {o : Bin} {op : Operator} (h : isBin o op = true) : OpR X (binaryOp op) (rD X.K (binD o)) := by
  cases o <;> cases op <;> first | (cases h; done) | skip
  · exact or_add
  · exact or_sub
  · exact or_mul
  · exact or_fdiv
  · exact or_mod
  · exact or_pow
theorem isCmp_ok {X : Cx} (hu : X.A.units + 64 < cLine) {o : Cmp} {op : CmpOp} (h : isCmp o op = true) : OpR X (compareOp op) (rD X.K (cmpD o)) ∧ op ≠ .In ∧ op ≠ .NotIn := by
  cases o <;> cases op <;> first | (cases h; done) | skip
  · exact ⟨or_eq hu, by decide, by decide⟩
  · exact ⟨or_ne hu, by decide, by decide⟩
  · exact ⟨or_lt, by decide, by decide⟩
  · exact ⟨or_le, by decide, by decide⟩
  · exact ⟨or_gt, by decide, by decide⟩
  · exact ⟨or_ge, by decide, by decide⟩
end Dz
set_option Elab.async false
set_option linter.all false
set_option maxRecDepth 100000
set_option maxHeartbeats 4000000
namespace Dz
open PySem PySem.Spec PyProof.Rows L2
section
variable {tb : List Def} {B : Wish} {n : Nat}
/-- a comprehension by its parts -/
theorem comp_parts {X : Cx} (G : Good tb B n X) {W : WX} {elt : E} {tg : Tg} {it : It} {ifs : L} {own : List Nat} {pelt ptg pit : Expr} {pifs : List Expr} {scope : Scope} {wi : IW} {wc : CW} {we : Ev → Nat → XR → Rs → Prop}
    (hI : PI X ptg pit (TIm X.K B W wi))
    (hE : ∀ (s : Shared) (H : Hp) (C : Addr) (cl : List (Str × Addr)) (fp : List Addr), PE (X.blk s H scope (compEnvC scope cl C X.env) fp) pelt (TDm X.K B noW .st we))
    (hC : ∀ (s : Shared) (H : Hp) (C : Addr) (cl : List (Str × Addr)) (fp : List Addr), PTs (X.blk s H scope (compEnvC scope cl C X.env) fp) pifs (TTm X.K B noW wc))
    (h2 : isTg (blkFn scope) X.N (relS scope X.env.scope) tg ptg = true) (h5 : blkC X.N X.env.scope scope (ownNames X.N own) = true) (h6 : (tg.has.all fun i => own.contains i) = true) (hf : isI.foldB pit = true) (pos : Pos) :
    PE X (.ListComp pelt [⟨ptg, pit, pifs, 0⟩] scope pos) (TDm X.K B W .fr (fun ρ g XX R => wi ρ g XX fun ds g0 => loopC (stepC tg wc we (wipeE ρ own)) ds [] g0 fun r g1 => R (.list r) g1)) ∧
    ∀ (i : Nat) (y : Str) (py spos : Pos), X.N[i]? = some y → X.env.scope.names.lookup y = some .local → swapsWith (.ListComp pelt [⟨ptg, pit, pifs, 0⟩] scope pos) (some (.Name y py)) spos.line X.env = pure true →
      PS X (.Assign [.Name y py] (.ListComp pelt [⟨ptg, pit, pifs, 0⟩] scope pos) spos) (tAsg (tLc (TIm X.K B W wi) (tgG X.K tg) (TTm X.K B noW wc) (TDm X.K B noW .st we) own) (gName i)) := by
  have htg : ∀ i ∈ tg.has, i ∈ own := fun i hi => by
    have q := List.all_eq_true.mp h6 i hi
    simpa using q
  have hG : ∀ (s : Shared) (H : Hp) (C : Addr) (cl : List (Str × Addr)) (fp : List Addr), PG (X.blk s H scope (compEnvC scope cl C X.env) fp) ptg (tgG X.K tg) := fun s H C cl fp =>
    tg_ok (X := X.blk s H scope (compEnvC scope cl C X.env) fp) (fnb := blkFn scope) (fun _ h => h) G.nd G.calm h2
  have e : (ownNames X.N own).map (·.2) = own := own_fst X.N own
  constructor
  · refine PE.imp (pe_lc G.calm G.nd hI (blkOk_by h5) hG hC hE (fun x => fold_of hf x)) fun σ H Q q => ?_
    rw [e]
    exact comp_ok htg q
  · intro i y py spos hy hyl hsw
    have r := ps_setLc (i := i) (y := y) (py := py) (spos := spos) G.calm G.nd hy hyl hsw hI (blkOk_by h5) hG hC hE (fun x => fold_of hf x)
    rw [e] at r
    exact r
theorem fin {X : Cx} {W : WX} {e : E} {pe : Expr} (pk : Bool) (h : PE X pe (TDm X.K B W .st (wpE (Phi tb n) e))) (he : ∀ whole, isTrue pe X.env whole = (do let v ← whole; standAt pe.pos; holding [v] (truthy v))) :
    PE X pe (TDm X.K B W (mdOf pk) (wpE (Phi tb n) e)) ∧ (tOk e = true → PT X pe (TTm X.K B W (tst (wpE (Phi tb n) e)))) := ⟨up pk h, fun _ => sndT_val (PE.tp h) he⟩
mutual
theorem sndE : ∀ (e : E) (pk : Bool) (X : Cx) (W : WX) (pe : Expr), Good tb B n X → Takes X W → isE tb X.N e pk X.env.scope pe = true → PE X pe (TDm X.K B W (mdOf pk) (wpE (Phi tb n) e)) ∧ (tOk e = true → PT X pe (TTm X.K B W (tst (wpE (Phi tb n) e))))
  | .var i, pk, X, W, pe, G, tk, h => by
    cases pe <;> first | (cases h; done) | skip
    unfold isE at h
    obtain ⟨h1, h2, h3, h4⟩ := slot_of h
    exact fin pk (snd_var h1 h2 h3 h4) (fun _ => rfl)
  | .own i, pk, X, W, pe, G, tk, h => by
    cases pe <;> first | (cases h; done) | skip
    rename_i x p
    unfold isE at h
    obtain ⟨h0, h⟩ := and_of h
    subst h0
    obtain ⟨h1, h2, h3, h4⟩ := slot_of h
    have q := snd_own (pos := p) (X := X) (B := B) (W := W) h1 h2 h3 h4
    exact ⟨q, fun _ => sndT_val q (fun _ => rfl)⟩
  | .int i, pk, X, W, pe, G, tk, h => by
    cases pe <;> first | (cases h; done) | skip
    rename_i c _ _
    cases c <;> first | (cases h; done) | skip
    unfold isE at h
    obtain rfl := eq_of_beq h
    exact fin pk snd_int (fun _ => rfl)
  | .bl i, pk, X, W, pe, G, tk, h => by
    cases pe <;> first | (cases h; done) | skip
    rename_i c _ _
    cases c <;> first | (cases h; done) | skip
    unfold isE at h
    obtain rfl := eq_of_beq h
    exact fin pk snd_bl (fun _ => rfl)
  | .non, pk, X, W, pe, G, tk, h => by
    cases pe <;> first | (cases h; done) | skip
    rename_i c _ _
    cases c <;> first | (cases h; done) | skip
    exact fin pk snd_non (fun _ => rfl)
  | .str i, pk, X, W, pe, G, tk, h => by
    cases pe <;> first | (cases h; done) | skip
    rename_i c _ _
    cases c <;> first | (cases h; done) | skip
    unfold isE at h
    obtain rfl := eq_of_beq h
    exact fin pk snd_str (fun _ => rfl)
  | .bin o a b, pk, X, W, pe, G, tk, h => by
    cases pe <;> first | (cases h; done) | skip
    unfold isE at h
    obtain ⟨h, h3⟩ := and_of h
    obtain ⟨h1, h2⟩ := and_of h
    exact fin pk (snd_op (isBin_ok h1) (sndE a true X W _ G tk h2).1 (sndE b true X W _ G tk h3).1) (fun _ => rfl)
  | .neg a, pk, X, W, pe, G, tk, h => by
    cases pe <;> first | (cases h; done) | skip
    rename_i op _ _
    cases op <;> first | (cases h; done) | skip
    unfold isE at h
    exact fin pk (snd_neg (sndE a true X W _ G tk h).1) (fun _ => rfl)
  | .cmp o a b, pk, X, W, pe, G, tk, h => by
    cases pe <;> first | (cases h; done) | skip
    rename_i a' ops cs p
    match ops, cs, h with
    | [op], [b'], h =>
      unfold isE at h
      obtain ⟨h, h3⟩ := and_of h
      obtain ⟨h1, h2⟩ := and_of h
      obtain ⟨q1, q2, q3⟩ := isCmp_ok (X := X) G.room.units h1
      have ha := (sndE a true X W _ G tk h2).1
      have hb := (sndE b true X W _ G tk h3).1
      exact ⟨up pk (snd_cmp q1 ha hb (nb_of q2 q3)), fun _ => sndT_cmp q1 ha hb (nb_of q2 q3)⟩
  | .and a b, pk, X, W, pe, G, tk, h => by
    cases pe <;> first | (cases h; done) | skip
    rename_i op vs p
    cases op <;> first | (cases h; done) | skip
    match vs, h with
    | [x, y], h =>
      unfold isE at h
      obtain ⟨h1, h2⟩ := and_of h
      have ha := sndE a true X W _ G tk h1
      have hb := sndE b true X W _ G tk h2
      refine ⟨up pk (snd_and ha.1 (pe_one hb.1)), fun ht => ?_⟩
      unfold tOk at ht
      obtain ⟨t1, t2⟩ := and_of ht
      exact PW.pt (sndW_and (ha.2 t1) (pw_and1 (hb.2 t2)))
    | x :: y :: z :: r, h =>
      unfold isE at h
      obtain ⟨h1, h2⟩ := and_of h
      have ha := sndE a true X W _ G tk h1
      have hb := sndE b true X W _ G tk h2
      refine ⟨up pk (snd_and ha.1 hb.1), fun ht => ?_⟩
      unfold tOk at ht
      obtain ⟨t1, t2⟩ := and_of ht
      exact PW.pt (sndW_and (ha.2 t1) (PT.pw (hb.2 t2)))
  | .or a b, pk, X, W, pe, G, tk, h => by
    cases pe <;> first | (cases h; done) | skip
    rename_i op vs p
    cases op <;> first | (cases h; done) | skip
    match vs, h with
    | [x, y], h =>
      unfold isE at h
      obtain ⟨h1, h2⟩ := and_of h
      have ha := sndE a true X W _ G tk h1
      have hb := sndE b true X W _ G tk h2
      refine ⟨up pk (snd_or ha.1 (pe_one hb.1)), fun ht => ?_⟩
      unfold tOk at ht
      obtain ⟨t1, t2⟩ := and_of ht
      exact PW.pt (sndW_or (ha.2 t1) (pw_or1 (hb.2 t2)))
    | x :: y :: z :: r, h =>
      unfold isE at h
      obtain ⟨h1, h2⟩ := and_of h
      have ha := sndE a true X W _ G tk h1
      have hb := sndE b true X W _ G tk h2
      refine ⟨up pk (snd_or ha.1 hb.1), fun ht => ?_⟩
      unfold tOk at ht
      obtain ⟨t1, t2⟩ := and_of ht
      exact PW.pt (sndW_or (ha.2 t1) (PT.pw (hb.2 t2)))
  | .not a, pk, X, W, pe, G, tk, h => by
    cases pe <;> first | (cases h; done) | skip
    rename_i op _ _
    cases op <;> first | (cases h; done) | skip
    unfold isE at h
    have ha := sndE a true X W _ G tk h
    refine ⟨up pk (snd_not ha.1), fun ht => ?_⟩
    unfold tOk at ht
    exact sndT_not (ha.2 ht)
  | .ite c a b, pk, X, W, pe, G, tk, h => by
    cases pe <;> first | (cases h; done) | skip
    unfold isE at h
    obtain ⟨h, h3⟩ := and_of h
    obtain ⟨h, h2⟩ := and_of h
    obtain ⟨h0, h1⟩ := and_of h
    exact ⟨up pk (snd_ite ((sndE c true X W _ G tk h1).2 h0) (sndE a false X W _ G tk h2).1 (sndE b false X W _ G tk h3).1), fun ht => by cases ht⟩
  | .tup es, pk, X, W, pe, G, tk, h => by
    cases pe <;> first | (cases h; done) | skip
    unfold isE at h
    exact fin pk (snd_tup (sndL es false X W _ G tk h)) (fun _ => rfl)
  | .lst es, pk, X, W, pe, G, tk, h => by
    cases pe <;> first | (cases h; done) | skip
    unfold isE at h
    exact fin pk (PE.thaw (snd_lst (sndL es false X W _ G tk h))) (fun _ => rfl)
  | .ix a i, pk, X, W, pe, G, tk, h => by
    cases pe <;> first | (cases h; done) | skip
    rename_i a' i' p
    have h' : (isE tb X.N a true X.env.scope a' && isE tb X.N i true X.env.scope i' && ixB i') = true := by
      cases i' <;> first | (cases h; done) | exact h
    obtain ⟨h, h3⟩ := and_of h'
    obtain ⟨h1, h2⟩ := and_of h
    exact fin pk (snd_ix (sndE a true X W _ G tk h1).1 (sndE i true X W _ G tk h2).1 (ix_of h3)) (fun _ => rfl)
  | .slice a lo hi, pk, X, W, pe, G, tk, h => by
    cases pe <;> first | (cases h; done) | skip
    rename_i a' i' p
    cases i' <;> first | (cases h; done) | skip
    rename_i lo' hi' st p'
    cases st <;> first | (cases h; done) | skip
    unfold isE at h
    obtain ⟨h, h3⟩ := and_of h
    obtain ⟨h1, h2⟩ := and_of h
    exact fin pk (snd_slice (sndE a true X W _ G tk h1).1 (sndO lo X W _ G tk h2) (sndO hi X W _ G tk h3)) (fun _ => rfl)
  | .call f as, pk, X, W, pe, G, tk, h => by
    cases pe <;> first | (cases h; done) | skip
    rename_i fe es kws pos
    cases fe <;> first | (cases h; done) | skip
    rename_i x p
    cases kws <;> first | (cases h; done) | skip
    unfold isE at h
    obtain ⟨h, h3⟩ := and_of h
    obtain ⟨h1, h2⟩ := and_of h
    obtain ⟨g1, g2, g3⟩ := gl_of h2
    cases hd : tb[f]? with
    | none => rw [hd] at h1; cases h1
    | some d =>
      rw [hd] at h1
      have ex : x = d.name := beqS h1
      subst ex
      obtain ⟨ad, fd, q1, q2, q3, q4⟩ := G.fn f d hd
      cases es with
      | nil =>
        cases as <;> first | (cases h3; done) | skip
        exact fin pk (snd_call0 (φ := Phi tb n f) (phi_len hd n) q4 G.room G.gd g1 q1 q2 q3 tk g2) (fun _ => rfl)
      | cons e0 er =>
        have hs := isA_star as (e0 :: er) pos h3
        have hp : plainB e0 = true := by
          cases as with
          | nil => cases h3
          | cons _ _ =>
            unfold isA at h3
            exact (and_of (and_of h3).1).1
          | st _ _ => cases e0 <;> first | (cases h3; done) | rfl
        refine fin pk (snd_call (φ := Phi tb n f) (phi_len hd n) q4 G.room G.gd g1 q1 q2 q3 tk (sndA as X W _ G tk h3) g2 (star_of hp) ?_) (fun _ => rfl)
        rw [star_of hp] at hs
        have hs' : (false || (backTo pos (starEach er X.env)).any (·.1)) = false := hs
        rwa [Bool.false_or] at hs'
  | .draw i m, pk, X, W, pe, G, tk, h => by
    cases pe <;> first | (cases h; done) | skip
    rename_i fe es kws pos
    cases fe <;> first | (cases h; done) | skip
    rename_i x p
    match es, kws, h with
    | [.Name y' py, m'], [], h =>
      unfold isE at h
      obtain ⟨h, h4⟩ := and_of h
      obtain ⟨h, h3⟩ := and_of h
      obtain ⟨h, h2⟩ := and_of h
      obtain ⟨h0, h1⟩ := and_of h
      have ex : x = "_law_next" := beqS h0
      subst ex
      obtain ⟨g1, g2, g3⟩ := gl_of h1
      obtain ⟨ad, fd, ps, q1, q2, q3, q4⟩ := G.draw
      obtain ⟨s1, s2, s3, s4⟩ := slot_of h2
      exact fin pk (snd_draw q4 G.room G.gd g1 q1 q2 q3 tk s1 s2 s3 s4 (sndE m true X W _ G tk h4).1 g2 (star_of h3)) (fun _ => rfl)
  | .fn b as, pk, X, W, pe, G, tk, h => by
    cases pe <;> first | (cases h; done) | skip
    rename_i fe es kws pos
    cases fe <;> first | (cases h; done) | skip
    rename_i x p
    cases es <;> first | (cases h; done) | skip
    cases kws <;> first | (cases h; done) | skip
    rename_i e0 er
    unfold isE at h
    obtain ⟨h, h3⟩ := and_of h
    obtain ⟨h, h2⟩ := and_of h
    obtain ⟨h0, h1⟩ := and_of h
    obtain ⟨g1, g2, g3⟩ := gl_of h2
    have hs := isL_star as true (e0 :: er) pos h3
    have hp : plainB e0 = true := by
      cases as with
      | nil => cases h3
      | cons _ _ =>
        unfold isL at h3
        exact (and_of (and_of h3).1).1
    have ex : x = fnName b := beqS h0
    refine fin pk (cf_fn G.calm (by have := G.room.un; omega) G.gd b h1 ex g1 (by rw [ex]; exact G.blt _ (blt_fn b)) g2 g3 (sndL as true X W _ G tk h3) (star_of hp) ?_) (fun _ => rfl)
    rw [star_of hp] at hs
    have hs' : (false || (backTo pos (starEach er X.env)).any (·.1)) = false := hs
    rwa [Bool.false_or] at hs'
  | .comp elt tg it ifs own, pk, X, W, pe, G, tk, h => by
    cases pe <;> first | (cases h; done) | skip
    rename_i pelt gens scope pos
    match gens, h with
    | [⟨ptg, pit, pifs, 0⟩], h =>
      unfold isE at h
      obtain ⟨h, h6⟩ := and_of h
      obtain ⟨h, h5⟩ := and_of h
      obtain ⟨h, h4⟩ := and_of h
      obtain ⟨h, h3⟩ := and_of h
      obtain ⟨h1, h2⟩ := and_of h
      have q := comp_parts G (W := W) (elt := elt) (it := it) (ifs := ifs) (sndI it X W ptg pit G tk h3).1
        (fun s H C cl fp => (sndE elt false (X.blk s H scope (compEnvC scope cl C X.env) fp) noW pelt (G.blk s H scope _ fp) (L2.takes0) h1).1)
        (fun s H C cl fp => sndC ifs (X.blk s H scope (compEnvC scope cl C X.env) fp) noW pifs (G.blk s H scope _ fp) (L2.takes0) h4) h2 h5 h6 (sndI it X W ptg pit G tk h3).2 pos
      exact fin pk (PE.thaw q.1) (fun _ => rfl)
  | .fmt es, pk, X, W, pe, G, tk, h => by
    cases pe <;> first | (cases h; done) | skip
    rename_i vs pos
    match vs, h with
    | v1 :: v2 :: r, h =>
      unfold isE at h
      exact fin pk (snd_fmt (sndJ es X W _ G tk h)) (fun _ => rfl)
theorem sndL : ∀ (es : L) (pk : Bool) (X : Cx) (W : WX) (pes : List Expr), Good tb B n X → Takes X W → isL tb X.N es pk X.env.scope pes = true → PA X pes (TAm X.K B W (mdOf pk) (wpL (Phi tb n) es))
  | .nil, pk, X, W, [], G, tk, h => sndL_nil
  | .nil, pk, X, W, _ :: _, G, tk, h => by cases h
  | .cons e r, pk, X, W, [], G, tk, h => by cases h
  | .cons e r, pk, X, W, pe :: pr, G, tk, h => by
    unfold isL at h
    obtain ⟨h, h2⟩ := and_of h
    obtain ⟨h0, h1⟩ := and_of h
    exact sndL_cons (keeps_md pk) (sndE e pk X W pe G tk h1).1 (sndL r pk X W pr G tk h2) (star_of h0)
theorem sndC : ∀ (es : L) (X : Cx) (W : WX) (pes : List Expr), Good tb B n X → Takes X W → isC tb X.N es X.env.scope pes = true → PTs X pes (TTm X.K B W (wpC (Phi tb n) es))
  | .nil, X, W, [], G, tk, h => sndC_nil
  | .nil, X, W, _ :: _, G, tk, h => by cases h
  | .cons e .nil, X, W, [pe], G, tk, h => by
    unfold isC at h
    obtain ⟨h0, h1⟩ := and_of h
    exact sndC_one ((sndE e true X W pe G tk h1).2 h0)
  | .cons e .nil, X, W, [], G, tk, h => by cases h
  | .cons e .nil, X, W, _ :: _ :: _, G, tk, h => by cases h
  | .cons e (.cons _ _), X, W, pes, G, tk, h => by cases pes <;> cases h
theorem sndJ : ∀ (es : L) (X : Cx) (W : WX) (pes : List Expr), Good tb B n X → Takes X W → isJ tb X.N es X.env.scope pes = true → PJd X B W pes (wpJ (Phi tb n) es)
  | .nil, X, W, [], G, tk, h => sndJ_nil
  | .nil, X, W, _ :: _, G, tk, h => by cases h
  | .cons e r, X, W, [], G, tk, h => by cases h
  | .cons e r, X, W, v :: pr, G, tk, h => by
    unfold isJ at h
    obtain ⟨h1, h2⟩ := and_of h
    cases v <;> first | (cases h1; done) | skip
    · rename_i e' c fs p
      cases fs <;> first | (cases h1; done) | skip
      obtain ⟨h0, h1⟩ := and_of h1
      obtain rfl := eq_of_beq h0
      exact sndJ_fmt (sndE e true X W e' G tk h1).1 (sndJ r X W pr G tk h2)
    · rename_i c k p
      cases c <;> first | (cases h1; done) | skip
      cases e <;> first | (cases h1; done) | skip
      obtain rfl := eq_of_beq h1
      exact sndJ_str (sndJ r X W pr G tk h2)
theorem sndA : ∀ (es : A) (X : Cx) (W : WX) (pes : List Expr), Good tb B n X → Takes X W → isA tb X.N es X.env.scope pes = true → PA X pes (TGm X.K B W (wpA (Phi tb n) es))
  | .nil, X, W, [], G, tk, h => sndA_nil
  | .nil, X, W, _ :: _, G, tk, h => by cases h
  | .cons e r, X, W, [], G, tk, h => by cases h
  | .cons e r, X, W, pe :: pr, G, tk, h => by
    unfold isA at h
    obtain ⟨h, h2⟩ := and_of h
    obtain ⟨h0, h1⟩ := and_of h
    exact sndA_cons (sndE e false X W pe G tk h1).1 (sndA r X W pr G tk h2) (star_of h0)
  | .st i r, X, W, [], G, tk, h => by cases h
  | .st i r, X, W, pe :: pr, G, tk, h => by
    cases pe <;> first | (cases h; done) | skip
    unfold isA at h
    obtain ⟨h1, h2⟩ := and_of h
    obtain ⟨s1, s2, s3, s4⟩ := slot_of h1
    exact sndA_st s1 s2 s3 s4 (sndA r X W pr G tk h2)
theorem sndO : ∀ (o : O) (X : Cx) (W : WX) (pe : Option Expr), Good tb B n X → Takes X W → isO tb X.N o X.env.scope pe = true → PO X pe (TOm X.K B W (wpO (Phi tb n) o))
  | .no, X, W, none, G, tk, h => sndO_no
  | .no, X, W, some _, G, tk, h => by cases h
  | .ye e, X, W, none, G, tk, h => by cases h
  | .ye e, X, W, some pe, G, tk, h => by
    unfold isO at h
    exact sndO_ye (sndE e true X W pe G tk h).1
theorem sndI : ∀ (i : It) (X : Cx) (W : WX) (tg pe : Expr), Good tb B n X → Takes X W → isI tb X.N i X.env.scope tg pe = true → PI X tg pe (TIm X.K B W (wpI (Phi tb n) i)) ∧ isI.foldB pe = true
  | .of e, X, W, tg, pe, G, tk, h => by
    unfold isI at h
    obtain ⟨h1, h2⟩ := and_of h
    exact ⟨sndI_of (sndE e false X W pe G tk h1).1, h2⟩
  | .range1 b, X, W, tg, pe, G, tk, h => by
    cases pe <;> first | (cases h; done) | skip
    rename_i fe es kws pos
    cases fe <;> first | (cases h; done) | skip
    rename_i x p
    match es, kws, h with
    | [b'], [], h =>
      unfold isI at h
      obtain ⟨h, h4⟩ := and_of h
      obtain ⟨h, h3⟩ := and_of h
      obtain ⟨h1, h2⟩ := and_of h
      have ex : x = "range" := beqS h1
      subst ex
      exact ⟨sndI_range1 (gl_of h2).1 (G.blt _ (by decide +kernel)) (sndE b true X W b' G tk h4).1 (star_of h3), rfl⟩
  | .range a b, X, W, tg, pe, G, tk, h => by
    cases pe <;> first | (cases h; done) | skip
    rename_i fe es kws pos
    cases fe <;> first | (cases h; done) | skip
    rename_i x p
    match es, kws, h with
    | [a', b'], [], h =>
      unfold isI at h
      obtain ⟨h, h6⟩ := and_of h
      obtain ⟨h, h5⟩ := and_of h
      obtain ⟨h, h4⟩ := and_of h
      obtain ⟨h, h3⟩ := and_of h
      obtain ⟨h1, h2⟩ := and_of h
      have ex : x = "range" := beqS h1
      subst ex
      exact ⟨sndI_range (gl_of h2).1 (G.blt _ (by decide +kernel)) (sndE a true X W a' G tk h4).1 (sndE b true X W b' G tk h6).1 (by rw [star_of h3, star_of h5]; rfl) (star_of h5), rfl⟩
  | .zip a b, X, W, tg, pe, G, tk, h => by
    cases tg <;> first | (cases h; done) | skip
    cases pe <;> first | (cases h; done) | skip
    rename_i fe es kws pos
    cases fe <;> first | (cases h; done) | skip
    rename_i x p
    match es, kws, h with
    | [a', b'], [], h =>
      unfold isI at h
      obtain ⟨h, h6⟩ := and_of h
      obtain ⟨h, h5⟩ := and_of h
      obtain ⟨h, h4⟩ := and_of h
      obtain ⟨h, h3⟩ := and_of h
      obtain ⟨h1, h2⟩ := and_of h
      have ex : x = "zip" := beqS h1
      subst ex
      exact ⟨sndI_zip (gl_of h2).1 (G.blt _ (by decide +kernel)) (sndE a false X W a' G tk h4).1 (sndE b false X W b' G tk h6).1 (star_of h3) (star_of h5), rfl⟩
  | .enum a, X, W, tg, pe, G, tk, h => by
    cases tg <;> first | (cases h; done) | skip
    cases pe <;> first | (cases h; done) | skip
    rename_i fe es kws pos
    cases fe <;> first | (cases h; done) | skip
    rename_i x p
    match es, kws, h with
    | [a'], [], h =>
      unfold isI at h
      obtain ⟨h, h4⟩ := and_of h
      obtain ⟨h, h3⟩ := and_of h
      obtain ⟨h1, h2⟩ := and_of h
      have ex : x = "enumerate" := beqS h1
      subst ex
      exact ⟨sndI_enum (gl_of h2).1 (G.blt _ (by decide +kernel)) (sndE a false X W a' G tk h4).1 (star_of h3), rfl⟩
end
end
end Dz
set_option Elab.async false
set_option linter.all false
set_option maxRecDepth 100000
set_option maxHeartbeats 4000000
namespace Dz
open PySem PySem.Spec PyProof.Rows L2
def locB (sc : Scope) (x : Str) : Bool := sc.names.lookup x == some .local || sc.names.lookup x == some .cell
def cellB (sc : Scope) (x : Str) : Bool := sc.names.lookup x == some .cell
/-- a value that is no comprehension -/
def noComp : Expr → Bool
  | .ListComp .. => false
  | .SetComp .. => false
  | .DictComp .. => false
  | _ => true
/-- how a comprehension goes to a name: at once (a local, on one line), or as any value (a cell) -/
def atOnce (sc : Scope) (x : Str) (xpos : Pos) : Expr → Bool
  | .ListComp _ _ scope pos => sc.names.lookup x == some .local && xpos.line == pos.line && !(scope.names.any fun (n, k) => n == x && (k == .local || k == .cell))
  | _ => false
def noTup : Expr → Bool
  | .Tuple .. => false
  | _ => true
def isFr : E → Bool
  | .lst _ => true
  | .comp .. => true
  | _ => false
def exName : Nat → Str
  | 0 => "NotAllowed"
  | 1 => "TooLarge"
  | _ => "Missing"
def zeroB : Expr → Bool
  | .Constant c _ _ => (match c with | .int i => i == 0 | _ => false)
  | _ => false
/-- X('..') -/
def excB (n : Nat) (sc : Scope) : Expr → Bool
  | .Call f [a] [] _ => (match f with | .Name x _ => x == exName n && glB sc x | _ => false) && (match a with | .Constant c _ _ => (match c with | .str _ => true | _ => false) | _ => false)
  | _ => false
def swapB (sc : Scope) (px : Pos) : List Expr → Bool
  | [] => true
  | .Name x p :: r => sc.names.lookup x == some .local && p.line == px.line && swapB sc px r
  | _ => false
def isTupB : Expr → Bool
  | .Tuple .. => true
  | _ => false
def namesT : Expr → List Expr
  | .Tuple es _ _ => es
  | _ => []
def itemsT : Expr → List Expr
  | .Tuple es _ _ => es
  | _ => []
/-- two or three names that get as many values at once -/
def parB (N : List Str) : List Nat → Scope → List Expr → List Expr → Bool
  | [i, j], sc, ts, vs => ts.length == 2 && vs.length == 2 && nameAt N i (ts.getD 0 (.Starred (.Constant .none 0 ⟨0, 0, 0, 0⟩) ⟨0, 0, 0, 0⟩)) && nameAt N j (ts.getD 1 (.Starred (.Constant .none 0 ⟨0, 0, 0, 0⟩) ⟨0, 0, 0, 0⟩)) && !(i == j) && swapB sc (posAt ts) ts && !(vs.all (foldedForSure 8)) && !(vs.all (constantsAlone 8))
  | [i, j, l], sc, ts, vs => ts.length == 3 && vs.length == 3 && nameAt N i (ts.getD 0 (.Starred (.Constant .none 0 ⟨0, 0, 0, 0⟩) ⟨0, 0, 0, 0⟩)) && nameAt N j (ts.getD 1 (.Starred (.Constant .none 0 ⟨0, 0, 0, 0⟩) ⟨0, 0, 0, 0⟩)) && nameAt N l (ts.getD 2 (.Starred (.Constant .none 0 ⟨0, 0, 0, 0⟩) ⟨0, 0, 0, 0⟩)) &&
      !(i == j) && !(i == l) && !(j == l) && swapB sc (posAt ts) ts && !(vs.all (foldedForSure 8)) && !(vs.all (constantsAlone 8))
  | _, _, _, _ => false
where
  nameAt (N : List Str) (i : Nat) : Expr → Bool
    | .Name x _ => N[i]? == some x
    | _ => false
  posAt : List Expr → Pos
    | .Name _ p :: _ => p
    | _ => ⟨0, 0, 0, 0⟩
section
variable (tb : List Def) (N : List Str)
def isFreshE : E → Scope → Expr → Bool
  | .lst es, sc, .List es' p => isE tb N (.lst es) false sc (.List es' p)
  | .comp a b c d e, sc, .ListComp x y z p => isE tb N (.comp a b c d e) false sc (.ListComp x y z p)
  | _, _, _ => false
variable (mk : Bool) (xs : List Nat)
mutual
def isS : S → Scope → Stmt → Bool
  | .set i e, sc, .Assign [.Name x xp] e' _ => N[i]? == some x && locB sc x && isE tb N e false sc e' && (noComp e' || cellB sc x || atOnce sc x xp e')
  | .setO i e, sc, .Assign [.Name x xp] e' _ => N[i]? == some x && locB sc x && isFreshE tb N e sc e' && (noComp e' || cellB sc x || atOnce sc x xp e')
  | .mkst i e, sc, .Assign [.Name x _] (.List [e', z] _) _ => N[i]? == some x && locB sc x && plainB e' && isE tb N e false sc e' && zeroB z && mk
  | .par is es, sc, .Assign [t] v _ => parB N is sc (namesT t) (itemsT v) && isL tb N es false sc (itemsT v) && isTupB t && isTupB v
  | .unpack is e, sc, .Assign [.Tuple ts k p] e' _ => isTg (fun _ => true) N sc (.t is) (.Tuple ts k p) && isE tb N e false sc e' && noTup e'
  | .append i e, sc, .Expr (.Call (.Attribute (.Name x _) m ap) [e'] [] cp) _ => m == ("append" : Str) && slotB N sc i x && plainB e' && isE tb N e false sc e' && ap.endLine == cp.line
  | .ifs c a b, sc, .If c' a' b' _ => tOk c && isE tb N c true sc c' && isSL a sc a' && isSL b sc b'
  | .for_ tg it b, sc, .For tg' it' b' [] _ => isTg (fun _ => true) N sc tg tg' && isI tb N it sc tg' it' && isSL b sc b'
  | .while_ c b, sc, .While c' b' [] _ => tOk c && isE tb N c true sc c' && isSL b sc b'
  | .ret e, sc, .Return (some e') _ => isE tb N e false sc e'
  | .raise n, sc, .Raise (some e) none _ => excB n sc e && xs.contains n
  | .brk, _, .Break _ => true
  | .cont, _, .Continue _ => true
  | _, _, _ => false
def isSL : SL → Scope → List Stmt → Bool
  | .nil, _, [] => true
  | .cons (.freeze _) r, sc, sts => isSL r sc sts
  | .cons s r, sc, st :: sts => isS s sc st && isSL r sc sts
  | _, _, _ => false
end
end
end Dz
set_option Elab.async false
set_option linter.all false
set_option maxRecDepth 100000
set_option maxHeartbeats 4000000
namespace Dz
open PySem PySem.Spec PyProof.Rows L2
structure GoodS (tb : List Def) (B : Wish) (xs : List Nat) (n : Nat) (X : Cx) : Prop extends Good tb B n X where
  fnT : ∀ x, X.fn x = true
  own : PassesOwn (model X.prog X.w) X.A X.env X.xe
  fk : X.env.scope.kind = .function
  exc : ∀ m ∈ xs, ∃ C : Addr, X.mg (exName m) = some (.ref C) ∧ PySem.W.excIn X.K C [.type "ValueError", .type "Exception", .type "BaseException", .type "object"] "ValueError.__new__" = true ∧ PySem.W.keepIn X.K (.ref C) = true ∧
    PySem.W.subIn X.K (.ref C) (.type "BaseException") = some true ∧ PySem.W.typeIn X.K (.ref C) = some (.type "type") ∧ B (.cls m) (.ref C)
theorem loc_of {sc : Scope} {x : Str} (h : locB sc x = true) : Loc sc x := by
  unfold locB at h
  rw [Bool.or_eq_true] at h
  rcases h with h | h
  · exact .inl (eqO_of h)
  · exact .inr (eqO_of h)
theorem sw_no {e : Expr} (h : noComp e = true) (t : Option Expr) (l : Nat) (env : PySem.Env) : swapsWith e t l env = pure false := by
  cases e <;> first | rfl | cases h
theorem sw_cell {e : Expr} {x : Str} {p : Pos} {l : Nat} {env : PySem.Env} (h : env.scope.names.lookup x = some .cell) : swapsWith e (some (.Name x p)) l env = pure false := by
  have k : env.kindOf x = some .cell := h
  cases e <;> first
    | rfl
    | (have z : (NameKind.cell == NameKind.local) = false := rfl
       unfold swapsWith
       simp only [k]
       simp [z])
theorem sw_tup {e : Expr} {es : List Expr} {k : Nat} {p : Pos} {l : Nat} {env : PySem.Env} : swapsWithSole [.Tuple es k p] e l env = pure false := by
  cases e <;> rfl
theorem ss_no {e : Expr} {t : Expr} {env : PySem.Env} (h : noTup e = true) : swappedStores [t] e env = pure none := by
  cases e <;> first
    | (cases h; done)
    | (cases t <;> rfl)
theorem blk_fn {env : PySem.Env} (h : env.scope.kind = .function) : env.blockKind = .function := by
  unfold PySem.Env.blockKind
  rw [h]
  rfl
theorem ss_two {x y : Str} {px py pt pt2 : Pos} {kt k2 : Nat} {a b : Expr} {env : PySem.Env} (hk : env.scope.kind = .function) (hx : env.scope.names.lookup x = some .local) (hy : env.scope.names.lookup y = some .local) (hl : py.line = px.line) (hxy : x ≠ y)
    (ha : plainB a = true) (hb : plainB b = true) (h1 : [a, b].all (foldedForSure 8) = false) (h2 : [a, b].all (constantsAlone 8) = false) : swappedStores [.Tuple [.Name x px, .Name y py] kt pt] (.Tuple [a, b] k2 pt2) env = pure (some [x, y]) := by
  have kx : env.kindOf x = some .local := hx
  have ky : env.kindOf y = some .local := hy
  have hb2 := blk_fn hk
  have nd : [x, y].eraseDups = [x, y] := by simp [List.eraseDups_cons, hxy, Ne.symm hxy]
  unfold swappedStores
  refine (if_neg ?_).trans ((if_neg ?_).trans ?_)
  · rw [hb2]; simp
  · cases a <;> first | (cases ha; done) | (cases b <;> first | (cases hb; done) | (exact Bool.false_ne_true))
  · refine (if_neg ?_).trans ((if_neg ?_).trans ((if_neg ?_).trans ?_))
    · simp [kx, ky, hl, Expr.pos, nd]
    · rw [h1]; exact Bool.false_ne_true
    · rw [h2]; exact Bool.false_ne_true
    · simp [kx, ky, hl, Expr.pos]
theorem ss_three {x y z : Str} {px py pz pt pt2 : Pos} {kt k2 : Nat} {a b c : Expr} {env : PySem.Env} (hk : env.scope.kind = .function) (hx : env.scope.names.lookup x = some .local) (hy : env.scope.names.lookup y = some .local) (hz : env.scope.names.lookup z = some .local) (hl : py.line = px.line) (hl2 : pz.line = px.line)
    (hxy : x ≠ y) (hxz : x ≠ z) (hyz : y ≠ z)
    (ha : plainB a = true) (hb : plainB b = true) (hc : plainB c = true) (h1 : [a, b, c].all (foldedForSure 8) = false) (h2 : [a, b, c].all (constantsAlone 8) = false) : swappedStores [.Tuple [.Name x px, .Name y py, .Name z pz] kt pt] (.Tuple [a, b, c] k2 pt2) env = pure (some [x, y, z]) := by
  have kx : env.kindOf x = some .local := hx
  have ky : env.kindOf y = some .local := hy
  have kz : env.kindOf z = some .local := hz
  have hb2 := blk_fn hk
  have nd : [x, y, z].eraseDups = [x, y, z] := by simp [List.eraseDups_cons, hxy, Ne.symm hxy, hxz, Ne.symm hxz, hyz, Ne.symm hyz]
  have any3 : ∀ f : Expr → Bool, (∀ e, plainB e = true → f e = false) → ¬ [a, b, c].any f = true := fun f k h => by
    rw [List.any_cons, List.any_cons, List.any_cons, List.any_nil, k a ha, k b hb, k c hc] at h
    cases h
  unfold swappedStores
  refine (if_neg ?_).trans ((if_neg ?_).trans ?_)
  · rw [hb2]; simp
  · refine any3 _ ?_
    intro e h
    cases e <;> first | rfl | cases h
  · refine (if_neg ?_).trans ((if_neg ?_).trans ((if_neg ?_).trans ?_))
    · simp [kx, ky, kz, hl, hl2, Expr.pos, nd]
    · rw [h1]; exact Bool.false_ne_true
    · rw [h2]; exact Bool.false_ne_true
    · simp [kx, ky, kz, hl, hl2, Expr.pos]
theorem ne_of_beqN {i j : Nat} (h : (!(i == j)) = true) : i ≠ j := fun e => by
  subst e
  rw [beq_self_eq_true] at h
  cases h
section
variable {tb : List Def} {B : Wish} {n : Nat} {mk : Bool} {xs : List Nat}
theorem once_of {X : Cx} (fk : X.env.scope.kind = .function) {x : Str} {xp pos : Pos} {e : Expr} (h : atOnce X.env.scope x xp e = true) : ∃ elt gs scope p, e = .ListComp elt gs scope p ∧ X.env.scope.names.lookup x = some .local ∧ swapsWith e (some (.Name x xp)) pos.line X.env = pure true := by
  cases e <;> first | (cases h; done) | skip
  rename_i elt gs scope p
  unfold atOnce at h
  obtain ⟨h, h3⟩ := and_of h
  obtain ⟨h1, h2⟩ := and_of h
  exact ⟨elt, gs, scope, p, rfl, eqO_of h1, sw_true fk (eqO_of h1) h2 (not_of' h3)⟩
/-- a comprehension that goes to a name at once -/
theorem comp_once {X : Cx} (G : GoodS tb B xs n X) {W : WX} (tk : Takes X W) {e : E} {pelt : Expr} {gens : List Comprehension} {scope : Scope} {cpos : Pos} (h : isE tb X.N e false X.env.scope (.ListComp pelt gens scope cpos) = true) {i : Nat} {x : Str} {xp spos : Pos}
    (hN : X.N[i]? = some x) (hl : X.env.scope.names.lookup x = some .local) (hs : swapsWith (.ListComp pelt gens scope cpos) (some (.Name x xp)) spos.line X.env = pure true) :
    ∃ te : TE, PS X (.Assign [.Name x xp] (.ListComp pelt gens scope cpos) spos) (tAsg te (gName i)) ∧ ∀ σ H Q, TDm X.K B W .fr (wpE (Phi tb n) e) σ H Q → te σ H Q := by
  cases e <;> first | (cases h; done) | skip
  rename_i elt tg it ifs own
  match gens, h, hs with
  | [⟨ptg, pit, pifs, 0⟩], h, hs =>
    unfold isE at h
    obtain ⟨h, h6⟩ := and_of h
    obtain ⟨h, h5⟩ := and_of h
    obtain ⟨h, h4⟩ := and_of h
    obtain ⟨h, h3⟩ := and_of h
    obtain ⟨h1, h2⟩ := and_of h
    have q := comp_parts G.toGood (W := W) (elt := elt) (it := it) (ifs := ifs) (sndI it X W ptg pit G.toGood tk h3).1
      (fun s H C cl fp => (sndE elt false (X.blk s H scope (compEnvC scope cl C X.env) fp) noW pelt (G.toGood.blk s H scope _ fp) (L2.takes0) h1).1)
      (fun s H C cl fp => sndC ifs (X.blk s H scope (compEnvC scope cl C X.env) fp) noW pifs (G.toGood.blk s H scope _ fp) (L2.takes0) h4) h2 h5 h6 (sndI it X W ptg pit G.toGood tk h3).2 cpos
    refine ⟨_, q.2 i x xp spos hN hl hs, fun σ H Q t => comp_ok (fun j hj => ?_) t⟩
    have q := List.all_eq_true.mp h6 j hj
    simpa using q
theorem fresh_ok {X : Cx} (G : GoodS tb B xs n X) {W : WX} (tk : Takes X W) {e : E} {pe : Expr} (h : isFreshE tb X.N e X.env.scope pe = true) : PE X pe (TDm X.K B W .fr (wpE (Phi tb n) e)) ∧ isE tb X.N e false X.env.scope pe = true := by
  cases e <;> first | (cases h; done) | skip
  · cases pe <;> first | (cases h; done) | skip
    refine ⟨?_, h⟩
    have h' := h
    unfold isFreshE at h'
    unfold isE at h'
    exact snd_lst (sndL _ false X W _ G.toGood tk h')
  · cases pe <;> first | (cases h; done) | skip
    rename_i elt tg it ifs own pelt gens scope cpos
    refine ⟨?_, h⟩
    match gens, h with
    | [⟨ptg, pit, pifs, 0⟩], h =>
      unfold isFreshE at h
      unfold isE at h
      obtain ⟨h, h6⟩ := and_of h
      obtain ⟨h, h5⟩ := and_of h
      obtain ⟨h, h4⟩ := and_of h
      obtain ⟨h, h3⟩ := and_of h
      obtain ⟨h1, h2⟩ := and_of h
      exact (comp_parts G.toGood (W := W) (elt := elt) (it := it) (ifs := ifs) (sndI it X W ptg pit G.toGood tk h3).1
        (fun s H C cl fp => (sndE elt false (X.blk s H scope (compEnvC scope cl C X.env) fp) noW pelt (G.toGood.blk s H scope _ fp) (L2.takes0) h1).1)
        (fun s H C cl fp => sndC ifs (X.blk s H scope (compEnvC scope cl C X.env) fp) noW pifs (G.toGood.blk s H scope _ fp) (L2.takes0) h4) h2 h5 h6 (sndI it X W ptg pit G.toGood tk h3).2 cpos).1
theorem TDm.fr_of {K : PySem.W.Frag} {W : WX} {w : Ev → Nat → XR → Rs → Prop} {σ : L2.St} {H : Hp} {Q : VK} (h : TDm K B W .st w σ H Q) : TDm K B W .fr w σ H Q := by
  obtain ⟨F, ast, ρ, g, XX, R, s, q, G⟩ := h
  exact ⟨F, ast, ρ, g, XX, R, s, q, G.freeze s.fh⟩
theorem set_all {X : Cx} (G : GoodS tb B xs n X) {W : WX} (tk : Takes X W) {i : Nat} {e : E} {x : Str} {xp p : Pos} {e' : Expr} (hN : X.N[i]? = some x) (hl : Loc X.env.scope x) (h : isE tb X.N e false X.env.scope e' = true) (hs : (noComp e' || cellB X.env.scope x || atOnce X.env.scope x xp e') = true) :
    PS X (.Assign [.Name x xp] e' p) (TSm X.K B W mk (wpS (Phi tb n) (.set i e))) := by
  rw [Bool.or_eq_true, Bool.or_eq_true] at hs
  have he := (sndE e false X W e' G.toGood tk h).1
  rcases hs with (hs | hs) | hs
  · exact sndS_set G.nd hN hl (G.fnT x) he (sw_no hs _ _ _)
  · exact sndS_set G.nd hN hl (G.fnT x) he (sw_cell (eqO_of hs))
  · obtain ⟨elt, gs, scope, cp, ee, h1, h2⟩ := once_of (pos := p) G.fk hs
    subst ee
    obtain ⟨te, q1, q2⟩ := comp_once G tk h hN h1 h2
    exact PS.imp q1 fun N σ H t => set_ok (we := wpE (Phi tb n) e) (fun σ H Q z => q2 σ H Q (TDm.fr_of z)) N σ H t
theorem setO_all {X : Cx} (G : GoodS tb B xs n X) {W : WX} (tk : Takes X W) {i : Nat} {e : E} {x : Str} {xp p : Pos} {e' : Expr} (hN : X.N[i]? = some x) (hl : Loc X.env.scope x) (h : isFreshE tb X.N e X.env.scope e' = true) (hs : (noComp e' || cellB X.env.scope x || atOnce X.env.scope x xp e') = true) :
    PS X (.Assign [.Name x xp] e' p) (TSm X.K B W mk (wpS (Phi tb n) (.setO i e))) := by
  rw [Bool.or_eq_true, Bool.or_eq_true] at hs
  obtain ⟨he, hE⟩ := fresh_ok G tk h
  rcases hs with (hs | hs) | hs
  · exact sndS_setO G.nd hN hl (G.fnT x) he (sw_no hs _ _ _)
  · exact sndS_setO G.nd hN hl (G.fnT x) he (sw_cell (eqO_of hs))
  · obtain ⟨elt, gs, scope, cp, ee, h1, h2⟩ := once_of (pos := p) G.fk hs
    subst ee
    obtain ⟨te, q1, q2⟩ := comp_once G tk hE hN h1 h2
    exact PS.imp q1 fun N σ H t => setO_ok (we := wpE (Phi tb n) e) q2 N σ H t
end
end Dz
set_option Elab.async false
set_option linter.all false
set_option maxRecDepth 100000
set_option maxHeartbeats 4000000
namespace Dz
open PySem PySem.Spec PyProof.Rows L2
section
variable {tb : List Def} {B : Wish} {n : Nat} {mk : Bool} {xs : List Nat}
theorem nodup_ne {X : Cx} {i j : Nat} {x y : Str} (hi : X.N[i]? = some x) (hj : X.N[j]? = some y) (h : x = y) (nd : X.N.Nodup) : i = j := by
  subst h
  exact nodup_ix nd hi hj
theorem swap_of {sc : Scope} {px : Pos} {x : Str} {p : Pos} {r : List Expr} (h : swapB sc px (.Name x p :: r) = true) : sc.names.lookup x = some .local ∧ p.line = px.line ∧ swapB sc px r = true := by
  unfold swapB at h
  obtain ⟨h, h3⟩ := and_of h
  obtain ⟨h1, h2⟩ := and_of h
  exact ⟨eqO_of h1, eq_of_beq h2, h3⟩
theorem isL_plain {X : Cx} {es : L} {pk : Bool} {e : Expr} {r : List Expr} (h : isL tb X.N es pk X.env.scope (e :: r) = true) : plainB e = true ∧ ∃ es', isL tb X.N es' pk X.env.scope r = true := by
  cases es with
  | nil => cases h
  | cons a b =>
    unfold isL at h
    obtain ⟨h, h2⟩ := and_of h
    exact ⟨(and_of h).1, b, h2⟩
theorem zero_of {z : Expr} (h : zeroB z = true) : ∃ j p, z = .Constant (.int 0) j p := by
  cases z <;> first | (cases h; done) | skip
  rename_i c j p
  cases c <;> first | (cases h; done) | skip
  rename_i i
  have e : i = 0 := eq_of_beq h
  subst e
  exact ⟨j, p, rfl⟩
theorem nameAt_of {N : List Str} {i : Nat} {e : Expr} (h : parB.nameAt N i e = true) : ∃ x p, e = .Name x p ∧ N[i]? = some x := by
  cases e <;> first | (cases h; done) | skip
  exact ⟨_, _, rfl, eqO_of h⟩
theorem len2 {α : Type} {l : List α} (h : (l.length == 2) = true) : ∃ a b, l = [a, b] := by
  rcases l with _ | ⟨a, _ | ⟨b, _ | _⟩⟩ <;> first | (cases h; done) | exact ⟨a, b, rfl⟩
theorem len3 {α : Type} {l : List α} (h : (l.length == 3) = true) : ∃ a b c, l = [a, b, c] := by
  rcases l with _ | ⟨a, _ | ⟨b, _ | ⟨c, _ | _⟩⟩⟩ <;> first | (cases h; done) | exact ⟨a, b, c, rfl⟩
theorem par_all {X : Cx} (G : GoodS tb B xs n X) {W : WX} (tk : Takes X W) {is : List Nat} {es : L} {t v : Expr} {p : Pos} (h : parB X.N is X.env.scope (namesT t) (itemsT v) = true) (hL : isL tb X.N es false X.env.scope (itemsT v) = true) (ht : isTupB t = true) (hv : isTupB v = true) :
    PS X (.Assign [t] v p) (TSm X.K B W mk (wpS (Phi tb n) (.par is es))) := by
  cases t <;> first | (cases ht; done) | skip
  cases v <;> first | (cases hv; done) | skip
  rename_i ts kt pt vs k2 pt2
  have h : parB X.N is X.env.scope ts vs = true := h
  have hL : isL tb X.N es false X.env.scope vs = true := hL
  have ha := sndL es false X W _ G.toGood tk hL
  rcases is with _ | ⟨i, _ | ⟨j, _ | ⟨l, _ | ⟨_, _⟩⟩⟩⟩
  · cases h
  · cases h
  · unfold parB at h
    obtain ⟨h, h8⟩ := and_of h
    obtain ⟨h, h7⟩ := and_of h
    obtain ⟨h, h6⟩ := and_of h
    obtain ⟨h, h5⟩ := and_of h
    obtain ⟨h, h4⟩ := and_of h
    obtain ⟨h, h3⟩ := and_of h
    obtain ⟨h1, h2⟩ := and_of h
    obtain ⟨t1, t2, et⟩ := len2 h1
    obtain ⟨a, b, ev⟩ := len2 h2
    subst et ev
    obtain ⟨x, px, e1, n1⟩ := nameAt_of h3
    obtain ⟨y, py, e2, n2⟩ := nameAt_of h4
    have e1 : t1 = .Name x px := e1
    have e2 : t2 = .Name y py := e2
    subst e1 e2
    have h6 : swapB X.env.scope px [.Name x px, .Name y py] = true := h6
    obtain ⟨x1, x2, h6⟩ := swap_of h6
    obtain ⟨y1, y2, h6⟩ := swap_of h6
    have hij := ne_of_beqN h5
    have hxy : x ≠ y := fun e => hij (nodup_ne n1 n2 e G.nd)
    obtain ⟨pa, _, hb⟩ := isL_plain hL
    obtain ⟨pb, _⟩ := isL_plain hb
    exact sndS_par2 G.calm G.nd n1 n2 hij x1 y1 ha (ss_two G.fk x1 y1 y2 hxy pa pb (not_of' h7) (not_of' h8))
  · unfold parB at h
    obtain ⟨h, h11⟩ := and_of h
    obtain ⟨h, h10⟩ := and_of h
    obtain ⟨h, h9⟩ := and_of h
    obtain ⟨h, h8⟩ := and_of h
    obtain ⟨h, h7⟩ := and_of h
    obtain ⟨h, h6⟩ := and_of h
    obtain ⟨h, h5⟩ := and_of h
    obtain ⟨h, h4⟩ := and_of h
    obtain ⟨h, h3⟩ := and_of h
    obtain ⟨h1, h2⟩ := and_of h
    obtain ⟨t1, t2, t3, et⟩ := len3 h1
    obtain ⟨a, b, c, ev⟩ := len3 h2
    subst et ev
    obtain ⟨x, px, e1, n1⟩ := nameAt_of h3
    obtain ⟨y, py, e2, n2⟩ := nameAt_of h4
    obtain ⟨z, pz, e3, n3⟩ := nameAt_of h5
    have e1 : t1 = .Name x px := e1
    have e2 : t2 = .Name y py := e2
    have e3 : t3 = .Name z pz := e3
    subst e1 e2 e3
    have h9 : swapB X.env.scope px [.Name x px, .Name y py, .Name z pz] = true := h9
    obtain ⟨x1, x2, h9⟩ := swap_of h9
    obtain ⟨y1, y2, h9⟩ := swap_of h9
    obtain ⟨z1, z2, h9⟩ := swap_of h9
    have hij := ne_of_beqN h6
    have hil := ne_of_beqN h7
    have hjl := ne_of_beqN h8
    have hxy : x ≠ y := fun e => hij (nodup_ne n1 n2 e G.nd)
    have hxz : x ≠ z := fun e => hil (nodup_ne n1 n3 e G.nd)
    have hyz : y ≠ z := fun e => hjl (nodup_ne n2 n3 e G.nd)
    obtain ⟨pa, _, hb⟩ := isL_plain hL
    obtain ⟨pb, _, hc⟩ := isL_plain hb
    obtain ⟨pc, _⟩ := isL_plain hc
    exact sndS_par3 G.calm G.nd n1 n2 n3 hij hil hjl x1 y1 z1 ha (ss_three G.fk x1 y1 z1 y2 z2 hxy hxz hyz pa pb pc (not_of' h10) (not_of' h11))
  · cases h
theorem raise_all {X : Cx} (G : GoodS tb B xs n X) {W : WX} (tk : Takes X W) {m : Nat} {e : Expr} {p : Pos} (h : excB m X.env.scope e = true) (hm : m ∈ xs) : PS X (.Raise (some e) none p) (TSm X.K B W mk (wpS (Phi tb n) (.raise m))) := by
  cases e <;> first | (cases h; done) | skip
  rename_i f as ks cp
  rcases as with _ | ⟨a, _ | _⟩
  · cases h
  · cases ks with
    | cons _ _ => cases h
    | nil =>
      unfold excB at h
      obtain ⟨h1, h2⟩ := and_of h
      cases f <;> first | (cases h1; done) | skip
      cases a <;> first | (cases h2; done) | skip
      rename_i x xp c j tp
      cases c <;> first | (cases h2; done) | skip
      obtain ⟨h1, h2⟩ := and_of h1
      have ex : x = exName m := beqS h1
      subst ex
      obtain ⟨g1, g2, g3⟩ := gl_of h2
      obtain ⟨C, q1, q2, q3, q4, q5, q6⟩ := G.exc m hm
      exact sndS_raise G.calm tk (pmk_own PySem.F.excBase_ValueError q2 q1 q3 (raises_own q4 q5) g1 g2) (fun σ H Q q => q) q6
  · cases h
mutual
theorem sndS : ∀ (s : S) (X : Cx) (W : WX) (st : Stmt), GoodS tb B xs n X → Takes X W → isS tb X.N mk xs s X.env.scope st = true → PS X st (TSm X.K B W mk (wpS (Phi tb n) s))
  | .set i e, X, W, st, G, tk, h => by
    cases st <;> first | (cases h; done) | skip
    rename_i ts e' p
    match ts, h with
    | [.Name x xp], h =>
      unfold isS at h
      obtain ⟨h, h4⟩ := and_of h
      obtain ⟨h, h3⟩ := and_of h
      obtain ⟨h1, h2⟩ := and_of h
      exact set_all G tk (eqO_of h1) (loc_of h2) h3 h4
  | .setO i e, X, W, st, G, tk, h => by
    cases st <;> first | (cases h; done) | skip
    rename_i ts e' p
    match ts, h with
    | [.Name x xp], h =>
      unfold isS at h
      obtain ⟨h, h4⟩ := and_of h
      obtain ⟨h, h3⟩ := and_of h
      obtain ⟨h1, h2⟩ := and_of h
      exact setO_all G tk (eqO_of h1) (loc_of h2) h3 h4
  | .mkst i e, X, W, st, G, tk, h => by
    cases st <;> first | (cases h; done) | skip
    rename_i ts e' p
    cases e' <;> first | (rcases ts with _ | ⟨t, _ | _⟩ <;> first | (cases h; done) | (cases t <;> cases h; done)) | skip
    rename_i es p2
    match ts, es, h with
    | [.Name x xp], [e', z], h =>
      unfold isS at h
      obtain ⟨k1, hmk⟩ := and_of h
      obtain ⟨k2, hz⟩ := and_of k1
      obtain ⟨k3, h4⟩ := and_of k2
      obtain ⟨k4, h3⟩ := and_of k3
      obtain ⟨h1, h2⟩ := and_of k4
      subst hmk
      obtain ⟨j, p3, ez⟩ := zero_of hz
      subst ez
      exact sndS_mkst G.nd (eqO_of h1) (loc_of h2) (G.fnT x) (sndE e false X W e' G.toGood tk h4).1 (star_of h3)
  | .par is es, X, W, st, G, tk, h => by
    cases st <;> first | (cases h; done) | skip
    rename_i ts v p
    match ts, h with
    | [t], h =>
      unfold isS at h
      obtain ⟨h, hv⟩ := and_of h
      obtain ⟨h, ht⟩ := and_of h
      obtain ⟨h1, h2⟩ := and_of h
      exact par_all G tk h1 h2 ht hv
  | .unpack is e, X, W, st, G, tk, h => by
    cases st <;> first | (cases h; done) | skip
    rename_i ts e' p
    match ts, h with
    | [.Tuple ts k tp], h =>
      unfold isS at h
      obtain ⟨h, h3⟩ := and_of h
      obtain ⟨h1, h2⟩ := and_of h
      exact sndS_unpack (tg_ok (fun x _ => G.fnT x) G.nd G.calm h1) (sndE e false X W e' G.toGood tk h2).1 sw_tup (ss_no h3) rfl
  | .freeze i, X, W, st, G, tk, h => by cases st <;> cases h
  | .append i e, X, W, st, G, tk, h => by
    cases st <;> first | (cases h; done) | skip
    rename_i v p
    cases v <;> first | (cases h; done) | skip
    rename_i f as ks cp
    cases f <;> first | (cases h; done) | skip
    rename_i o m ap
    cases o <;> first | (cases h; done) | skip
    rename_i x xp
    match as, ks, h with
    | [e'], [], h =>
      unfold isS at h
      obtain ⟨h, h5⟩ := and_of h
      obtain ⟨h, h4⟩ := and_of h
      obtain ⟨h, h3⟩ := and_of h
      obtain ⟨h1, h2⟩ := and_of h
      have em : m = "append" := beqS h1
      subst em
      obtain ⟨s1, s2, s3, s4⟩ := slot_of h2
      exact sndS_append s1 s2 s3 s4 (sndE e false X W e' G.toGood tk h4).1 (star_of h3) h5
  | .ifs c a b, X, W, st, G, tk, h => by
    cases st <;> first | (cases h; done) | skip
    unfold isS at h
    obtain ⟨h, h3⟩ := and_of h
    obtain ⟨h, h2⟩ := and_of h
    obtain ⟨h0, h1⟩ := and_of h
    exact sndS_ifs ((sndE c true X W _ G.toGood tk h1).2 h0) (sndSL a X W _ G tk h2) (sndSL b X W _ G tk h3)
  | .for_ tg it b, X, W, st, G, tk, h => by
    cases st <;> first | (cases h; done) | skip
    rename_i tg' it' b' oe p
    cases oe <;> first | (cases h; done) | skip
    unfold isS at h
    obtain ⟨h, h3⟩ := and_of h
    obtain ⟨h1, h2⟩ := and_of h
    obtain ⟨q1, q2⟩ := sndI it X W _ _ G.toGood tk h2
    exact sndS_for G.own G.calm q1 (tg_ok (fun x _ => G.fnT x) G.nd G.calm h1) (sndSL b X W _ G tk h3) (fun x => fold_of q2 x)
  | .while_ c b, X, W, st, G, tk, h => by
    cases st <;> first | (cases h; done) | skip
    rename_i c' b' oe p
    cases oe <;> first | (cases h; done) | skip
    unfold isS at h
    obtain ⟨h, h3⟩ := and_of h
    obtain ⟨h0, h1⟩ := and_of h
    exact sndS_while G.own ((sndE c true X W _ G.toGood tk h1).2 h0) (sndSL b X W _ G tk h3)
  | .ret e, X, W, st, G, tk, h => by
    cases st <;> first | (cases h; done) | skip
    rename_i v p
    cases v <;> first | (cases h; done) | skip
    unfold isS at h
    exact sndS_ret (sndE e false X W _ G.toGood tk h).1
  | .raise m, X, W, st, G, tk, h => by
    cases st <;> first | (cases h; done) | skip
    rename_i v c p
    cases v with
    | none => cases h
    | some e =>
      cases c with
      | some _ => cases h
      | none =>
        unfold isS at h
        obtain ⟨h, hm⟩ := and_of h
        exact raise_all G tk h (List.contains_iff_mem.mp hm)
  | .brk, X, W, st, G, tk, h => by
    cases st <;> first | (cases h; done) | skip
    exact sndS_brk
  | .cont, X, W, st, G, tk, h => by
    cases st <;> first | (cases h; done) | skip
    exact sndS_cont
theorem sndSL : ∀ (s : SL) (X : Cx) (W : WX) (sts : List Stmt), GoodS tb B xs n X → Takes X W → isSL tb X.N mk xs s X.env.scope sts = true → PSs X sts (TSm X.K B W mk (wpSL (Phi tb n) s))
  | .nil, X, W, [], G, tk, h => sndS_nil
  | .nil, X, W, _ :: _, G, tk, h => by cases h
  | .cons s r, X, W, sts, G, tk, h => by
    cases s with
    | freeze i =>
      unfold isSL at h
      exact sndS_freeze (sndSL r X W sts G tk h)
    | _ =>
      cases sts <;> first | (cases h; done) | skip
      unfold isSL at h
      obtain ⟨h1, h2⟩ := and_of h
      exact sndS_cons (ws := wpS (Phi tb n) _) (wr := wpSL (Phi tb n) r) (sndS _ X W _ G tk h1) (sndSL r X W _ G tk h2)
end
end
end Dz
set_option Elab.async false
set_option linter.all false
set_option maxRecDepth 100000
/-! Dz: a def's body keeps its promise; the whole table by the level. -/
namespace Dz
open PySem PySem.Spec PyProof.Rows L2
theorem start_at {N : List Str} {vs : List V} {i : Nat} (h : i < vs.length) : (L2.start N vs)[i]? = some (vs[i]?) := by
  unfold L2.start
  rw [List.getElem?_append_left (by simpa using h), List.getElem?_map, List.getElem?_eq_getElem h]
  rfl
theorem Paired.at' {α β : Type} {R : α → β → Prop} : ∀ {xs : List α} {ys : List β} {i : Nat} {y : β}, Paired R xs ys → ys[i]? = some y → ∃ x, xs[i]? = some x ∧ R x y
  | _, _, _, _, .nil, e => by simp at e
  | _, _, 0, _, .cons h _, e => by simp at e; subst e; exact ⟨_, rfl, h⟩
  | _, _, i + 1, _, .cons _ r, e => by
    obtain ⟨x, e1, e2⟩ := Paired.at' (i := i) r (by simpa using e)
    exact ⟨x, by simpa using e1, e2⟩
theorem startE_at {d : Def} {svs : List SV} {i : Nat} {sv : SV} (h : (startE d svs)[i]? = some sv) : (i < svs.length ∧ svs[i]? = some sv) ∨ (svs.length ≤ i ∧ sv = .un) := by
  unfold startE at h
  by_cases hi : i < svs.length
  · rw [List.getElem?_append_left hi] at h
    exact .inl ⟨hi, h⟩
  · rw [List.getElem?_append_right (by omega), List.getElem?_replicate] at h
    split at h
    · exact .inr ⟨by omega, (Option.some.inj h).symm⟩
    · cases h
/-- the names at the entry -/
theorem start_sl {K : PySem.W.Frag} {F H : Hp} {ast : Option Addr} {d : Def} {vs : List V} {svs : List SV} (p : Paired (ArgOk K F ast) vs svs) (hl : svs.length ≤ d.N.length) :
    SlOk K F H ast (L2.start d.N vs) (startE d svs) ∧ ∀ (j : Nat) e, (startE d svs)[j]? ≠ some (.ow e) := by
  have len := p.length
  have no : ∀ (j : Nat) e, (startE d svs)[j]? ≠ some (.ow e) := fun j e h => by
    rcases startE_at h with ⟨_, h⟩ | ⟨_, h⟩
    · obtain ⟨x, _, r⟩ := Paired.at' p h
      exact r
    · cases h
  refine ⟨⟨?_, fun i sv h => ?_, fun i j e1 e2 a _ h1 _ _ => absurd h1 (no i e1)⟩, no⟩
  · unfold L2.start startE
    rw [List.length_append, List.length_append, List.length_map, List.length_replicate, List.length_replicate, len]
  · rcases startE_at h with ⟨hi, h⟩ | ⟨hi, h⟩
    · obtain ⟨x, e, r⟩ := Paired.at' p h
      refine ⟨some x, by rw [start_at (by rw [len]; exact hi), e], ?_⟩
      cases sv with
      | un => trivial
      | fz d => exact ⟨x, rfl, r⟩
      | ow d => exact r.elim
      | st =>
        obtain ⟨a, ev, ea⟩ := r
        exact ⟨a, by rw [ev], ea⟩
    · subst h
      have hi2 : i < (L2.start d.N vs).length := by
        have q := (List.getElem?_eq_some_iff.mp h).1
        unfold startE at q
        unfold L2.start
        rw [List.length_append, List.length_replicate] at q
        rw [List.length_append, List.length_map, List.length_replicate, len]
        exact q
      exact ⟨_, List.getElem?_eq_getElem hi2, trivial⟩
/-- the static facts of a law's text -/
structure Txts (tb : List Def) (B : Wish) (xs : List Nat) (P : Program) (w : World) (K : PySem.W.Frag) (mg : Str → Option Value) : Prop where
  blt : ∀ x ∈ blts, mg x = none
  exc : ∀ m ∈ xs, ∃ C : Addr, mg (exName m) = some (.ref C) ∧ PySem.W.excIn K C [.type "ValueError", .type "Exception", .type "BaseException", .type "object"] "ValueError.__new__" = true ∧ PySem.W.keepIn K (.ref C) = true ∧
    PySem.W.subIn K (.ref C) (.type "BaseException") = some true ∧ PySem.W.typeIn K (.ref C) = some (.type "type") ∧ B (.cls m) (.ref C)
/-- a def of the table, as it stands in the text -/
structure DefAt (tb : List Def) (xs : List Nat) (K : PySem.W.Frag) (mg : Str → Option Value) (d : Def) (st : Stmt) (f : Addr) (fd : FuncData) : Prop where
  mgf : mg d.name = some (.ref f)
  fn : L2.Fun K d.name d.name st f fd
  sc : FnScope d.N d.ps (defScope st)
  bi : Binds K fd d.ps []
  is : isSL tb d.N false xs d.body (defScope st) (defBody st) = true
section
variable {tb : List Def} {B : Wish} {xs : List Nat} {P : Program} {w : World} {K : PySem.W.Frag} {mg : Str → Option Value} {base : Heap}
def drawOk (P : Program) (w : World) (K : PySem.W.Frag) (mg : Str → Option Value) (base : Heap) (n : Nat) : Prop :=
  ∃ (a : Addr) (fd : FuncData) (ps : List Str), mg "_law_next" = some (.ref a) ∧ PySem.W.keepIn K (.ref a) = true ∧ Binds K fd ps [] ∧ FnG P w K mg base n a fd ps (spNext K)
def allOk (tb : List Def) (B : Wish) (P : Program) (w : World) (K : PySem.W.Frag) (mg : Str → Option Value) (base : Heap) (n : Nat) : Prop :=
  ∀ (f : Nat) d, tb[f]? = some d → ∃ (a : Addr) (fd : FuncData), mg d.name = some (.ref a) ∧ PySem.W.keepIn K (.ref a) = true ∧ Binds K fd d.ps [] ∧ FnG P w K mg base (n + 1) a fd d.ps (spD K B d.ps.length (Phi tb n f))
/-- the context of a body is good -/
theorem good_body {n : Nat} (T : Txts tb B xs P w K mg) (hd : drawOk P w K mg base (n + 1)) (hall : allOk tb B P w K mg base n) {N ps : List Str} {qual : Str} {scope : Scope} {f : Addr} {cd : Value} {A : Around} {outer : List PySem.Env} {s : Shared} {H : Hp} {E : XK}
    (S : FnScope N ps scope) (hr : Room (n + 1) (A.deeper (envOfC qual scope s.heap.objs.size f cd))) (hg : A.guards = some []) : GoodS tb B xs n (cxOf (L2.CX P w) P w K mg base N qual scope f cd A outer s H E) where
  calm := rfl
  nd := S.nd
  room := hr
  gd := hg
  blt := T.blt
  fn := hall
  draw := hd
  fnT := fun _ => rfl
  own := passes_of rfl
  fk := S.kind
  exc := T.exc
theorem def_ok {n i : Nat} {d : Def} {st : Stmt} {f : Addr} {fd : FuncData} (T : Txts tb B xs P w K mg) (hd : drawOk P w K mg base (n + 1)) (hall : allOk tb B P w K mg base n) (hi : tb[i]? = some d) (D : DefAt tb xs K mg d st f fd) :
    FnG P w K mg base (n + 2) f fd d.ps (spD K B d.ps.length (Phi tb (n + 1) i)) := by
  obtain ⟨oc, od, kV, doc, pm, an, cdv, ct, osl, rfl, lk, hcd⟩ := D.fn.ex
  have hpl : d.ps.length ≤ d.N.length := by
    have q := congrArg List.length D.sc.pre
    rw [List.length_take] at q
    omega
  refine ⟨fun vs H Q E h => h.1, fun A outer s H us vs Q E hr hg e0 hb r h => LamX.run_ofS lk hcd D.sc hr e0 hb r h.1 fun hr' => ?_⟩
  obtain ⟨hlen, F, ast, svs, g, XX, R, fh, so, pr, φ, kO, kE⟩ := h
  have φ' : (match tb[i]? with
      | some d => svs.length = d.ps.length ∧ wpSL (Phi tb n) d.body (startE d svs) g XX ⟨fun _ g => R .none g, R, fun _ _ => False, fun _ _ => False⟩
      | none => False) := φ
  rw [hi] at φ'
  obtain ⟨hl, φ'⟩ := φ'
  have G := good_body (E := E) (H := H) (outer := outer) (cd := cdv) (f := f) T hd hall D.sc hr' hg
  refine ⟨_, sndSL d.body _ (fun cls dd _ H => E cls dd H) _ G (takes_of rfl rfl rfl rfl) D.is, ?_⟩
  obtain ⟨sl, no⟩ := start_sl (H := H) (d := d) pr (by rw [hl]; exact hpl)
  refine ⟨F, F, H, ast, ast, F, startE d svs, g, XX, _, ⟨⟨fh, so, sl⟩, Step.refl _ _ _, .inl rfl, fun j e x h1 _ => absurd h1 (no j e), Same.refl _⟩, φ', ?_⟩
  have ea : ∀ {a a0 : Option Addr} {Hi : Hp}, (a = a0 ∨ (false = true ∧ a0 = none ∧ ∀ x, a = some x → Hi x = none)) → a = a0 := fun h => by
    rcases h with e | ⟨e, _⟩
    · exact e
    · cases e
  refine ⟨fun σ F' H' ast' ρ g' sr q => ?_, fun σ F' H' ast' ρ g' sr q => False.elim q, fun σ F' H' ast' ρ g' sr q => False.elim q, fun v dd F' H' ast' g' st fh' so' a rp q => ?_, fun x c F' H' ast' σ g' st fh' so' a q b => ?_⟩
  · have e := ea sr.a
    have so' := sr.c.st
    rw [e] at so'
    exact kO .non F' H' .none g' sr.i sr.c.fh so' .non q
  · rw [ea a] at so'
    exact kO v F' H' dd g' st fh' so' rp q
  · rw [ea a] at so'
    exact kE x c F' H' g' st fh' so' q b
/-- all defs of the table, by the level -/
theorem table_ok (T : Txts tb B xs P w K mg) (hd : drawOk P w K mg base 1) (hdef : ∀ (f : Nat) d, tb[f]? = some d → ∃ st fa fd, DefAt tb xs K mg d st fa fd) : ∀ n, allOk tb B P w K mg base n
  | 0 => fun f d hf => by
    obtain ⟨st, fa, fd, D⟩ := hdef f d hf
    exact ⟨fa, fd, D.mgf, D.fn.kp, D.bi, ⟨fun vs H Q E h => h.1, fun A outer s H us vs Q E hr hg e0 hb r ⟨_, _, _, _, _, _, _, _, _, _, φ, _⟩ => False.elim φ⟩⟩
  | n + 1 => fun f d hf => by
    obtain ⟨st, fa, fd, D⟩ := hdef f d hf
    obtain ⟨a, fd', ps, h1, h2, h3, h4⟩ := hd
    exact ⟨fa, fd, D.mgf, D.fn.kp, D.bi, def_ok T ⟨a, fd', ps, h1, h2, h3, h4.mono (by omega)⟩ (table_ok T ⟨a, fd', ps, h1, h2, h3, h4⟩ hdef n) hf D⟩
end
end Dz
set_option Elab.async false
set_option linter.all false
set_option maxRecDepth 100000
/-! Dz: the law's own def, and the end of a law's row. -/
namespace Dz
open PySem PySem.Spec PyProof PyProof.Rows L2
/-- the law's promise: at every script of at most 63 ints it gives True -/
def spTrue (K : PySem.W.Frag) : Sp := fun vs H Q _ => ∃ (a : Addr) (ns : List Int), vs = [.ref a] ∧ SqL K H a (ns.map V.int) ∧ ns.length ≤ 63 ∧ ∀ H', Q (.bl true) H'
theorem rpA_ints {K : PySem.W.Frag} {F : Hp} : ∀ ns : List Int, RpA K F (ns.map V.int) (ns.map PyData.int)
  | [] => .nil
  | n :: ns => .cons (.int n) (rpA_ints ns)
section
variable {tb : List Def} {B : Wish} {xs : List Nat} {P : Program} {w : World} {K : PySem.W.Frag} {mg : Str → Option Value} {base : Heap}
theorem law_ok {n i : Nat} {d : Def} {st : Stmt} {f : Addr} {fd : FuncData} (T : Txts tb B xs P w K mg) (hd : drawOk P w K mg base (n + 1)) (hall : allOk tb B P w K mg base n) (hps : d.ps = (["script"] : List Str)) (fn : L2.Fun K d.name d.name st f fd) (sc : FnScope d.N d.ps (defScope st))
    (is : isSL tb d.N true xs d.body (defScope st) (defBody st) = true)
    (pure : ∀ ns : List Int, ns.length ≤ 63 → wpSL (Phi tb n) d.body (startE d [.fz (.list (ns.map PyData.int))]) 0 noX ⟨fun _ _ => False, fun r _ => r = .bool true, fun _ _ => False, fun _ _ => False⟩) :
    FnG P w K mg base (n + 2) f fd ["script"] (spTrue K) := by
  obtain ⟨oc, od, kV, doc, pm, an, cdv, ct, osl, rfl, lk, hcd⟩ := fn.ex
  rw [hps] at sc
  have hpl : 1 ≤ d.N.length := by
    have q := congrArg List.length sc.pre
    rw [List.length_take] at q
    have q' : min 1 d.N.length = 1 := q
    omega
  refine ⟨fun vs H Q E ⟨a, ns, e, _⟩ => by rw [e]; rfl, fun A outer s H us vs Q E hr hg e0 hb r h => ?_⟩
  have hl : vs.length = 1 := by
    obtain ⟨a, ns, e, _⟩ := h
    rw [e]; rfl
  refine LamX.run_ofS lk hcd sc hr e0 hb r hl fun hr' => ?_
  obtain ⟨a, ns, ev, hS, hlen, k⟩ := h
  subst ev
  have G := good_body (E := E) (H := H) (outer := outer) (cd := cdv) (f := f) T hd hall sc hr' hg
  refine ⟨_, sndSL (mk := true) d.body _ (fun cls dd _ H => E cls dd H) _ G (takes_of rfl rfl rfl rfl) is, ?_⟩
  have pr : Paired (ArgOk K H none) [V.ref a] [SV.fz (.list (ns.map PyData.int))] := .cons (show Rp K H (.ref a) (.list (ns.map PyData.int)) from .lst hS (rpA_ints ns)) .nil
  obtain ⟨sl, no⟩ := start_sl (H := H) (d := d) pr hpl
  refine ⟨H, H, H, none, none, H, _, 0, noX, _, ⟨⟨Same.refl H, rfl, sl⟩, Step.refl _ _ _, .inl rfl, fun j e x h1 _ => absurd h1 (no j e), Same.refl _⟩, pure ns hlen, ?_⟩
  refine ⟨fun _ _ _ _ _ _ _ q => False.elim q, fun _ _ _ _ _ _ _ q => False.elim q, fun _ _ _ _ _ _ _ q => False.elim q, fun v dd F' H' ast' g' _ _ _ _ rp q => ?_, fun _ _ _ _ _ _ _ _ _ _ _ q _ => False.elim q⟩
  subst q
  cases rp
  exact k H'
end
/-- the law's call behind the top, by such a promise -/
theorem law_callG {P : Program} {w : World} {K : PySem.W.Frag} {mg mb : Str → Option Value} {k : Nat} {fa a : Addr} {fd : FuncData} {s₁ : Shared} {vs : List Value} {ns : List Int} (hK : K.In s₁.heap) (hN : s₁.heap.Ns mainGlobals mg) (hB : s₁.heap.Ns builtinsNs mb)
    (hBoot : ∀ x : Str, x ≠ "__name__" → mb x = bootBuiltins x) (lim : s₁.heap.NoLimit) (gens : s₁.gens = #[]) (obj : s₁.heap.get? a = some { cls := .type "list", data := .seq vs.toArray }) (his : IntsAre vs ns) (few : ns.length ≤ 63) (room : Room k callerA)
    (F : ∀ base : Heap, K.In base → base.Ns mainGlobals mg → FnG P w K mg base k fa fd ["script"] (spTrue K)) (bind : ∀ (s : Shared) (u : Value), BindsTo s fd ⟨[u], []⟩ [("script", u)]) :
    codeAny (model P w) callerA (.call (.ref fa) ⟨[.ref a], []⟩) (fun r s' => r = .ok (.ret (.bool true)) ∧ OldK s₁.heap s'.heap ∧ s'.os = s₁.os ∧ AllBare s'.gens) s₁ := by
  have line : ns.length ≤ sizeLine := Nat.le_trans few (by decide)
  have vals : Vals (ns.map V.int) vs := vals_ints his
  have szv : vs.length = ns.length := his.length
  -- H tells of nothing, or of the script alone
  have main : ∀ H : Hp, (∀ b u, H b = some u → b = a ∧ K.lookup a = none ∧ u = .frz { cls := .type "list", data := .seq vs.toArray } (.lst (ns.map V.int))) → SqL K H a (ns.map V.int) →
      codeAny (model P w) callerA (.call (.ref fa) ⟨[.ref a], []⟩) (fun r s' => r = .ok (.ret (.bool true)) ∧ OldK s₁.heap s'.heap ∧ s'.os = s₁.os ∧ AllBare s'.gens) s₁ := by
    intro H one seq
    have hok : HOk P w H s₁.heap := fun b u e => by
      obtain ⟨rfl, _, rfl⟩ := one b u e
      exact ⟨obj, by rw [List.length_map]; exact line, vs, _, vals, obj⟩
    have free : ∀ {b : Addr}, b ≠ a → H b = none := fun {b} n => by
      cases e : H b with
      | none => rfl
      | some u => exact absurd (one b u e).1 n
    have dictFree : ∀ {b : Addr} {o : Obj} {es : Array DictEntry} {ep : Nat}, s₁.heap.get? b = some o → o.data = .dict es ep → H b = none := fun {b o es ep} e d => free fun z => by
      rw [z, obj] at e
      cases e
      cases (show Data.seq vs.toArray 0 = Data.dict es ep from d)
    have nsB : ∀ {b : Addr} {m : Str → Option Value}, s₁.heap.Ns b m → (hidT s₁.heap H).Ns b m := by
      rintro b m ⟨o, es, ep, e, d, rest⟩
      exact ⟨o, es, ep, hidT_get e (dictFree e d), d, rest⟩
    have inB : K.In (hidT s₁.heap H) := fun b o e => hidT_get (hK b o e) (by
      cases q : H b with
      | none => rfl
      | some u =>
        obtain ⟨z, no, _⟩ := one b u q
        rw [z, no] at e
        cases e)
    have md : Mod K mg (hidT s₁.heap H) := by
      obtain ⟨mc, l1, l2⟩ := lim
      exact ⟨inB, nsB hN, ⟨mb, nsB hB, hBoot⟩, ⟨mc, nsB l1, l2⟩⟩
    have e0 : Env0 P w K mg (hidT s₁.heap H) callerA [] s₁ H := ⟨rfl, md, fun b o e => of_hidT e, Nat.le_of_eq (hidT_size _ _), trivial, fun b hb => absurd (show b ∈ ([] : List Addr) from hb) List.not_mem_nil, hok, .of_eq gens⟩
    have run := (F _ inB (nsB hN)).run callerA [] s₁ H [.ref a] [.ref a] (fun v _ => v = .bl true) (fun _ _ _ => False) room rfl e0 (bind s₁ (.ref a)) (.cons rfl .nil) ⟨a, ns, rfl, seq, few, fun _ => rfl⟩
    refine codeAny_mono run ?_
    intro res s' q
    match res, q with
    | .error e, q =>
      obtain ⟨_, _, _, _, _, _, _, _, _, _, _, _, z⟩ := q
      exact z.elim
    | .ok (.ret u), q =>
      obtain ⟨v, H', os, bare, un, hok', rel, qv⟩ := q
      subst qv
      have eu : u = Value.bool true := rel
      subst eu
      refine ⟨rfl, OldK.of_keep fun b o e => ?_, os, bare⟩
      cases hb : H b with
      | none => exact un.keep b o e hb (fun z => nomatch z) (fun z => nomatch z)
      | some x =>
        obtain ⟨z, _, ex⟩ := one b x hb
        subst ex
        have k1 := hok b _ hb
        have k2 := hok' b _ (un.frzs b _ _ hb)
        have g1 : s₁.heap.get? b = some { cls := .type "list", data := .seq vs.toArray } := k1.1
        have g2 : s'.heap.get? b = some { cls := .type "list", data := .seq vs.toArray } := k2.1
        rw [e] at g1
        rw [g1]
        exact g2
  cases hk : K.lookup a with
  | some o =>
    have same := hK a o hk
    rw [obj] at same
    cases same
    refine main (fun _ => none) (fun b u z => nomatch z) (.inr ⟨_, vs.toArray, _, hk, rfl, rfl, rfl, ?_, by simpa using vals⟩)
    rw [List.size_toArray, szv]
    exact line
  | none =>
    refine main (fun b => if b = a then some (.frz { cls := .type "list", data := .seq vs.toArray } (.lst (ns.map V.int))) else none) (fun b u z => ?_) (.inl (.inr ⟨_, if_pos rfl⟩))
    by_cases hb : b = a
    · have z' : (if b = a then some (HO.frz { cls := .type "list", data := .seq vs.toArray } (.lst (ns.map V.int))) else none) = some u := z
      rw [if_pos hb] at z'
      exact ⟨hb, hk, (Option.some.inj z').symm⟩
    · have z' : (if b = a then some (HO.frz { cls := .type "list", data := .seq vs.toArray } (.lst (ns.map V.int))) else none) = some u := z
      rw [if_neg hb] at z'
      cases z'
/-- the goal that k_head leaves, from the law's promise -/
theorem walkG {l : PySem.W.OpenLaw} {k : Nat} {q : Program} {loose : List Str} {XP : (Str → Option Value) → Heap → Prop} {YP : World → Heap → Prop} {d : DefRec} {K : Params → PySem.W.Frag} (hm : l.most = some 63) (hdf : d.params.defaults = []) (room : Room k callerA)
    (hY : ∀ (w : World) (h : Heap), YP w h → (K w.params).In h)
    (F : ∀ (w : World) (mg : Str → Option Value) (fa : Addr) (h : Heap), (K w.params).In h → h.Ns mainGlobals mg → mg d.name = some (.ref fa) →
      ∃ fd : FuncData, (∀ (s : Shared) (u : Value), BindsTo s fd ⟨[u], []⟩ [("script", u)]) ∧ ∀ base : Heap, (K w.params).In base → base.Ns mainGlobals mg → FnG l.prog w (K w.params) mg base k fa fd ["script"] (spTrue (K w.params))) :
    PySem.W.WalkO q loose XP YP l.row.toRowW d [] (fun f vs => PySem.call f vs) := by
  refine Att.attach_call hm hdf ?_
  intro w s₀ s₁ mg mb fa o pm cd doc a vs ns G Y ho hd hcd hmg hobj hints hlen hg
  have hK := hY w _ Y
  obtain ⟨fd, hb, hF⟩ := F w mg fa _ hK G.T.g hmg
  exact law_callG hK G.T.g G.T.b G.T.builtins G.T.nolimit hg hobj hints hlen room hF hb
end Dz
set_option Elab.async false
set_option linter.all false
set_option maxRecDepth 100000
/-! Dz: the draws of a law (_law_next). -/
namespace Dz
open PySem PySem.Spec PyProof PyProof.Rows L2
def nextSc : Scope := { kind := .function, names := [(PySem.Str.ofString "state", .local), (PySem.Str.ofString "many", .local), (PySem.Str.ofString "turn", .local), (PySem.Str.ofString "len", .globalImplicit), (PySem.Str.ofString "int", .globalImplicit)], isGenerator := false, isCoroutine := false, more := [] }
theorem nextScope : FnScope ["state", "many", "turn"] ["state", "many"] nextSc := ⟨rfl, rfl, rfl, by decide +kernel, rfl, by decide +kernel, by decide +kernel⟩
/-- state[i] of the text -/
def stE (i : Int) (p q r : Pos) : Expr := .Subscript (.Name "state" p) (.Constant (.int i) 0 q) r
def lenE (p q r a b : Pos) : Expr := .Call (.Name "len" a) [stE 0 p q r] [] b
def next1 (p q r p' q' r' a b c : Pos) : Stmt := .Assign [stE 1 p q r] (.BinOp (stE 1 p' q' r') .Add (.Constant (.int 1) 0 a) b) c
def next2 (n p q r p' q' r' a b c d : Pos) : Stmt := .Assign [.Name "turn" n] (.BinOp (stE 1 p q r) .FloorDiv (lenE p' q' r' a b) c) d
def nextI (p q r p' q' r' p2 q2 r2 a b c d : Pos) : Expr := .Subscript (stE 0 p q r) (.BinOp (stE 1 p' q' r') .Mod (lenE p2 q2 r2 a b) c) d
def nextM (n c d : Pos) : Expr := .BinOp (.Name "turn" n) .Mult (.Constant (.int 389) 0 c) d
def nextN (p q r n a b c : Pos) : Expr := .BinOp (.BinOp (stE 1 p q r) .Mult (.Name "turn" n) a) .Mult (.Constant (.int 17) 0 b) c
def next3 (e1 e2 e3 : Expr) (a b c d n x y : Pos) : Stmt := .Return (some (.BinOp (.Call (.Name "int" a) [.BinOp (.BinOp e1 .Add e2 b) .Add e3 c] [] d) .Mod (.Name "many" n) x)) y
section
variable {P : Program} {w : World} {K : PySem.W.Frag} {mg : Str → Option Value} {base : Heap}
section
variable {X : Cx}
/-- state[i] -/
def t_st (i : Int) : TE := tOp (rIxL X.K) (tVar 0) (tC (.int i))
end
theorem next_ok {st : Stmt} {f : Addr} {fd : FuncData} (fn : L2.Fun K "_law_next" "_law_next" st f fd) (hl : mg "len" = none) (hi : mg "int" = none) (hsc : defScope st = nextSc)
    {p0 p1 p2 p3 p4 p5 p6 p7 p8 q0 q1 q2 q3 q4 q5 q6 q7 q8 q9 q10 : Pos} {r0 r1 r2 r3 r4 r5 r6 r7 r8 r9 r10 r11 r12 s0 s1 s2 t0 t1 t2 t3 t4 t5 t6 u0 u1 u2 u3 u4 u5 u6 : Pos}
    (hb : defBody st = [next1 p0 p1 p2 p3 p4 p5 p6 p7 p8, next2 q0 q1 q2 q3 q4 q5 q6 q7 q8 q9 q10, next3 (nextI r0 r1 r2 r3 r4 r5 r6 r7 r8 r9 r10 r11 r12) (nextM s0 s1 s2) (nextN t0 t1 t2 t3 t4 t5 t6) u0 u1 u2 u3 u4 u5 u6])
    (hl1 : p6.line = p6.line := rfl) : FnG P w K mg base 1 f fd ["state", "many"] (spNext K) := by
  obtain ⟨oc, od, kV, doc, pm, an, cdv, ct, osl, rfl, lk, hcd⟩ := fn.ex
  refine ⟨fun vs H Q E ⟨F, a, m, g, e, _⟩ => by rw [e]; rfl, fun A outer s H us vs Q E hr hg e0 hbi r h => ?_⟩
  have sc : FnScope ["state", "many", "turn"] ["state", "many"] (defScope st) := by
    rw [hsc]
    exact nextScope
  have hlen : vs.length = 2 := by
    obtain ⟨F, a, m, g, e, _⟩ := h
    rw [e]; rfl
  refine LamX.run_ofS lk hcd sc hr e0 hbi r hlen fun hr' => ?_
  rw [hb, hsc]
  refine ⟨_, pss_cons (ps_asg (pe_op op_add (pe_ix ix_list (pv 0) pe_int fun _ _ => rfl) pe_int) (pg_sub (pv 0) pe_int set_list))
    (pss_cons (ps_set (i := 2) nextScope.nd rfl (Or.inl rfl) (pe_op op_fdivN (pe_ix ix_list (pv 0) pe_int fun _ _ => rfl) (pe_callB call_len_seq (by rfl) hl PySem.boot_len (pa_cons (pe_ix ix_list (pv 0) pe_int fun _ _ => rfl) pa_nil))))
    (pss_one (ps_ret (pe_op op_mod (pe_callTy call_int1 (by rfl) hi (by rfl) (pa_cons (pe_op op_add (pe_op op_add (pe_ix ix_list (pe_ix ix_list (pv 0) pe_int fun _ _ => rfl) (pe_op op_modN (pe_ix ix_list (pv 0) pe_int fun _ _ => rfl) (pe_callB call_len_seq (by rfl) hl PySem.boot_len (pa_cons (pe_ix ix_list (pv 0) pe_int fun _ _ => rfl) pa_nil))) fun _ _ => rfl)
      (pe_op op_mul (pv 2) pe_int)) (pe_op op_mul (pe_op op_mul (pe_ix ix_list (pv 0) pe_int fun _ _ => rfl) (pv 2)) pe_int)) pa_nil)) (pv 1))))), ?_⟩
  obtain ⟨F, a, m, g, ev, fh, ⟨fa, b, c, x, xs, ha, rb, c0, cg, g0, hx⟩, m0, g1, k⟩ := h
  subst ev
  have rb0 := rb
  cases rb with
  | @lst _ vs _ hS hA =>
  have hvl : vs.length = xs.length + 1 := by
    rw [hA.length, List.length_cons, List.length_map]
  have n0 : (0 : Int) < (vs.length : Int) := by omega
  have fh1 : Same F (upd H a (.lst [.ref b, .int (c + 1)])) := fun b' o e => by
    rw [upd_ne (ne_of_none e fa)]
    exact fh b' o e
  have hu : (upd H a (HO.lst [.ref b, .int (c + 1)])) a = some (.lst [.ref b, .int (c + 1)]) := upd_same
  have hS1 : SqL K (upd H a (.lst [.ref b, .int (c + 1)])) b vs := Same.sqL fh1 hS
  obtain ⟨y, hy⟩ : ∃ y : Int, atI vs ((c + 1).fmod (vs.length : Int)) = some (.int y) := by
    have e0 : 0 ≤ (c + 1).fmod (vs.length : Int) := by rw [Int.fmod_eq_emod_of_nonneg _ (Int.le_of_lt n0)]; exact Int.emod_nonneg _ (Int.ne_of_gt n0)
    have e1 : (c + 1).fmod (vs.length : Int) < vs.length := Int.fmod_lt_of_pos _ n0
    have hj : ((c + 1).fmod (vs.length : Int)).toNat < vs.length := by omega
    obtain ⟨v, ev⟩ : ∃ v, vs[((c + 1).fmod (vs.length : Int)).toNat]? = some v := ⟨_, List.getElem?_eq_getElem hj⟩
    obtain ⟨d, ed, rd⟩ := hA.get' ev
    have di : ∃ y : Int, d = .int y := by
      generalize ((c + 1).fmod (vs.length : Int)).toNat = j at ed
      cases j with
      | zero => exact ⟨x, (Option.some.inj ed).symm⟩
      | succ j =>
        rw [List.getElem?_cons_succ, List.getElem?_map] at ed
        cases e : xs[j]? with
        | none => rw [e] at ed; cases ed
        | some z => rw [e] at ed; exact ⟨z, (Option.some.inj ed).symm⟩
    obtain ⟨y, rfl⟩ := di
    cases rd
    refine ⟨y, ?_⟩
    unfold atI L2.ixN
    rw [if_pos e0, if_pos e1]
    exact ev
  have tb : ∀ t : Int, t = (c + 1).fdiv (vs.length : Int) → 0 ≤ t ∧ t ≤ c + 1 := fun t e => by
    rw [e, Int.fdiv_eq_ediv_of_nonneg _ (Int.le_of_lt n0)]
    exact ⟨Int.ediv_nonneg (by omega) (by omega), Int.ediv_le_self _ (by omega)⟩
  obtain ⟨t0, t1⟩ := tb _ rfl
  -- state[1] = state[1] + 1
  refine ⟨_, rfl, ?_⟩
  refine ⟨a, _, 1, _, rfl, rfl, SqL.of ha, rfl, ?_⟩
  refine ⟨_, _, rfl, rfl, ?_⟩
  refine ⟨_, rfl, a, _, 1, 1, rfl, rfl, ha, rfl, ?_⟩
  -- turn = state[1] // len(state[0])
  refine ⟨_, rfl, ?_⟩
  refine ⟨a, _, 1, _, rfl, rfl, SqL.of hu, rfl, ?_⟩
  refine ⟨_, rfl, ?_⟩
  refine ⟨a, _, 0, _, rfl, rfl, SqL.of hu, rfl, ?_⟩
  refine ⟨b, vs, rfl, .inl hS1, ?_⟩
  refine ⟨_, _, rfl, rfl, ⟨by omega, by omega⟩, ?_⟩
  -- the answer
  refine ⟨_, rfl, ?_⟩
  refine ⟨a, _, 0, _, rfl, rfl, SqL.of hu, rfl, ?_⟩
  refine ⟨_, rfl, ?_⟩
  refine ⟨a, _, 1, _, rfl, rfl, SqL.of hu, rfl, ?_⟩
  refine ⟨_, rfl, ?_⟩
  refine ⟨a, _, 0, _, rfl, rfl, SqL.of hu, rfl, ?_⟩
  refine ⟨b, vs, rfl, .inl hS1, ?_⟩
  refine ⟨_, _, rfl, rfl, by omega, ?_⟩
  refine ⟨b, vs, _, _, rfl, rfl, hS1, hy, ?_⟩
  refine ⟨_, rfl, ?_⟩
  refine ⟨_, _, rfl, rfl, .inr ⟨by decide, by decide⟩, ?_⟩
  refine ⟨_, _, rfl, rfl, ?_⟩
  refine ⟨_, rfl, ?_⟩
  refine ⟨a, _, 1, _, rfl, rfl, SqL.of hu, rfl, ?_⟩
  refine ⟨_, rfl, ?_⟩
  refine ⟨_, _, rfl, rfl, .inl ⟨by omega, by omega⟩, ?_⟩
  refine ⟨_, _, rfl, rfl, .inr ⟨by decide, by decide⟩, ?_⟩
  refine ⟨_, _, rfl, rfl, ?_⟩
  refine .inl ⟨_, rfl, ?_⟩
  refine ⟨_, rfl, ?_⟩
  refine ⟨_, _, rfl, rfl, m0, ?_⟩
  refine k _ _ (Int.emod_nonneg _ (by omega)) (Int.emod_lt_of_pos _ m0) ⟨Same.refl F, fun b' o e ne => ?_, fun b' _ e _ => e⟩ fh1 ⟨fa, b, c + 1, x, xs, hu, rb0, by omega, by omega, by omega, hx⟩
  rw [upd_ne fun z => ne (by rw [z])]
  exact e
end
end Dz
set_option Elab.async false
set_option linter.all false
set_option maxRecDepth 100000
/-! Dz: from the facts of a law's top to the law's promise. -/
namespace Dz
open PySem PySem.Spec PyProof PyProof.Rows L2
/-- the top has written the def st under its name -/
def DefFact (K : PySem.W.Frag) (x : Str) (st : Stmt) : Prop :=
  ∃ (f : Addr) (oc : Value) (od : Option Addr) (kV doc pm : Value) (an : Option Addr) (cd ct : Value) (osl : Array (Option Value)),
    PySem.W.nsIn K mainGlobals x = some (some (.ref f)) ∧ K.lookup f = some ⟨oc, od, .func (PySem.W.fnOf x x (defArgs st) (defBody st) (defScope st) .none kV doc pm an cd ct), osl⟩ ∧ PySem.W.codeIn K cd x = true ∧ PySem.W.keepIn K (.ref f) = true
theorem def_fact {K : PySem.W.Frag} {x : Str} {st : Stmt} {f : Addr} {oc : Value} {od : Option Addr} {kV doc pm : Value} {an : Option Addr} {cd ct : Value} {osl : Array (Option Value)}
    (a : PySem.W.nsIn K mainGlobals x = some (some (.ref f))) (l : K.lookup f = some ⟨oc, od, .func (PySem.W.fnOf x x (defArgs st) (defBody st) (defScope st) .none kV doc pm an cd ct), osl⟩) (c : PySem.W.codeIn K cd x = true) (k : PySem.W.keepIn K (.ref f) = true) :
    DefFact K x st := ⟨f, oc, od, kV, doc, pm, an, cd, ct, osl, a, l, c, k⟩
theorem DefFact.use {K : PySem.W.Frag} {x : Str} {st : Stmt} {h : Heap} {mg : Str → Option Value} (D : DefFact K x st) (X : K.In h) (G : h.Ns mainGlobals mg) : ∃ f fd, mg x = some (.ref f) ∧ L2.Fun K x x st f fd := by
  obtain ⟨f, oc, od, kV, doc, pm, an, cd, ct, osl, a, l, c, k⟩ := D
  exact ⟨f, _, PySem.W.mg_of X G a, fun_mk l c k⟩
/-- the top has made the exception class x -/
def ExcFact (K : PySem.W.Frag) (x : Str) : Prop :=
  ∃ C : Addr, PySem.W.nsIn K mainGlobals x = some (some (.ref C)) ∧ PySem.W.excIn K C [.type "ValueError", .type "Exception", .type "BaseException", .type "object"] "ValueError.__new__" = true ∧ PySem.W.keepIn K (.ref C) = true ∧
    PySem.W.subIn K (.ref C) (.type "BaseException") = some true ∧ PySem.W.typeIn K (.ref C) = some (.type "type")
theorem exc_fact {K : PySem.W.Frag} {x : Str} {C : Addr} (a : PySem.W.nsIn K mainGlobals x = some (some (.ref C))) (q : PySem.W.excIn K C [.type "ValueError", .type "Exception", .type "BaseException", .type "object"] "ValueError.__new__" = true) (k : PySem.W.keepIn K (.ref C) = true)
    (s : PySem.W.subIn K (.ref C) (.type "BaseException") = some true) (t : PySem.W.typeIn K (.ref C) = some (.type "type")) : ExcFact K x := ⟨C, a, q, k, s, t⟩
section
variable {tb : List Def} {B : Wish} {xs : List Nat} {P : Program} {w : World} {K : PySem.W.Frag} {mg : Str → Option Value} {base h : Heap}
theorem txts_of (X : K.In h) (G : h.Ns mainGlobals mg) (hB : ∀ m C, B (.cls m) (.ref C)) (b : ∀ x ∈ blts, PySem.W.nsIn K mainGlobals x = some none) (e : ∀ m ∈ xs, ExcFact K (exName m)) : Txts tb B xs P w K mg where
  blt := fun x hx => PySem.W.mg_none_of X G (b x hx)
  exc := fun m hm => by
    obtain ⟨C, a, q, k, s, t⟩ := e m hm
    exact ⟨C, PySem.W.mg_of X G a, q, k, s, t, hB _ _⟩
theorem all0 {p : Nat → Prop} : ∀ m ∈ ([] : List Nat), p m := fun _ h => absurd h List.not_mem_nil
theorem all1 {p : Nat → Prop} {a : Nat} {l : List Nat} (h : p a) (r : ∀ m ∈ l, p m) : ∀ m ∈ a :: l, p m := fun m hm => by
  rcases List.mem_cons.mp hm with e | e
  · rw [e]; exact h
  · exact r m e
def allDefs (tb : List Def) (xs : List Nat) (K : PySem.W.Frag) (mg : Str → Option Value) : List Def → Prop
  | [] => True
  | d :: r => (∃ st fa fd, DefAt tb xs K mg d st fa fd) ∧ allDefs tb xs K mg r
theorem allDefs_get : ∀ {l : List Def}, allDefs tb xs K mg l → ∀ (f : Nat) d, l[f]? = some d → ∃ st fa fd, DefAt tb xs K mg d st fa fd
  | [], _, _, _, e => by simp at e
  | d :: r, h, 0, _, e => by
    have e' : d = _ := Option.some.inj e
    subst e'
    exact h.1
  | d :: r, h, f + 1, e', e => allDefs_get (l := r) h.2 f e' (by simpa using e)
theorem defAt_of {d : Def} {st : Stmt} (X : K.In h) (G : h.Ns mainGlobals mg) (D : DefFact K d.name st) (sc : FnScope d.N d.ps (defScope st)) (is : isSL tb d.N false xs d.body (defScope st) (defBody st) = true)
    (bi : ∀ f fd, L2.Fun K d.name d.name st f fd → Binds K fd d.ps []) : ∃ st fa fd, DefAt tb xs K mg d st fa fd := by
  obtain ⟨f, fd, m, F⟩ := D.use X G
  exact ⟨st, f, fd, m, F, sc, bi f fd F, is⟩
theorem head_ok {fa : Addr} {d : Def} {st sn : Stmt} {n : Nat} (X : K.In h) (G : h.Ns mainGlobals mg) (hfa : mg d.name = some (.ref fa)) (T : Txts tb B xs P w K mg) (A : allDefs tb xs K mg tb)
    (N : DefFact K "_law_next" sn) (nk : ∀ base f fd, mg "len" = none → mg "int" = none → L2.Fun K "_law_next" "_law_next" sn f fd → FnG P w K mg base 1 f fd ["state", "many"] (spNext K)) (nb : ∀ f fd, L2.Fun K "_law_next" "_law_next" sn f fd → Binds K fd ["state", "many"] [])
    (D : DefFact K d.name st) (hps : d.ps = (["script"] : List Str)) (sc : FnScope d.N d.ps (defScope st)) (is : isSL tb d.N true xs d.body (defScope st) (defBody st) = true) (lb : ∀ f fd, L2.Fun K d.name d.name st f fd → ∀ (s : Shared) (u : Value), BindsTo s fd ⟨[u], []⟩ [("script", u)])
    (pure : ∀ ns : List Int, ns.length ≤ 63 → wpSL (Phi tb n) d.body (startE d [.fz (.list (ns.map PyData.int))]) 0 noX ⟨fun _ _ => False, fun r _ => r = .bool true, fun _ _ => False, fun _ _ => False⟩) :
    ∃ fd : FuncData, (∀ (s : Shared) (u : Value), BindsTo s fd ⟨[u], []⟩ [("script", u)]) ∧ ∀ base : Heap, K.In base → base.Ns mainGlobals mg → FnG P w K mg base (n + 2) fa fd ["script"] (spTrue K) := by
  obtain ⟨f, fd, m, F⟩ := D.use X G
  rw [hfa] at m
  cases m
  obtain ⟨fN, fdN, mN, FN⟩ := N.use X G
  have l1 : mg "len" = none := T.blt _ (by decide +kernel)
  have l2 : mg "int" = none := T.blt _ (by decide +kernel)
  refine ⟨fd, lb fa fd F, fun base hK hG => ?_⟩
  have hd : ∀ j, drawOk P w K mg base (j + 1) := fun j => ⟨fN, fdN, ["state", "many"], mN, FN.kp, nb fN fdN FN, (nk base fN fdN l1 l2 FN).mono (by omega)⟩
  exact law_ok (i := 0) T (hd n) (table_ok T (hd 0) (allDefs_get A) n) hps F sc is pure
end
end Dz
set_option Elab.async false
set_option linter.all false
set_option maxRecDepth 100000
/-! Dz: loops by an invariant; how long the text of data is. -/
namespace Dz
open PySem
theorem loopF_inv {tg : Tg} {body : Ev → Nat → Kt → Prop} {k : Kt} (I : Nat → Ev → Nat → Prop) : ∀ (ds : List D) (i0 : Nat) (ρ : Ev) (g : Nat), I i0 ρ g →
    (∀ (i : Nat) (d : D) (ρ : Ev) (g : Nat) (nx : Ev → Nat → Prop), ds[i]? = some d → I (i0 + i) ρ g → (∀ ρ g, I (i0 + i + 1) ρ g → nx ρ g) → ∃ ρ', bindT tg d ρ = some ρ' ∧ body ρ' g ⟨nx, k.rt, k.nx, nx⟩) →
    (∀ ρ g, I (i0 + ds.length) ρ g → k.nx ρ g) → loopF tg body ds ρ g k
  | [], i0, ρ, g, h, _, e => e ρ g h
  | d :: ds, i0, ρ, g, h, st, e => by
    refine st 0 d ρ g _ rfl h fun ρ g h1 => ?_
    refine loopF_inv I ds (i0 + 1) ρ g h1 (fun i d ρ g nx hd hI hn => ?_) fun ρ g h2 => ?_
    · exact st (i + 1) d ρ g nx (by simpa using hd) (by rw [show i0 + (i + 1) = i0 + 1 + i by omega]; exact hI) fun ρ g h3 => hn ρ g (by rw [show i0 + 1 + i + 1 = i0 + (i + 1) + 1 by omega]; exact h3)
    · exact e ρ g (by rw [List.length_cons, show i0 + (ds.length + 1) = i0 + 1 + ds.length by omega]; exact h2)
/-- a for loop: I i of what is held ahead of the i-th turn -/
theorem for_inv {tg : Tg} {body : Ev → Nat → Kt → Prop} {k : Kt} (I : Nat → Ev → Nat → Prop) {ds : List D} {ρ : Ev} {g : Nat} (h0 : I 0 ρ g)
    (st : ∀ (i : Nat) (d : D) (ρ : Ev) (g : Nat) (nx : Ev → Nat → Prop), ds[i]? = some d → I i ρ g → (∀ ρ g, I (i + 1) ρ g → nx ρ g) → ∃ ρ', bindT tg d ρ = some ρ' ∧ body ρ' g ⟨nx, k.rt, k.nx, nx⟩)
    (e : ∀ ρ g, I ds.length ρ g → k.nx ρ g) : loopF tg body ds ρ g k :=
  loopF_inv I ds 0 ρ g h0 (fun i d ρ g nx hd hI hn => st i d ρ g nx hd (by rw [Nat.zero_add] at hI; exact hI) fun ρ g h => hn ρ g (by rw [Nat.zero_add]; exact h)) fun ρ g h => e ρ g (by rw [Nat.zero_add] at h; exact h)
theorem loopC_inv {f : D → Nat → (Option D → Nat → Prop) → Prop} {k : List D → Nat → Prop} (I : Nat → List D → Nat → Prop) : ∀ (ds : List D) (i0 : Nat) (acc : List D) (g : Nat), I i0 acc g →
    (∀ (i : Nat) (d : D) (acc : List D) (g : Nat) (K : Option D → Nat → Prop), ds[i]? = some d → I (i0 + i) acc g → (∀ g', I (i0 + i + 1) acc g' → K none g') → (∀ y g', acc.length < sizeLine → I (i0 + i + 1) (acc ++ [y]) g' → K (some y) g') → f d g K) →
    (∀ acc g, I (i0 + ds.length) acc g → k acc g) → loopC f ds acc g k
  | [], i0, acc, g, h, _, e => e acc g h
  | d :: ds, i0, acc, g, h, st, e => by
    have go : ∀ acc g, I (i0 + 1) acc g → loopC f ds acc g k := fun acc g h1 => by
      refine loopC_inv I ds (i0 + 1) acc g h1 (fun i d acc g K hd hI hn hs => ?_) fun acc g h2 => ?_
      · refine st (i + 1) d acc g K (by simpa using hd) (by rw [show i0 + (i + 1) = i0 + 1 + i by omega]; exact hI) (fun g' h3 => hn g' (by rw [show i0 + 1 + i + 1 = i0 + (i + 1) + 1 by omega]; exact h3)) fun y g' hl h3 => hs y g' hl (by rw [show i0 + 1 + i + 1 = i0 + (i + 1) + 1 by omega]; exact h3)
      · exact e acc g (by rw [List.length_cons, show i0 + (ds.length + 1) = i0 + 1 + ds.length by omega]; exact h2)
    exact st 0 d acc g _ rfl h (fun g' h1 => go acc g' h1) fun y g' hl h1 => ⟨hl, go _ g' h1⟩
/-- a comprehension: I i of what is made ahead of the i-th item -/
theorem comp_inv {f : D → Nat → (Option D → Nat → Prop) → Prop} {k : List D → Nat → Prop} (I : Nat → List D → Nat → Prop) {ds : List D} {g : Nat} (h0 : I 0 [] g)
    (st : ∀ (i : Nat) (d : D) (acc : List D) (g : Nat) (K : Option D → Nat → Prop), ds[i]? = some d → I i acc g → (∀ g', I (i + 1) acc g' → K none g') → (∀ y g', acc.length < sizeLine → I (i + 1) (acc ++ [y]) g' → K (some y) g') → f d g K)
    (e : ∀ acc g, I ds.length acc g → k acc g) : loopC f ds [] g k :=
  loopC_inv I ds 0 [] g h0 (fun i d acc g K hd hI hn hs => st i d acc g K hd (by rw [Nat.zero_add] at hI; exact hI) (fun g' h => hn g' (by rw [Nat.zero_add]; exact h)) fun y g' hl h => hs y g' hl (by rw [Nat.zero_add]; exact h)) fun acc g h => e acc g (by rw [Nat.zero_add] at h; exact h)
theorem loopW_inv {c : Ev → Nat → (Bool → Nat → Prop) → Prop} {body : Ev → Nat → Kt → Prop} {k : Kt} (I : Ev → Nat → Prop) (m : Ev → Nat)
    (st : ∀ (ρ : Ev) (g : Nat) (kc : Bool → Nat → Prop), I ρ g → (∀ g', (∀ nx : Ev → Nat → Prop, (∀ ρ' g', I ρ' g' → m ρ' < m ρ → nx ρ' g') → body ρ g' ⟨nx, k.rt, k.nx, nx⟩) → kc true g') → (∀ g', k.nx ρ g' → kc false g') → c ρ g kc) :
    ∀ (n : Nat) (ρ : Ev) (g : Nat), I ρ g → m ρ < n → loopW c body n ρ g k
  | 0, ρ, g, _, h => absurd h (Nat.not_lt_zero _)
  | n + 1, ρ, g, h, hm => by
    refine st ρ g _ h (fun g' hb => ?_) fun g' hk => ?_
    · rw [if_pos rfl]
      exact hb _ fun ρ' g' h' lt => loopW_inv I m st n ρ' g' h' (Nat.lt_of_lt_of_le lt (Nat.le_of_lt_succ hm))
    · rw [if_neg Bool.false_ne_true]
      exact hk
/-- a while loop: I of what is held, m grows less -/
theorem while_inv {c : Ev → Nat → (Bool → Nat → Prop) → Prop} {body : Ev → Nat → Kt → Prop} {k : Kt} (I : Ev → Nat → Prop) (m : Ev → Nat) {ρ : Ev} {g : Nat} (h0 : I ρ g)
    (st : ∀ (ρ : Ev) (g : Nat) (kc : Bool → Nat → Prop), I ρ g → (∀ g', (∀ nx : Ev → Nat → Prop, (∀ ρ' g', I ρ' g' → m ρ' < m ρ → nx ρ' g') → body ρ g' ⟨nx, k.rt, k.nx, nx⟩) → kc true g') → (∀ g', k.nx ρ g' → kc false g') → c ρ g kc) :
    ∃ n, loopW c body n ρ g k := ⟨m ρ + 1, loopW_inv I m st (m ρ + 1) ρ g h0 (Nat.lt_succ_self _)⟩
theorem rng_at {lo hi : Int} {i : Nat} {d : D} (h : (rangeD lo hi)[i]? = some d) : d = .int (lo + i) ∧ lo + i < hi := by
  unfold rangeD at h
  rw [List.getElem?_map] at h
  by_cases c : i < (hi - lo).toNat
  · rw [List.getElem?_range c] at h
    exact ⟨(Option.some.inj h).symm, by omega⟩
  · rw [List.getElem?_eq_none (by rw [List.length_range]; omega)] at h
    cases h
theorem rng_len (lo hi : Int) : (rangeD lo hi).length = (hi - lo).toNat := by unfold rangeD; rw [List.length_map, List.length_range]
theorem at_of {xs : List D} {i : Nat} {d : D} (h : xs[i]? = some d) : at_ xs (i : Int) = some d := by
  have hi : i < xs.length := (List.getElem?_eq_some_iff.mp h).1
  unfold at_ ixN
  rw [if_pos (by omega), if_pos (by omega)]
  exact h
theorem sIx_nat (n d k : Nat) : sIx n d (some (k : Int)) = min k n := by
  show (if (k : Int) < 0 then ((k : Int) + (n : Int)).toNat else min (k : Int).toNat n) = min k n
  rw [if_neg (by omega), Int.toNat_natCast]
theorem cut_from (xs : List D) (k : Nat) : cutD xs (some (k : Int)) none = xs.drop k := by
  unfold cutD
  rw [sIx_nat]
  show (xs.drop (min k xs.length)).take (xs.length - min k xs.length) = xs.drop k
  rw [List.take_of_length_le (by rw [List.length_drop]; omega)]
  by_cases h : k ≤ xs.length
  · rw [Nat.min_eq_left h]
  · rw [Nat.min_eq_right (by omega), List.drop_eq_nil_of_le (Nat.le_refl _), List.drop_eq_nil_of_le (by omega)]
theorem cut_to (xs : List D) (k : Nat) : cutD xs none (some (k : Int)) = xs.take k := by
  unfold cutD
  rw [sIx_nat]
  show (xs.drop 0).take (min k xs.length - 0) = xs.take k
  rw [List.drop_zero, Nat.sub_zero]
  by_cases h : k ≤ xs.length
  · rw [Nat.min_eq_left h]
  · rw [Nat.min_eq_right (by omega), List.take_of_length_le (Nat.le_refl _), List.take_of_length_le (by omega)]
/-! ### how the looks at data go on -/
section
variable {d e : D} {k : D → Prop} {P : Prop} {i j : Int} {a b : Str} {xs ys : List D} {g : Nat}
theorem e_fz : onFz (some (.fz d)) k = k d := rfl
theorem e_ow : onOw (some (.ow d)) k = k d := rfl
theorem e_st : onSt (some .st) P = P := rfl
theorem e_int {k : Int → Prop} : onInt (.int i) k = k i := rfl
theorem e_int2 {k : Int → Int → Prop} : onInt2 (.int i) (.int j) k = k i j := rfl
theorem e_list {k : List D → Prop} : onList (.list xs) k = k xs := rfl
theorem e_seqs1 {k : List D → List D → Prop} : onSeqs (.list xs) (.list ys) k = k xs ys := rfl
theorem e_seqs2 {k : List D → List D → Prop} : onSeqs (.tuple xs) (.tuple ys) k = k xs ys := rfl
theorem e_seq1 {k : List D → Prop} : onSeq (.list xs) k = k xs := rfl
theorem e_seq2 {k : List D → Prop} : onSeq (.tuple xs) k = k xs := rfl
theorem e_bool {k : Bool → Nat → Prop} {t : Bool} : onBool k (.bool t) g = k t g := rfl
theorem e_kept0 {A : Prop} : onKept none A k = A := rfl
theorem e_kept1 {A : Prop} : onKept (some d) A k = k d := rfl
theorem e_add : binD .add (.int i) (.int j) k = k (.int (i + j)) := rfl
theorem e_cat : binD .add (.str a) (.str b) k = (a.length + b.length ≤ sizeLine ∧ k (.str (a ++ b))) := rfl
theorem e_sub : binD .sub (.int i) (.int j) k = k (.int (i - j)) := rfl
theorem e_mul : binD .mul (.int i) (.int j) k = (mulOk i j ∧ k (.int (i * j))) := rfl
theorem e_fdiv : binD .fdiv (.int i) (.int j) k = ((j ≠ 0 ∧ j.natAbs.log2 < 9000) ∧ k (.int (i.fdiv j))) := rfl
theorem e_mod : binD .mod (.int i) (.int j) k = (j ≠ 0 ∧ k (.int (i.fmod j))) := rfl
theorem e_pow : binD .pow (.int i) (.int j) k = ((0 ≤ j ∧ j ≤ 1000000 ∧ i.natAbs < 2 ^ 64) ∧ k (.int (i ^ j.toNat))) := rfl
theorem e_eqI : cmpD .eq (.int i) (.int j) k = k (.bool (decide (i = j))) := rfl
theorem e_eqS : cmpD .eq (.str a) (.str b) k = k (.bool (decide (a = b))) := rfl
theorem e_neI : cmpD .ne (.int i) (.int j) k = k (.bool (!decide (i = j))) := rfl
theorem e_neS : cmpD .ne (.str a) (.str b) k = k (.bool (!decide (a = b))) := rfl
theorem e_lt : cmpD .lt (.int i) (.int j) k = k (.bool (decide (i < j))) := rfl
theorem e_le : cmpD .le (.int i) (.int j) k = k (.bool (decide (i ≤ j))) := rfl
theorem e_gt : cmpD .gt (.int i) (.int j) k = k (.bool (decide (j < i))) := rfl
theorem e_ge : cmpD .ge (.int i) (.int j) k = k (.bool (decide (j ≤ i))) := rfl
theorem e_ixL : ixD (.list xs) (.int i) k = ∃ d, at_ xs i = some d ∧ k d := rfl
theorem e_ixT : ixD (.tuple xs) (.int i) k = ∃ d, at_ xs i = some d ∧ k d := rfl
theorem e_slL {lo hi : Option Int} : sliceD (.list xs) lo hi k = k (.list (cutD xs lo hi)) := rfl
theorem e_slT {lo hi : Option Int} : sliceD (.tuple xs) lo hi k = k (.tuple (cutD xs lo hi)) := rfl
theorem e_lenL : fnD .len [.list xs] k = k (.int xs.length) := rfl
theorem e_lenT : fnD .len [.tuple xs] k = k (.int xs.length) := rfl
theorem e_abs : fnD .abs [.int i] k = k (.int (if i < 0 then -i else i)) := rfl
theorem e_intI : fnD .int [.int i] k = k (.int i) := rfl
theorem e_intB {t : Bool} : fnD .int [.bool t] k = k (.int (if t then 1 else 0)) := rfl
theorem e_str : fnD .str [.int i] k = (i.natAbs.log2 < 1920 ∧ k (.str (toString i))) := rfl
theorem e_max : fnD .max [.int i, .int j] k = k (.int (if j > i then j else i)) := rfl
theorem e_min : fnD .min [.int i, .int j] k = k (.int (if j < i then j else i)) := rfl
theorem e_repr : fnD .repr [.list xs] k = (((PyData.list xs).showable = true ∧ (PyData.list xs).depth < 50 ∧ (PyData.list xs).hasDict = false ∧ (PyData.list xs).shown.length ≤ sizeLine) ∧ k (.str (PyData.list xs).shown)) := rfl
theorem e_fI {k : Str → Prop} : strD (.int i) k = (i.natAbs.log2 < 1920 ∧ k (toString i)) := rfl
theorem e_fS {k : Str → Prop} : strD (.str a) k = (a.length ≤ sizeLine ∧ k a) := rfl
theorem some_ex {α : Type} {a : α} {p : α → Prop} : (∃ x, some a = some x ∧ p x) = p a := propext ⟨fun ⟨x, e, h⟩ => by cases e; exact h, fun h => ⟨a, rfl, h⟩⟩
theorem if_tt {A B : Prop} : (if true = true then A else B) = A := if_pos rfl
theorem if_ff {A B : Prop} : (if false = true then A else B) = B := if_neg Bool.false_ne_true
end
/-! ### the length of a text -/
mutual
def siz : PyData → Nat
  | .none => 8
  | .bool _ => 8
  | .int _ => 1925
  | .str x => (PySem.reprText x).length
  | .list xs => sizA xs + 4
  | .tuple xs => sizA xs + 4
  | .dict _ => 0
def sizA : List PyData → Nat
  | [] => 0
  | x :: xs => siz x + 2 + sizA xs
end
theorem listText_le (ts : List Str) : (listText ts).length ≤ piled ts + 4 := by
  cases ts with
  | nil => decide
  | cons t r =>
    have h := textFrom_length_pos r 1 (("[" : Str) ++ (if (0 : Nat) > 0 then ", " else "" : String) ++ t) (Nat.succ_pos 0)
    have e : ((("[" : Str) ++ (if (0 : Nat) > 0 then ", " else "" : String) ++ t)).length = 1 + t.length := by
      rw [strLen_append, strLen_append]; rfl
    have hX : (listText (t :: r)).length = (textFrom 1 (("[" : Str) ++ (if (0 : Nat) > 0 then ", " else "" : String) ++ t) r).length + 1 := by
      show (textFrom 0 "[" (t :: r) ++ "]").length = _
      rw [strLen_append]; rfl
    rw [hX, h, e, piled_cons]; omega
theorem tupleText_le (ts : List Str) : (tupleText ts).length ≤ piled ts + 4 := by
  unfold tupleText
  rw [strLen_append, strLen_append]
  have e1 : ((("(" : String) : Str)).length = 1 := rfl
  have e3 : (((if ts.length == 1 then ",)" else ")" : String) : Str)).length ≤ 2 := by split <;> decide
  have e2 : (Str.join ", " ts).length ≤ piled ts := by
    cases ts with
    | nil => decide
    | cons t r =>
      have := join_length_add (t :: r) (by simp)
      omega
  rw [e1]; omega
mutual
theorem shown_le : ∀ d : PyData, d.showable = true → d.hasDict = false → d.shown.length ≤ siz d
  | .none, _, _ => by decide
  | .bool true, _, _ => by decide
  | .bool false, _, _ => by decide
  | .int i, h, _ => by
    have h' : i.natAbs.log2 < 1920 := by simpa [PyData.showable] using h
    have := PyProof.Rows.int_text_len_1921 h'
    show (PySem.Str.ofString (toString i)).length ≤ 1925
    omega
  | .str x, _, _ => Nat.le_refl _
  | .list xs, h, hd => by
    have := shownA_le xs (by simpa [PyData.showable] using h) (by simpa [PyData.hasDict] using hd)
    have := listText_le (PyData.shownAll xs)
    show (listText (PyData.shownAll xs)).length ≤ sizA xs + 4
    omega
  | .tuple xs, h, hd => by
    have := shownA_le xs (by simpa [PyData.showable] using h) (by simpa [PyData.hasDict] using hd)
    have := tupleText_le (PyData.shownAll xs)
    show (tupleText (PyData.shownAll xs)).length ≤ sizA xs + 4
    omega
  | .dict _, _, hd => by simp [PyData.hasDict] at hd
theorem shownA_le : ∀ xs : List PyData, PyData.showableAll xs = true → PyData.hasDictAll xs = false → piled (PyData.shownAll xs) ≤ sizA xs
  | [], _, _ => by decide
  | x :: xs, h, hd => by
    have h' : x.showable = true ∧ PyData.showableAll xs = true := by simpa [PyData.showableAll] using h
    have hd' : x.hasDict = false ∧ PyData.hasDictAll xs = false := by simpa [PyData.hasDictAll] using hd
    have a := shown_le x h'.1 hd'.1
    have b := shownA_le xs h'.2 hd'.2
    show piled (x.shown :: PyData.shownAll xs) ≤ siz x + 2 + sizA xs
    rw [piled_cons]
    omega
end
/-- what a repr asks of d: at most dp levels, at most m signs -/
def Sh (dp m : Nat) (d : PyData) : Prop := d.showable = true ∧ d.hasDict = false ∧ d.depth ≤ dp ∧ siz d ≤ m
def ShA (dp m : Nat) (xs : List PyData) : Prop := PyData.showableAll xs = true ∧ PyData.hasDictAll xs = false ∧ PyData.depthAll xs ≤ dp ∧ sizA xs ≤ m
abbrev Shw (m : Nat) (d : PyData) : Prop := Sh 40 m d
theorem Sh.mono {a b m k : Nat} {d : PyData} (h : Sh a m d) (ab : a ≤ b) (mk : m ≤ k) : Sh b k d := ⟨h.1, h.2.1, Nat.le_trans h.2.2.1 ab, Nat.le_trans h.2.2.2 mk⟩
theorem sh_int {dp : Nat} {i : Int} (h : i.natAbs.log2 < 1920) : Sh dp 1925 (.int i) := ⟨by simp only [PyData.showable, h, decide_true], by simp only [PyData.hasDict], by simp only [PyData.depth]; exact Nat.zero_le _, by simp only [siz]; decide⟩
theorem sh_bool {dp : Nat} {b : Bool} : Sh dp 8 (.bool b) := ⟨by simp only [PyData.showable], by simp only [PyData.hasDict], by simp only [PyData.depth]; exact Nat.zero_le _, by simp only [siz]; decide⟩
theorem sh_none {dp : Nat} : Sh dp 8 .none := ⟨by simp only [PyData.showable], by simp only [PyData.hasDict], by simp only [PyData.depth]; exact Nat.zero_le _, by simp only [siz]; decide⟩
theorem sh_str {dp : Nat} {x : Str} {m : Nat} (h : (PySem.reprText x).length ≤ m) : Sh dp m (.str x) := ⟨by simp only [PyData.showable], by simp only [PyData.hasDict], by simp only [PyData.depth]; exact Nat.zero_le _, by simp only [siz]; exact h⟩
theorem sh_list {dp m : Nat} {xs : List PyData} (h : ShA dp m xs) : Sh (dp + 1) (m + 4) (.list xs) :=
  ⟨by simp only [PyData.showable, h.1], by simp only [PyData.hasDict, h.2.1], by simp only [PyData.depth]; exact Nat.succ_le_succ h.2.2.1, by simp only [siz]; exact Nat.add_le_add_right h.2.2.2 _⟩
theorem sh_tup {dp m : Nat} {xs : List PyData} (h : ShA dp m xs) : Sh (dp + 1) (m + 4) (.tuple xs) :=
  ⟨by simp only [PyData.showable, h.1], by simp only [PyData.hasDict, h.2.1], by simp only [PyData.depth]; exact Nat.succ_le_succ h.2.2.1, by simp only [siz]; exact Nat.add_le_add_right h.2.2.2 _⟩
theorem ShA.nil {dp : Nat} : ShA dp 0 [] := ⟨by simp only [PyData.showableAll], by simp only [PyData.hasDictAll], by simp only [PyData.depthAll]; exact Nat.zero_le _, by simp only [sizA]; exact Nat.le_refl _⟩
theorem ShA.cons {dp m k : Nat} {x : PyData} {xs : List PyData} (h : Sh dp m x) (r : ShA dp k xs) : ShA dp (m + 2 + k) (x :: xs) :=
  ⟨by simp only [PyData.showableAll, h.1, r.1, Bool.and_self], by simp only [PyData.hasDictAll, h.2.1, r.2.1, Bool.or_self], by simp only [PyData.depthAll]; exact Nat.max_le.mpr ⟨h.2.2.1, r.2.2.1⟩, by
    simp only [sizA]
    exact Nat.add_le_add (Nat.add_le_add_right h.2.2.2 _) r.2.2.2⟩
/-- a list of alike items -/
theorem ShA.all {dp m : Nat} : ∀ {xs : List PyData}, (∀ x ∈ xs, Sh dp m x) → ShA dp (xs.length * (m + 2)) xs
  | [], _ => by simpa using ShA.nil
  | x :: xs, h => by
    have r := ShA.cons (h x (by simp)) (ShA.all fun y hy => h y (List.mem_cons_of_mem _ hy))
    rw [List.length_cons, Nat.add_mul, Nat.one_mul, Nat.add_comm]
    exact r
end Dz
set_option Elab.async false
set_option linter.all false
set_option maxRecDepth 100000
/-! the defs of the law, in the small language -/
namespace Dz
open PySem
/-- _law_stream: 0 script, 1 numbers, 2 cell, 3 rest, 4 k, 5 stirred -/
def b_law_stream_9 : SL := (.cons .brk .nil)
def b_law_stream_8 : SL := (.cons (.ifs (.cmp .eq (.var 3) (.int 0)) b_law_stream_9 .nil) .nil)
def b_law_stream_7 : SL := (.cons (.set 3 (.bin .fdiv (.var 3) (.int 1009))) b_law_stream_8)
def b_law_stream_6 : SL := (.cons (.append 1 (.bin .mod (.fn .int (.cons (.var 3) .nil)) (.int 1009))) b_law_stream_7)
def b_law_stream_5 : SL := (.cons (.for_ (.v 4) (.range1 (.int 60)) b_law_stream_6) .nil)
def b_law_stream_14 : SL := (.cons (.append 1 (.bin .mod (.bin .mod (.fn .int (.cons (.bin .add (.bin .mul (.var 5) (.int 69621)) (.var 4)) .nil)) (.int 2147483629)) (.int 1009))) .nil)
def b_law_stream_13 : SL := (.cons (.set 5 (.bin .mod (.fn .int (.cons (.bin .add (.bin .add (.bin .mul (.var 5) (.int 48271)) (.bin .mul (.int 7) (.var 4))) (.int 11)) .nil)) (.int 2147483647))) b_law_stream_14)
def b_law_stream_12 : SL := (.cons (.for_ (.v 4) (.range1 (.int 10)) b_law_stream_13) .nil)
def b_law_stream_11 : SL := (.cons (.set 5 (.bin .mod (.fn .int (.cons (.var 3) .nil)) (.int 2147483647))) b_law_stream_12)
def b_law_stream_4 : SL := (.cons (.ifs (.cmp .ge (.var 3) (.bin .pow (.int 10) (.int 18))) b_law_stream_5 b_law_stream_11) .nil)
def b_law_stream_3 : SL := (.cons (.set 3 (.fn .abs (.cons (.fn .int (.cons (.var 2) .nil)) .nil))) b_law_stream_4)
def b_law_stream_16 : SL := (.cons (.append 1 (.int 0)) .nil)
def b_law_stream_17 : SL := (.cons (.freeze 1) (.cons (.ret (.var 1)) .nil))
def b_law_stream_15 : SL := (.cons (.ifs (.cmp .eq (.fn .len (.cons (.own 1) .nil)) (.int 0)) b_law_stream_16 .nil) b_law_stream_17)
def b_law_stream_2 : SL := (.cons (.for_ (.v 2) (.of (.slice (.var 0) .no (.ye (.int 63)))) b_law_stream_3) b_law_stream_15)
def b_law_stream_1 : SL := (.cons (.setO 1 (.lst .nil)) b_law_stream_2)
abbrev b_law_stream : SL := b_law_stream_1
def d_law_stream : Def := ⟨"_law_stream", ["script"], ["script", "numbers", "cell", "rest", "k", "stirred"], b_law_stream⟩
/-- _law_divisor: 0 first, 1 second -/
def b_law_divisor_4 : SL := (.cons (.par [0, 1] (.cons (.var 1) (.cons (.bin .mod (.fn .int (.cons (.var 0) .nil)) (.var 1)) .nil))) .nil)
def b_law_divisor_5 : SL := (.cons (.ret (.var 0)) .nil)
def b_law_divisor_3 : SL := (.cons (.while_ (.cmp .gt (.var 1) (.int 0)) b_law_divisor_4) b_law_divisor_5)
def b_law_divisor_2 : SL := (.cons (.set 1 (.fn .max (.cons (.var 1) (.cons (.bin .sub (.int 0) (.var 1)) .nil)))) b_law_divisor_3)
def b_law_divisor_1 : SL := (.cons (.set 0 (.fn .max (.cons (.var 0) (.cons (.bin .sub (.int 0) (.var 0)) .nil)))) b_law_divisor_2)
abbrev b_law_divisor : SL := b_law_divisor_1
def d_law_divisor : Def := ⟨"_law_divisor", ["first", "second"], ["first", "second"], b_law_divisor⟩
/-- _law_ratio: 0 top, 1 below, 2 common -/
def b_law_ratio_3 : SL := (.cons (.set 2 (.bin .sub (.int 0) (.var 2))) .nil)
def b_law_ratio_4 : SL := (.cons (.ret (.tup (.cons (.bin .fdiv (.var 0) (.var 2)) (.cons (.bin .fdiv (.var 1) (.var 2)) .nil)))) .nil)
def b_law_ratio_2 : SL := (.cons (.ifs (.cmp .lt (.var 1) (.int 0)) b_law_ratio_3 .nil) b_law_ratio_4)
def b_law_ratio_1 : SL := (.cons (.set 2 (.call 1 (.cons (.var 0) (.cons (.var 1) .nil)))) b_law_ratio_2)
abbrev b_law_ratio : SL := b_law_ratio_1
def d_law_ratio : Def := ⟨"_law_ratio", ["top", "below"], ["top", "below", "common"], b_law_ratio⟩
/-- _law_drawn: 0 state, 1 top -/
def b_law_drawn_2 : SL := (.cons (.ret (.call 2 (.cons (.bin .mul (.var 1) (.ix (.lst (.cons (.int 1) (.cons (.bin .pow (.int 10) (.int 6)) .nil))) (.fn .int (.cons (.cmp .eq (.draw 0 (.int 5)) (.int 0)) .nil)))) (.cons (.bin .add (.int 1) (.draw 0 (.int 60))) .nil)))) .nil)
def b_law_drawn_1 : SL := (.cons (.set 1 (.bin .sub (.draw 0 (.int 400)) (.int 200))) b_law_drawn_2)
abbrev b_law_drawn : SL := b_law_drawn_1
def d_law_drawn : Def := ⟨"_law_drawn", ["state"], ["state", "top"], b_law_drawn⟩
/-- _law_same: 0 told, 1 due -/
def b_law_same_1 : SL := (.cons (.ret (.cmp .eq (.fn .repr (.cons (.lst (.cons (.var 0) .nil)) .nil)) (.fn .repr (.cons (.lst (.cons (.var 1) .nil)) .nil)))) .nil)
abbrev b_law_same : SL := b_law_same_1
def d_law_same : Def := ⟨"_law_same", ["told", "due"], ["told", "due"], b_law_same⟩
/-- _law_plus: 0 first, 1 second -/
def b_law_plus_1 : SL := (.cons (.ret (.call 2 (.cons (.bin .add (.bin .mul (.ix (.var 0) (.int 0)) (.ix (.var 1) (.int 1))) (.bin .mul (.ix (.var 1) (.int 0)) (.ix (.var 0) (.int 1)))) (.cons (.bin .mul (.ix (.var 0) (.int 1)) (.ix (.var 1) (.int 1))) .nil)))) .nil)
abbrev b_law_plus : SL := b_law_plus_1
def d_law_plus : Def := ⟨"_law_plus", ["first", "second"], ["first", "second"], b_law_plus⟩
/-- _law_less: 0 first, 1 second -/
def b_law_less_1 : SL := (.cons (.ret (.cmp .lt (.bin .mul (.ix (.var 0) (.int 0)) (.ix (.var 1) (.int 1))) (.bin .mul (.ix (.var 1) (.int 0)) (.ix (.var 0) (.int 1))))) .nil)
abbrev b_law_less : SL := b_law_less_1
def d_law_less : Def := ⟨"_law_less", ["first", "second"], ["first", "second"], b_law_less⟩
/-- ratio_text: 0 value -/
def b_ratio_text_1 : SL := (.cons (.ret (.ite (.cmp .eq (.ix (.var 0) (.int 1)) (.int 1)) (.fn .str (.cons (.ix (.var 0) (.int 0)) .nil)) (.fmt (.cons (.ix (.var 0) (.int 0)) (.cons (.str "/") (.cons (.ix (.var 0) (.int 1)) .nil)))))) .nil)
abbrev b_ratio_text : SL := b_ratio_text_1
def d_ratio_text : Def := ⟨"ratio_text", ["value"], ["value"], b_ratio_text⟩
/-- divisor: 0 first, 1 second -/
def b_divisor_3 : SL := (.cons (.par [0, 1] (.cons (.var 1) (.cons (.bin .mod (.var 0) (.var 1)) .nil))) .nil)
def b_divisor_4 : SL := (.cons (.ret (.var 0)) .nil)
def b_divisor_2 : SL := (.cons (.while_ (.cmp .gt (.var 1) (.int 0)) b_divisor_3) b_divisor_4)
def b_divisor_1 : SL := (.cons (.par [0, 1] (.cons (.fn .abs (.cons (.var 0) .nil)) (.cons (.fn .abs (.cons (.var 1) .nil)) .nil))) b_divisor_2)
abbrev b_divisor : SL := b_divisor_1
def d_divisor : Def := ⟨"divisor", ["first", "second"], ["first", "second"], b_divisor⟩
/-- ratio: 0 top, 1 below, 2 common -/
def b_ratio_2 : SL := (.cons (.raise 0) .nil)
def b_ratio_5 : SL := (.cons (.set 2 (.neg (.var 2))) .nil)
def b_ratio_6 : SL := (.cons (.ret (.tup (.cons (.bin .fdiv (.var 0) (.var 2)) (.cons (.bin .fdiv (.var 1) (.var 2)) .nil)))) .nil)
def b_ratio_4 : SL := (.cons (.ifs (.cmp .lt (.var 1) (.int 0)) b_ratio_5 .nil) b_ratio_6)
def b_ratio_3 : SL := (.cons (.set 2 (.call 8 (.cons (.var 0) (.cons (.var 1) .nil)))) b_ratio_4)
def b_ratio_1 : SL := (.cons (.ifs (.cmp .eq (.var 1) (.int 0)) b_ratio_2 .nil) b_ratio_3)
abbrev b_ratio : SL := b_ratio_1
def d_ratio : Def := ⟨"ratio", ["top", "below"], ["top", "below", "common"], b_ratio⟩
/-- is_ratio: 0 value -/
def b_is_ratio_1 : SL := (.cons (.ret (.and (.cmp .eq (.fn .len (.cons (.var 0) .nil)) (.int 2)) (.and (.cmp .ge (.ix (.var 0) (.int 1)) (.int 1)) (.cmp .eq (.call 8 (.cons (.ix (.var 0) (.int 0)) (.cons (.ix (.var 0) (.int 1)) .nil))) (.int 1))))) .nil)
abbrev b_is_ratio : SL := b_is_ratio_1
def d_is_ratio : Def := ⟨"is_ratio", ["value"], ["value"], b_is_ratio⟩
/-- added: 0 first, 1 second -/
def b_added_1 : SL := (.cons (.ret (.call 9 (.cons (.bin .add (.bin .mul (.ix (.var 0) (.int 0)) (.ix (.var 1) (.int 1))) (.bin .mul (.ix (.var 1) (.int 0)) (.ix (.var 0) (.int 1)))) (.cons (.bin .mul (.ix (.var 0) (.int 1)) (.ix (.var 1) (.int 1))) .nil)))) .nil)
abbrev b_added : SL := b_added_1
def d_added : Def := ⟨"added", ["first", "second"], ["first", "second"], b_added⟩
/-- negative: 0 value -/
def b_negative_1 : SL := (.cons (.ret (.tup (.cons (.neg (.ix (.var 0) (.int 0))) (.cons (.ix (.var 0) (.int 1)) .nil)))) .nil)
abbrev b_negative : SL := b_negative_1
def d_negative : Def := ⟨"negative", ["value"], ["value"], b_negative⟩
/-- times: 0 first, 1 second -/
def b_times_1 : SL := (.cons (.ret (.call 9 (.cons (.bin .mul (.ix (.var 0) (.int 0)) (.ix (.var 1) (.int 0))) (.cons (.bin .mul (.ix (.var 0) (.int 1)) (.ix (.var 1) (.int 1))) .nil)))) .nil)
abbrev b_times : SL := b_times_1
def d_times : Def := ⟨"times", ["first", "second"], ["first", "second"], b_times⟩
/-- less: 0 first, 1 second -/
def b_less_1 : SL := (.cons (.ret (.cmp .lt (.bin .mul (.ix (.var 0) (.int 0)) (.ix (.var 1) (.int 1))) (.bin .mul (.ix (.var 1) (.int 0)) (.ix (.var 0) (.int 1))))) .nil)
abbrev b_less : SL := b_less_1
def d_less : Def := ⟨"less", ["first", "second"], ["first", "second"], b_less⟩
/-- over: 0 first, 1 second -/
def b_over_1 : SL := (.cons (.ret (.call 9 (.cons (.bin .mul (.ix (.var 0) (.int 0)) (.ix (.var 1) (.int 1))) (.cons (.bin .mul (.ix (.var 0) (.int 1)) (.ix (.var 1) (.int 0))) .nil)))) .nil)
abbrev b_over : SL := b_over_1
def d_over : Def := ⟨"over", ["first", "second"], ["first", "second"], b_over⟩
/-- greatest: 0 values, 1 best, 2 value -/
def b_greatest_3 : SL := (.cons (.set 1 (.ite (.call 14 (.cons (.var 1) (.cons (.var 2) .nil))) (.var 2) (.var 1))) .nil)
def b_greatest_4 : SL := (.cons (.ret (.var 1)) .nil)
def b_greatest_2 : SL := (.cons (.for_ (.v 2) (.of (.slice (.var 0) (.ye (.int 1)) .no)) b_greatest_3) b_greatest_4)
def b_greatest_1 : SL := (.cons (.set 1 (.ix (.var 0) (.int 0))) b_greatest_2)
abbrev b_greatest : SL := b_greatest_1
def d_greatest : Def := ⟨"greatest", ["values"], ["values", "best", "value"], b_greatest⟩
/-- summed: 0 values, 1 total, 2 value -/
def b_summed_3 : SL := (.cons (.set 1 (.call 11 (.cons (.var 1) (.cons (.var 2) .nil)))) .nil)
def b_summed_4 : SL := (.cons (.ret (.var 1)) .nil)
def b_summed_2 : SL := (.cons (.for_ (.v 2) (.of (.var 0)) b_summed_3) b_summed_4)
def b_summed_1 : SL := (.cons (.set 1 (.tup (.cons (.int 0) (.cons (.int 1) .nil)))) b_summed_2)
abbrev b_summed : SL := b_summed_1
def d_summed : Def := ⟨"summed", ["values"], ["values", "total", "value"], b_summed⟩
/-- weighed: 0 values, 1 others, 2 value, 3 other -/
def b_weighed_1 : SL := (.cons (.ret (.call 17 (.cons (.comp (.call 13 (.cons (.var 2) (.cons (.var 3) .nil))) (.t [2, 3]) (.zip (.var 0) (.var 1)) .nil [2, 3]) .nil))) .nil)
abbrev b_weighed : SL := b_weighed_1
def d_weighed : Def := ⟨"weighed", ["values", "others"], ["values", "others", "value", "other"], b_weighed⟩
/-- _law_sum: 0 values, 1 total, 2 value -/
def b_law_sum_3 : SL := (.cons (.set 1 (.call 5 (.cons (.var 1) (.cons (.var 2) .nil)))) .nil)
def b_law_sum_4 : SL := (.cons (.ret (.var 1)) .nil)
def b_law_sum_2 : SL := (.cons (.for_ (.v 2) (.of (.var 0)) b_law_sum_3) b_law_sum_4)
def b_law_sum_1 : SL := (.cons (.set 1 (.tup (.cons (.int 0) (.cons (.int 1) .nil)))) b_law_sum_2)
abbrev b_law_sum : SL := b_law_sum_1
def d_law_sum : Def := ⟨"_law_sum", ["values"], ["values", "total", "value"], b_law_sum⟩
/-- law: 0 script, 1 state, 2 turn, 3 top, 4 below, 5 one, 6 other, 7 rows, 8 more, 9 due, 10 best, 11 total, 12 k, 13 text, 14 row -/
def b_law_10 : SL := (.cons (.ret (.bl false)) .nil)
def b_law_13 : SL := (.cons (.ret (.bl false)) .nil)
def b_law_15 : SL := (.cons (.ret (.bl false)) .nil)
def b_law_20 : SL := (.cons (.set 11 (.call 5 (.cons (.var 11) (.cons (.call 2 (.cons (.bin .mul (.ix (.ix (.var 7) (.var 12)) (.int 0)) (.ix (.ix (.var 8) (.var 12)) (.int 0))) (.cons (.bin .mul (.ix (.ix (.var 7) (.var 12)) (.int 1)) (.ix (.ix (.var 8) (.var 12)) (.int 1))) .nil))) .nil)))) .nil)
def b_law_19 : SL := (.cons (.set 10 (.ix (.lst (.cons (.var 10) (.cons (.ix (.var 7) (.var 12)) .nil))) (.fn .int (.cons (.call 6 (.cons (.var 10) (.cons (.ix (.var 7) (.var 12)) .nil))) .nil)))) b_law_20)
def b_law_22 : SL := (.cons (.ret (.bl false)) .nil)
def b_law_25 : SL := (.cons (.set 13 (.bin .add (.bin .add (.var 13) (.str "/")) (.fn .str (.cons (.ix (.var 5) (.int 1)) .nil)))) .nil)
def b_law_27 : SL := (.cons (.ret (.bl false)) .nil)
def b_law_26 : SL := (.cons (.ifs (.not (.call 4 (.cons (.call 7 (.cons (.var 5) .nil)) (.cons (.var 13) .nil)))) b_law_27 .nil) .nil)
def b_law_24 : SL := (.cons (.ifs (.cmp .ne (.ix (.var 5) (.int 1)) (.int 1)) b_law_25 .nil) b_law_26)
def b_law_23 : SL := (.cons (.set 13 (.fn .str (.cons (.ix (.var 5) (.int 0)) .nil))) b_law_24)
def b_law_21 : SL := (.cons (.ifs (.not (.call 4 (.cons (.lst (.cons (.call 16 (.cons (.var 7) .nil)) (.cons (.call 17 (.cons (.var 7) .nil)) (.cons (.call 18 (.cons (.var 7) (.cons (.var 8) .nil))) .nil)))) (.cons (.lst (.cons (.var 10) (.cons (.call 19 (.cons (.var 7) .nil)) (.cons (.var 11) .nil)))) .nil)))) b_law_22 .nil) b_law_23)
def b_law_18 : SL := (.cons (.for_ (.v 12) (.range1 (.fn .len (.cons (.var 7) .nil))) b_law_19) b_law_21)
def b_law_17 : SL := (.cons (.set 11 (.tup (.cons (.int 0) (.cons (.int 1) .nil)))) b_law_18)
def b_law_16 : SL := (.cons (.set 10 (.ix (.var 7) (.int 0))) b_law_17)
def b_law_14 : SL := (.cons (.ifs (.and (.cmp .ne (.ix (.var 6) (.int 0)) (.int 0)) (.not (.call 4 (.cons (.call 15 (.cons (.var 5) (.cons (.var 6) .nil))) (.cons (.call 2 (.cons (.bin .mul (.ix (.var 5) (.int 0)) (.ix (.var 6) (.int 1))) (.cons (.bin .mul (.ix (.var 5) (.int 1)) (.ix (.var 6) (.int 0))) .nil))) .nil))))) b_law_15 .nil) b_law_16)
def b_law_12 : SL := (.cons (.ifs (.not (.call 4 (.cons (.lst (.cons (.call 11 (.cons (.var 5) (.cons (.var 6) .nil))) (.cons (.call 12 (.cons (.var 5) .nil)) (.cons (.call 13 (.cons (.var 5) (.cons (.var 6) .nil))) (.cons (.call 14 (.cons (.var 5) (.cons (.var 6) .nil))) .nil))))) (.cons (.var 9) .nil)))) b_law_13 .nil) b_law_14)
def b_law_11 : SL := (.cons (.set 9 (.lst (.cons (.call 5 (.cons (.var 5) (.cons (.var 6) .nil))) (.cons (.tup (.cons (.bin .sub (.int 0) (.ix (.var 5) (.int 0))) (.cons (.ix (.var 5) (.int 1)) .nil))) (.cons (.call 2 (.cons (.bin .mul (.ix (.var 5) (.int 0)) (.ix (.var 6) (.int 0))) (.cons (.bin .mul (.ix (.var 5) (.int 1)) (.ix (.var 6) (.int 1))) .nil))) (.cons (.call 6 (.cons (.var 5) (.cons (.var 6) .nil))) .nil)))))) b_law_12)
def b_law_9 : SL := (.cons (.ifs (.not (.call 4 (.cons (.lst (.cons (.call 9 (.cons (.var 3) (.cons (.var 4) .nil))) (.cons (.call 10 (.cons (.var 5) .nil)) (.cons (.call 10 (.cons (.tup (.cons (.bin .mul (.int 2) (.ix (.var 5) (.int 0))) (.cons (.bin .mul (.int 2) (.ix (.var 5) (.int 1))) .nil))) .nil)) (.cons (.call 10 (.cons (.tup (.cons (.int 1) (.cons (.int 0) .nil))) .nil)) (.cons (.call 10 (.cons (.tup (.cons (.int 3) (.cons (.neg (.int 1)) .nil))) .nil)) .nil)))))) (.cons (.lst (.cons (.call 2 (.cons (.var 3) (.cons (.var 4) .nil))) (.cons (.bl true) (.cons (.bl false) (.cons (.bl false) (.cons (.bl false) .nil)))))) .nil)))) b_law_10 .nil) b_law_11)
def b_law_8 : SL := (.cons (.set 8 (.comp (.call 3 (.st 1 .nil)) (.v 14) (.of (.var 7)) .nil [14])) b_law_9)
def b_law_7 : SL := (.cons (.set 7 (.comp (.call 3 (.st 1 .nil)) (.v 12) (.range1 (.bin .add (.int 1) (.draw 1 (.int 5)))) .nil [12])) b_law_8)
def b_law_6 : SL := (.cons (.set 6 (.call 3 (.st 1 .nil))) b_law_7)
def b_law_5 : SL := (.cons (.set 5 (.call 3 (.st 1 .nil))) b_law_6)
def b_law_4 : SL := (.cons (.set 4 (.ix (.lst (.cons (.bin .add (.int 1) (.draw 1 (.int 80))) (.cons (.bin .sub (.bin .sub (.int 0) (.int 1)) (.draw 1 (.int 80))) .nil))) (.draw 1 (.int 2)))) b_law_5)
def b_law_3 : SL := (.cons (.set 3 (.bin .sub (.draw 1 (.int 900)) (.int 450))) b_law_4)
def b_law_28 : SL := (.cons (.ret (.bl true)) .nil)
def b_law_2 : SL := (.cons (.for_ (.v 2) (.range1 (.int 12)) b_law_3) b_law_28)
def b_law_1 : SL := (.cons (.mkst 1 (.call 0 (.cons (.var 0) .nil))) b_law_2)
abbrev b_law : SL := b_law_1
def d_law : Def := ⟨"law", ["script"], ["script", "state", "turn", "top", "below", "one", "other", "rows", "more", "due", "best", "total", "k", "text", "row"], b_law⟩
def tb : List Def := [d_law_stream, d_law_divisor, d_law_ratio, d_law_drawn, d_law_same, d_law_plus, d_law_less, d_ratio_text, d_divisor, d_ratio, d_is_ratio, d_added, d_negative, d_times, d_less, d_over, d_greatest, d_summed, d_weighed, d_law_sum]
theorem phi_law_stream {n : Nat} {s0 : SV} {g : Nat} {X : XR} {Q : Rs} (h : wpSL (Phi tb n) b_law_stream [s0, .un, .un, .un, .un, .un] g X ⟨fun _ g => Q .none g, Q, fun _ _ => False, fun _ _ => False⟩) : Phi tb (n + 1) 0 [s0] g X Q := ⟨rfl, h⟩
theorem phi_law_divisor {n : Nat} {s0 s1 : SV} {g : Nat} {X : XR} {Q : Rs} (h : wpSL (Phi tb n) b_law_divisor [s0, s1] g X ⟨fun _ g => Q .none g, Q, fun _ _ => False, fun _ _ => False⟩) : Phi tb (n + 1) 1 [s0, s1] g X Q := ⟨rfl, h⟩
theorem phi_law_ratio {n : Nat} {s0 s1 : SV} {g : Nat} {X : XR} {Q : Rs} (h : wpSL (Phi tb n) b_law_ratio [s0, s1, .un] g X ⟨fun _ g => Q .none g, Q, fun _ _ => False, fun _ _ => False⟩) : Phi tb (n + 1) 2 [s0, s1] g X Q := ⟨rfl, h⟩
theorem phi_law_drawn {n : Nat} {s0 : SV} {g : Nat} {X : XR} {Q : Rs} (h : wpSL (Phi tb n) b_law_drawn [s0, .un] g X ⟨fun _ g => Q .none g, Q, fun _ _ => False, fun _ _ => False⟩) : Phi tb (n + 1) 3 [s0] g X Q := ⟨rfl, h⟩
theorem phi_law_same {n : Nat} {s0 s1 : SV} {g : Nat} {X : XR} {Q : Rs} (h : wpSL (Phi tb n) b_law_same [s0, s1] g X ⟨fun _ g => Q .none g, Q, fun _ _ => False, fun _ _ => False⟩) : Phi tb (n + 1) 4 [s0, s1] g X Q := ⟨rfl, h⟩
theorem phi_law_plus {n : Nat} {s0 s1 : SV} {g : Nat} {X : XR} {Q : Rs} (h : wpSL (Phi tb n) b_law_plus [s0, s1] g X ⟨fun _ g => Q .none g, Q, fun _ _ => False, fun _ _ => False⟩) : Phi tb (n + 1) 5 [s0, s1] g X Q := ⟨rfl, h⟩
theorem phi_law_less {n : Nat} {s0 s1 : SV} {g : Nat} {X : XR} {Q : Rs} (h : wpSL (Phi tb n) b_law_less [s0, s1] g X ⟨fun _ g => Q .none g, Q, fun _ _ => False, fun _ _ => False⟩) : Phi tb (n + 1) 6 [s0, s1] g X Q := ⟨rfl, h⟩
theorem phi_ratio_text {n : Nat} {s0 : SV} {g : Nat} {X : XR} {Q : Rs} (h : wpSL (Phi tb n) b_ratio_text [s0] g X ⟨fun _ g => Q .none g, Q, fun _ _ => False, fun _ _ => False⟩) : Phi tb (n + 1) 7 [s0] g X Q := ⟨rfl, h⟩
theorem phi_divisor {n : Nat} {s0 s1 : SV} {g : Nat} {X : XR} {Q : Rs} (h : wpSL (Phi tb n) b_divisor [s0, s1] g X ⟨fun _ g => Q .none g, Q, fun _ _ => False, fun _ _ => False⟩) : Phi tb (n + 1) 8 [s0, s1] g X Q := ⟨rfl, h⟩
theorem phi_ratio {n : Nat} {s0 s1 : SV} {g : Nat} {X : XR} {Q : Rs} (h : wpSL (Phi tb n) b_ratio [s0, s1, .un] g X ⟨fun _ g => Q .none g, Q, fun _ _ => False, fun _ _ => False⟩) : Phi tb (n + 1) 9 [s0, s1] g X Q := ⟨rfl, h⟩
theorem phi_is_ratio {n : Nat} {s0 : SV} {g : Nat} {X : XR} {Q : Rs} (h : wpSL (Phi tb n) b_is_ratio [s0] g X ⟨fun _ g => Q .none g, Q, fun _ _ => False, fun _ _ => False⟩) : Phi tb (n + 1) 10 [s0] g X Q := ⟨rfl, h⟩
theorem phi_added {n : Nat} {s0 s1 : SV} {g : Nat} {X : XR} {Q : Rs} (h : wpSL (Phi tb n) b_added [s0, s1] g X ⟨fun _ g => Q .none g, Q, fun _ _ => False, fun _ _ => False⟩) : Phi tb (n + 1) 11 [s0, s1] g X Q := ⟨rfl, h⟩
theorem phi_negative {n : Nat} {s0 : SV} {g : Nat} {X : XR} {Q : Rs} (h : wpSL (Phi tb n) b_negative [s0] g X ⟨fun _ g => Q .none g, Q, fun _ _ => False, fun _ _ => False⟩) : Phi tb (n + 1) 12 [s0] g X Q := ⟨rfl, h⟩
theorem phi_times {n : Nat} {s0 s1 : SV} {g : Nat} {X : XR} {Q : Rs} (h : wpSL (Phi tb n) b_times [s0, s1] g X ⟨fun _ g => Q .none g, Q, fun _ _ => False, fun _ _ => False⟩) : Phi tb (n + 1) 13 [s0, s1] g X Q := ⟨rfl, h⟩
theorem phi_less {n : Nat} {s0 s1 : SV} {g : Nat} {X : XR} {Q : Rs} (h : wpSL (Phi tb n) b_less [s0, s1] g X ⟨fun _ g => Q .none g, Q, fun _ _ => False, fun _ _ => False⟩) : Phi tb (n + 1) 14 [s0, s1] g X Q := ⟨rfl, h⟩
theorem phi_over {n : Nat} {s0 s1 : SV} {g : Nat} {X : XR} {Q : Rs} (h : wpSL (Phi tb n) b_over [s0, s1] g X ⟨fun _ g => Q .none g, Q, fun _ _ => False, fun _ _ => False⟩) : Phi tb (n + 1) 15 [s0, s1] g X Q := ⟨rfl, h⟩
theorem phi_greatest {n : Nat} {s0 : SV} {g : Nat} {X : XR} {Q : Rs} (h : wpSL (Phi tb n) b_greatest [s0, .un, .un] g X ⟨fun _ g => Q .none g, Q, fun _ _ => False, fun _ _ => False⟩) : Phi tb (n + 1) 16 [s0] g X Q := ⟨rfl, h⟩
theorem phi_summed {n : Nat} {s0 : SV} {g : Nat} {X : XR} {Q : Rs} (h : wpSL (Phi tb n) b_summed [s0, .un, .un] g X ⟨fun _ g => Q .none g, Q, fun _ _ => False, fun _ _ => False⟩) : Phi tb (n + 1) 17 [s0] g X Q := ⟨rfl, h⟩
theorem phi_weighed {n : Nat} {s0 s1 : SV} {g : Nat} {X : XR} {Q : Rs} (h : wpSL (Phi tb n) b_weighed [s0, s1, .un, .un] g X ⟨fun _ g => Q .none g, Q, fun _ _ => False, fun _ _ => False⟩) : Phi tb (n + 1) 18 [s0, s1] g X Q := ⟨rfl, h⟩
theorem phi_law_sum {n : Nat} {s0 : SV} {g : Nat} {X : XR} {Q : Rs} (h : wpSL (Phi tb n) b_law_sum [s0, .un, .un] g X ⟨fun _ g => Q .none g, Q, fun _ _ => False, fun _ _ => False⟩) : Phi tb (n + 1) 19 [s0] g X Q := ⟨rfl, h⟩
end Dz
set_option Elab.async false
set_option linter.all false
set_option maxRecDepth 100000
/-! the defs of the law as they stand in its text -/
namespace Dz
open PySem PySem.Spec PyProof PyProof.Rows L2
def topS (i : Nat) : Stmt := PySem.Challenge.pw_setsadded_k01_ratios.main.body.getD i (.Pass ⟨0, 0, 0, 0⟩)
def exs : List Nat := [0]
abbrev t_law_stream : Stmt := topS 22
theorem sc_law_stream : FnScope d_law_stream.N d_law_stream.ps (defScope t_law_stream) := ⟨rfl, rfl, rfl, by decide +kernel, rfl, by decide +kernel, by decide +kernel⟩
theorem is_law_stream : isSL tb d_law_stream.N false exs d_law_stream.body (defScope t_law_stream) (defBody t_law_stream) = true := by decide +kernel
abbrev t_law_divisor : Stmt := topS 25
theorem sc_law_divisor : FnScope d_law_divisor.N d_law_divisor.ps (defScope t_law_divisor) := ⟨rfl, rfl, rfl, by decide +kernel, rfl, by decide +kernel, by decide +kernel⟩
theorem is_law_divisor : isSL tb d_law_divisor.N false exs d_law_divisor.body (defScope t_law_divisor) (defBody t_law_divisor) = true := by decide +kernel
abbrev t_law_ratio : Stmt := topS 26
theorem sc_law_ratio : FnScope d_law_ratio.N d_law_ratio.ps (defScope t_law_ratio) := ⟨rfl, rfl, rfl, by decide +kernel, rfl, by decide +kernel, by decide +kernel⟩
theorem is_law_ratio : isSL tb d_law_ratio.N false exs d_law_ratio.body (defScope t_law_ratio) (defBody t_law_ratio) = true := by decide +kernel
abbrev t_law_drawn : Stmt := topS 31
theorem sc_law_drawn : FnScope d_law_drawn.N d_law_drawn.ps (defScope t_law_drawn) := ⟨rfl, rfl, rfl, by decide +kernel, rfl, by decide +kernel, by decide +kernel⟩
theorem is_law_drawn : isSL tb d_law_drawn.N false exs d_law_drawn.body (defScope t_law_drawn) (defBody t_law_drawn) = true := by decide +kernel
abbrev t_law_same : Stmt := topS 21
theorem sc_law_same : FnScope d_law_same.N d_law_same.ps (defScope t_law_same) := ⟨rfl, rfl, rfl, by decide +kernel, rfl, by decide +kernel, by decide +kernel⟩
theorem is_law_same : isSL tb d_law_same.N false exs d_law_same.body (defScope t_law_same) (defBody t_law_same) = true := by decide +kernel
abbrev t_law_plus : Stmt := topS 27
theorem sc_law_plus : FnScope d_law_plus.N d_law_plus.ps (defScope t_law_plus) := ⟨rfl, rfl, rfl, by decide +kernel, rfl, by decide +kernel, by decide +kernel⟩
theorem is_law_plus : isSL tb d_law_plus.N false exs d_law_plus.body (defScope t_law_plus) (defBody t_law_plus) = true := by decide +kernel
abbrev t_law_less : Stmt := topS 29
theorem sc_law_less : FnScope d_law_less.N d_law_less.ps (defScope t_law_less) := ⟨rfl, rfl, rfl, by decide +kernel, rfl, by decide +kernel, by decide +kernel⟩
theorem is_law_less : isSL tb d_law_less.N false exs d_law_less.body (defScope t_law_less) (defBody t_law_less) = true := by decide +kernel
abbrev t_ratio_text : Stmt := topS 19
theorem sc_ratio_text : FnScope d_ratio_text.N d_ratio_text.ps (defScope t_ratio_text) := ⟨rfl, rfl, rfl, by decide +kernel, rfl, by decide +kernel, by decide +kernel⟩
theorem is_ratio_text : isSL tb d_ratio_text.N false exs d_ratio_text.body (defScope t_ratio_text) (defBody t_ratio_text) = true := by decide +kernel
abbrev t_divisor : Stmt := topS 8
theorem sc_divisor : FnScope d_divisor.N d_divisor.ps (defScope t_divisor) := ⟨rfl, rfl, rfl, by decide +kernel, rfl, by decide +kernel, by decide +kernel⟩
theorem is_divisor : isSL tb d_divisor.N false exs d_divisor.body (defScope t_divisor) (defBody t_divisor) = true := by decide +kernel
abbrev t_ratio : Stmt := topS 9
theorem sc_ratio : FnScope d_ratio.N d_ratio.ps (defScope t_ratio) := ⟨rfl, rfl, rfl, by decide +kernel, rfl, by decide +kernel, by decide +kernel⟩
theorem is_ratio : isSL tb d_ratio.N false exs d_ratio.body (defScope t_ratio) (defBody t_ratio) = true := by decide +kernel
abbrev t_is_ratio : Stmt := topS 10
theorem sc_is_ratio : FnScope d_is_ratio.N d_is_ratio.ps (defScope t_is_ratio) := ⟨rfl, rfl, rfl, by decide +kernel, rfl, by decide +kernel, by decide +kernel⟩
theorem is_is_ratio : isSL tb d_is_ratio.N false exs d_is_ratio.body (defScope t_is_ratio) (defBody t_is_ratio) = true := by decide +kernel
abbrev t_added : Stmt := topS 11
theorem sc_added : FnScope d_added.N d_added.ps (defScope t_added) := ⟨rfl, rfl, rfl, by decide +kernel, rfl, by decide +kernel, by decide +kernel⟩
theorem is_added : isSL tb d_added.N false exs d_added.body (defScope t_added) (defBody t_added) = true := by decide +kernel
abbrev t_negative : Stmt := topS 12
theorem sc_negative : FnScope d_negative.N d_negative.ps (defScope t_negative) := ⟨rfl, rfl, rfl, by decide +kernel, rfl, by decide +kernel, by decide +kernel⟩
theorem is_negative : isSL tb d_negative.N false exs d_negative.body (defScope t_negative) (defBody t_negative) = true := by decide +kernel
abbrev t_times : Stmt := topS 13
theorem sc_times : FnScope d_times.N d_times.ps (defScope t_times) := ⟨rfl, rfl, rfl, by decide +kernel, rfl, by decide +kernel, by decide +kernel⟩
theorem is_times : isSL tb d_times.N false exs d_times.body (defScope t_times) (defBody t_times) = true := by decide +kernel
abbrev t_less : Stmt := topS 15
theorem sc_less : FnScope d_less.N d_less.ps (defScope t_less) := ⟨rfl, rfl, rfl, by decide +kernel, rfl, by decide +kernel, by decide +kernel⟩
theorem is_less : isSL tb d_less.N false exs d_less.body (defScope t_less) (defBody t_less) = true := by decide +kernel
abbrev t_over : Stmt := topS 14
theorem sc_over : FnScope d_over.N d_over.ps (defScope t_over) := ⟨rfl, rfl, rfl, by decide +kernel, rfl, by decide +kernel, by decide +kernel⟩
theorem is_over : isSL tb d_over.N false exs d_over.body (defScope t_over) (defBody t_over) = true := by decide +kernel
abbrev t_greatest : Stmt := topS 16
theorem sc_greatest : FnScope d_greatest.N d_greatest.ps (defScope t_greatest) := ⟨rfl, rfl, rfl, by decide +kernel, rfl, by decide +kernel, by decide +kernel⟩
theorem is_greatest : isSL tb d_greatest.N false exs d_greatest.body (defScope t_greatest) (defBody t_greatest) = true := by decide +kernel
abbrev t_summed : Stmt := topS 17
theorem sc_summed : FnScope d_summed.N d_summed.ps (defScope t_summed) := ⟨rfl, rfl, rfl, by decide +kernel, rfl, by decide +kernel, by decide +kernel⟩
theorem is_summed : isSL tb d_summed.N false exs d_summed.body (defScope t_summed) (defBody t_summed) = true := by decide +kernel
abbrev t_weighed : Stmt := topS 18
theorem sc_weighed : FnScope d_weighed.N d_weighed.ps (defScope t_weighed) := ⟨rfl, rfl, rfl, by decide +kernel, rfl, by decide +kernel, by decide +kernel⟩
theorem is_weighed : isSL tb d_weighed.N false exs d_weighed.body (defScope t_weighed) (defBody t_weighed) = true := by decide +kernel
abbrev t_law_sum : Stmt := topS 28
theorem sc_law_sum : FnScope d_law_sum.N d_law_sum.ps (defScope t_law_sum) := ⟨rfl, rfl, rfl, by decide +kernel, rfl, by decide +kernel, by decide +kernel⟩
theorem is_law_sum : isSL tb d_law_sum.N false exs d_law_sum.body (defScope t_law_sum) (defBody t_law_sum) = true := by decide +kernel
abbrev t_law : Stmt := topS 32
theorem sc_law : FnScope d_law.N d_law.ps (defScope t_law) := ⟨rfl, rfl, rfl, by decide +kernel, rfl, by decide +kernel, by decide +kernel⟩
theorem is_law : isSL tb d_law.N true exs d_law.body (defScope t_law) (defBody t_law) = true := by decide +kernel
abbrev t_next : Stmt := topS 23
end Dz
set_option Elab.async false
set_option linter.all false
set_option maxRecDepth 100000
/-! k01: what the defs give, in plain Lean. -/
namespace Dz
open PySem
variable {n g : Nat} {X : XR} {Q : Rs}
/-! ### whole numbers of few bits -/
def W (k : Nat) (i : Int) : Prop := i.natAbs < 2 ^ k
theorem W.mono {a b : Nat} {i : Int} (h : W a i) (ab : a ≤ b) : W b i := Nat.lt_of_lt_of_le h (Nat.pow_le_pow_right (by decide) ab)
theorem W.log {a : Nat} {i : Int} (h : W a i) : i.natAbs.log2 ≤ a := by
  by_cases z : i.natAbs = 0
  · rw [z]; exact Nat.zero_le _
  · exact Nat.le_of_lt ((Nat.log2_lt z).mpr h)
theorem W.mul {a b : Nat} {i j : Int} (h : W a i) (h' : W b j) : W (a + b) (i * j) := by
  unfold W
  rw [Int.natAbs_mul, Nat.pow_add]
  exact Nat.mul_lt_mul'' h h'
theorem W.add {a b : Nat} {i j : Int} (h : W a i) (h' : W b j) : W (a + b + 1) (i + j) := by
  unfold W at *
  have h1 : 2 ^ a ≤ 2 ^ (a + b) := Nat.pow_le_pow_right (by decide) (by omega)
  have h2 : 2 ^ b ≤ 2 ^ (a + b) := Nat.pow_le_pow_right (by decide) (by omega)
  have h3 : (2 : Nat) ^ (a + b + 1) = 2 ^ (a + b) * 2 := Nat.pow_succ ..
  have h4 := Int.natAbs_add_le i j
  omega
theorem W.add2 {a : Nat} {i j : Int} (h : W a i) (h' : W a j) : W (a + 1) (i + j) := by
  unfold W at *
  have h3 : (2 : Nat) ^ (a + 1) = 2 ^ a * 2 := Nat.pow_succ ..
  have h4 := Int.natAbs_add_le i j
  omega
theorem W.mulOk {a b : Nat} {i j : Int} (h : W a i) (h' : W b j) (hab : a + b < 100000) : mulOk i j := by
  have := h.log
  have := h'.log
  exact .inr (.inr (by omega))
theorem at2_0 {x y : D} : at_ [x, y] 0 = some x := rfl
theorem at2_1 {x y : D} : at_ [x, y] 1 = some y := rfl
theorem two_size {x y : D} : [x, y].length ≤ sizeLine := by rw [sizeLine_eq]; show 2 ≤ 16777216; decide
/-! ### common divisors -/
theorem gcd_step {x y : Int} (hy : 0 < y) : Int.gcd y (x.fmod y) = Int.gcd x y := by
  rw [Int.fmod_eq_emod_of_nonneg _ (Int.le_of_lt hy), Int.gcd_comm y]
  refine Int.gcd_left_eq_iff.mpr fun c hc => ⟨fun h => ?_, fun h => ?_⟩
  · have := Int.dvd_add h (Int.dvd_mul_of_dvd_left hc (c := x / y))
    rwa [Int.emod_add_mul_ediv] at this
  · rw [Int.emod_def]
    exact Int.dvd_sub h (Int.dvd_mul_of_dvd_left hc (c := x / y))
theorem s_divisor {a b : Int} (h : Q (.int (Int.gcd a b)) g) : Phi tb (n + 1) 8 [.fz (.int a), .fz (.int b)] g X Q := by
  refine phi_divisor ?_
  simp only [b_divisor, b_divisor_1, b_divisor_2, Bool.not_true, Bool.not_false, wpSL, wpS, wpE, wpL, wpA, wpJ, wpC, wpO, wpI, setD, setAll, bindT, wipeE, List.set_cons_zero, List.set_cons_succ, List.getElem?_cons_zero, List.getElem?_cons_succ, e_fz, e_ow, e_st, e_int, e_int2, e_list, e_seqs1, e_seqs2, e_seq1, e_seq2, e_bool, e_kept0, e_kept1, e_add, e_cat, e_sub, e_mul, e_fdiv, e_mod, e_pow, e_eqI, e_eqS, e_neI, e_neS, e_lt, e_le, e_gt, e_ge, e_ixL, e_ixT, e_slL, e_slT, e_lenL, e_lenT, e_abs, e_intI, e_intB, e_str, e_max, e_min, e_repr, e_fI, e_fS, some_ex, if_tt, if_ff]
  refine while_inv (fun ρ g' => g' = g ∧ ∃ x y : Int, ρ = [.fz (.int x), .fz (.int y)] ∧ 0 ≤ x ∧ 0 ≤ y ∧ Int.gcd x y = Int.gcd a b) (fun ρ => match ρ with | [_, .fz (.int y)] => y.toNat | _ => 0) ⟨rfl, _, _, rfl, ?_, ?_, ?_⟩ ?_
  · split <;> omega
  · split <;> omega
  · split <;> split <;> simp
  · rintro ρ g' kc ⟨rfl, x, y, rfl, hx, hy, e⟩ ht hf
    simp only [Bool.not_true, Bool.not_false, wpSL, wpS, wpE, wpL, wpA, wpJ, wpC, wpO, wpI, setD, setAll, bindT, wipeE, List.set_cons_zero, List.set_cons_succ, List.getElem?_cons_zero, List.getElem?_cons_succ, e_fz, e_ow, e_st, e_int, e_int2, e_list, e_seqs1, e_seqs2, e_seq1, e_seq2, e_bool, e_kept0, e_kept1, e_add, e_cat, e_sub, e_mul, e_fdiv, e_mod, e_pow, e_eqI, e_eqS, e_neI, e_neS, e_lt, e_le, e_gt, e_ge, e_ixL, e_ixT, e_slL, e_slT, e_lenL, e_lenT, e_abs, e_intI, e_intB, e_str, e_max, e_min, e_repr, e_fI, e_fS, some_ex, if_tt, if_ff]
    by_cases c : 0 < y
    · rw [decide_eq_true c]
      refine ht _ fun nx hn => ?_
      simp only [b_divisor_3, Bool.not_true, Bool.not_false, wpSL, wpS, wpE, wpL, wpA, wpJ, wpC, wpO, wpI, setD, setAll, bindT, wipeE, List.set_cons_zero, List.set_cons_succ, List.getElem?_cons_zero, List.getElem?_cons_succ, e_fz, e_ow, e_st, e_int, e_int2, e_list, e_seqs1, e_seqs2, e_seq1, e_seq2, e_bool, e_kept0, e_kept1, e_add, e_cat, e_sub, e_mul, e_fdiv, e_mod, e_pow, e_eqI, e_eqS, e_neI, e_neS, e_lt, e_le, e_gt, e_ge, e_ixL, e_ixT, e_slL, e_slT, e_lenL, e_lenT, e_abs, e_intI, e_intB, e_str, e_max, e_min, e_repr, e_fI, e_fS, some_ex, if_tt, if_ff]
      refine ⟨by omega, hn _ _ ⟨rfl, _, _, rfl, hy, ?_, ?_⟩ ?_⟩
      · rw [Int.fmod_eq_emod_of_nonneg _ hy]
        exact Int.emod_nonneg _ (by omega)
      · rw [gcd_step c, e]
      · show (x.fmod y).toNat < y.toNat
        rw [Int.fmod_eq_emod_of_nonneg _ hy]
        have := Int.emod_lt_of_pos x c
        have := Int.emod_nonneg x (b := y) (by omega)
        omega
    · rw [decide_eq_false c]
      refine hf _ ?_
      simp only [b_divisor_4, Bool.not_true, Bool.not_false, wpSL, wpS, wpE, wpL, wpA, wpJ, wpC, wpO, wpI, setD, setAll, bindT, wipeE, List.set_cons_zero, List.set_cons_succ, List.getElem?_cons_zero, List.getElem?_cons_succ, e_fz, e_ow, e_st, e_int, e_int2, e_list, e_seqs1, e_seqs2, e_seq1, e_seq2, e_bool, e_kept0, e_kept1, e_add, e_cat, e_sub, e_mul, e_fdiv, e_mod, e_pow, e_eqI, e_eqS, e_neI, e_neS, e_lt, e_le, e_gt, e_ge, e_ixL, e_ixT, e_slL, e_slT, e_lenL, e_lenT, e_abs, e_intI, e_intB, e_str, e_max, e_min, e_repr, e_fI, e_fS, some_ex, if_tt, if_ff]
      have : y = 0 := by omega
      subst this
      rw [← e, Int.gcd_zero_right, Int.natAbs_of_nonneg hx] at h
      exact h
theorem s_law_divisor {a b : Int} (h : Q (.int (Int.gcd a b)) g) : Phi tb (n + 1) 1 [.fz (.int a), .fz (.int b)] g X Q := by
  refine phi_law_divisor ?_
  simp only [b_law_divisor, b_law_divisor_1, b_law_divisor_2, b_law_divisor_3, Bool.not_true, Bool.not_false, wpSL, wpS, wpE, wpL, wpA, wpJ, wpC, wpO, wpI, setD, setAll, bindT, wipeE, List.set_cons_zero, List.set_cons_succ, List.getElem?_cons_zero, List.getElem?_cons_succ, e_fz, e_ow, e_st, e_int, e_int2, e_list, e_seqs1, e_seqs2, e_seq1, e_seq2, e_bool, e_kept0, e_kept1, e_add, e_cat, e_sub, e_mul, e_fdiv, e_mod, e_pow, e_eqI, e_eqS, e_neI, e_neS, e_lt, e_le, e_gt, e_ge, e_ixL, e_ixT, e_slL, e_slT, e_lenL, e_lenT, e_abs, e_intI, e_intB, e_str, e_max, e_min, e_repr, e_fI, e_fS, some_ex, if_tt, if_ff]
  refine while_inv (fun ρ g' => g' = g ∧ ∃ x y : Int, ρ = [.fz (.int x), .fz (.int y)] ∧ 0 ≤ x ∧ 0 ≤ y ∧ Int.gcd x y = Int.gcd a b) (fun ρ => match ρ with | [_, .fz (.int y)] => y.toNat | _ => 0) ⟨rfl, _, _, rfl, ?_, ?_, ?_⟩ ?_
  · split <;> omega
  · split <;> omega
  · split <;> split <;> simp
  · rintro ρ g' kc ⟨rfl, x, y, rfl, hx, hy, e⟩ ht hf
    simp only [Bool.not_true, Bool.not_false, wpSL, wpS, wpE, wpL, wpA, wpJ, wpC, wpO, wpI, setD, setAll, bindT, wipeE, List.set_cons_zero, List.set_cons_succ, List.getElem?_cons_zero, List.getElem?_cons_succ, e_fz, e_ow, e_st, e_int, e_int2, e_list, e_seqs1, e_seqs2, e_seq1, e_seq2, e_bool, e_kept0, e_kept1, e_add, e_cat, e_sub, e_mul, e_fdiv, e_mod, e_pow, e_eqI, e_eqS, e_neI, e_neS, e_lt, e_le, e_gt, e_ge, e_ixL, e_ixT, e_slL, e_slT, e_lenL, e_lenT, e_abs, e_intI, e_intB, e_str, e_max, e_min, e_repr, e_fI, e_fS, some_ex, if_tt, if_ff]
    by_cases c : 0 < y
    · rw [decide_eq_true c]
      refine ht _ fun nx hn => ?_
      simp only [b_law_divisor_4, Bool.not_true, Bool.not_false, wpSL, wpS, wpE, wpL, wpA, wpJ, wpC, wpO, wpI, setD, setAll, bindT, wipeE, List.set_cons_zero, List.set_cons_succ, List.getElem?_cons_zero, List.getElem?_cons_succ, e_fz, e_ow, e_st, e_int, e_int2, e_list, e_seqs1, e_seqs2, e_seq1, e_seq2, e_bool, e_kept0, e_kept1, e_add, e_cat, e_sub, e_mul, e_fdiv, e_mod, e_pow, e_eqI, e_eqS, e_neI, e_neS, e_lt, e_le, e_gt, e_ge, e_ixL, e_ixT, e_slL, e_slT, e_lenL, e_lenT, e_abs, e_intI, e_intB, e_str, e_max, e_min, e_repr, e_fI, e_fS, some_ex, if_tt, if_ff]
      refine ⟨by omega, hn _ _ ⟨rfl, _, _, rfl, hy, ?_, ?_⟩ ?_⟩
      · rw [Int.fmod_eq_emod_of_nonneg _ hy]
        exact Int.emod_nonneg _ (by omega)
      · rw [gcd_step c, e]
      · show (x.fmod y).toNat < y.toNat
        rw [Int.fmod_eq_emod_of_nonneg _ hy]
        have := Int.emod_lt_of_pos x c
        have := Int.emod_nonneg x (b := y) (by omega)
        omega
    · rw [decide_eq_false c]
      refine hf _ ?_
      simp only [b_law_divisor_5, Bool.not_true, Bool.not_false, wpSL, wpS, wpE, wpL, wpA, wpJ, wpC, wpO, wpI, setD, setAll, bindT, wipeE, List.set_cons_zero, List.set_cons_succ, List.getElem?_cons_zero, List.getElem?_cons_succ, e_fz, e_ow, e_st, e_int, e_int2, e_list, e_seqs1, e_seqs2, e_seq1, e_seq2, e_bool, e_kept0, e_kept1, e_add, e_cat, e_sub, e_mul, e_fdiv, e_mod, e_pow, e_eqI, e_eqS, e_neI, e_neS, e_lt, e_le, e_gt, e_ge, e_ixL, e_ixT, e_slL, e_slT, e_lenL, e_lenT, e_abs, e_intI, e_intB, e_str, e_max, e_min, e_repr, e_fI, e_fS, some_ex, if_tt, if_ff]
      have : y = 0 := by omega
      subst this
      rw [← e, Int.gcd_zero_right, Int.natAbs_of_nonneg hx] at h
      exact h
/-! ### ratios -/
def ratC (top below : Int) : Int := if below < 0 then -(Int.gcd top below : Int) else Int.gcd top below
def rat (top below : Int) : Int × Int := (top.fdiv (ratC top below), below.fdiv (ratC top below))
def pd (p : Int × Int) : D := .tuple [.int p.1, .int p.2]
structure Rk (k : Nat) (p : Int × Int) : Prop where
  pos : 0 < p.2
  one : Int.gcd p.1 p.2 = 1
  w1 : W k p.1
  w2 : W k p.2
theorem gcd_pos {top below : Int} (h : below ≠ 0) : 0 < Int.gcd top below := Int.gcd_pos_of_ne_zero_right _ h
theorem ratC_ok {k : Nat} {top below : Int} (h : below ≠ 0) (hw : W k below) : ratC top below ≠ 0 ∧ W k (ratC top below) := by
  have g0 := gcd_pos (top := top) h
  have g1 : Int.gcd top below ≤ below.natAbs := Nat.le_of_dvd (by omega) (by simpa using Int.natAbs_dvd_natAbs.mpr (Int.gcd_dvd_right (a := top) (b := below)))
  unfold ratC
  split
  · refine ⟨by omega, Nat.lt_of_le_of_lt ?_ hw⟩
    omega
  · refine ⟨by omega, Nat.lt_of_le_of_lt ?_ hw⟩
    omega
theorem rat_ok {k : Nat} {top below : Int} (h : below ≠ 0) (h1 : W k top) (h2 : W k below) : Rk k (rat top below) := by
  have g0 := gcd_pos (top := top) h
  have g1 : (0 : Int) < (Int.gcd top below : Int) := by omega
  have e1 := Int.ediv_mul_cancel (Int.gcd_dvd_left (a := top) (b := below))
  have e2 := Int.ediv_mul_cancel (Int.gcd_dvd_right (a := top) (b := below))
  have e3 := Int.gcd_ediv_gcd_ediv_gcd_of_ne_zero_right (n := top) h
  generalize hg : Int.gcd top below = G at *
  generalize top / (G : Int) = t at *
  generalize below / (G : Int) = b at *
  have ht : t.natAbs ≤ top.natAbs := by
    rw [← e1, Int.natAbs_mul]
    exact Nat.le_mul_of_pos_right _ (by omega)
  have hb : b.natAbs ≤ below.natAbs := by
    rw [← e2, Int.natAbs_mul]
    exact Nat.le_mul_of_pos_right _ (by omega)
  by_cases c : below < 0
  · have e : rat top below = (-t, -b) := by
      unfold rat ratC
      rw [if_pos c, hg]
      have q1 : top = -t * -(G : Int) := by rw [Int.neg_mul_neg]; exact e1.symm
      have q2 : below = -b * -(G : Int) := by rw [Int.neg_mul_neg]; exact e2.symm
      rw [show top.fdiv (-(G : Int)) = -t by rw [q1]; exact Int.mul_fdiv_cancel _ (by omega), show below.fdiv (-(G : Int)) = -b by rw [q2]; exact Int.mul_fdiv_cancel _ (by omega)]
    rw [e]
    refine ⟨?_, ?_, ?_, ?_⟩
    · show 0 < -b
      have : b < 0 := by
        by_cases z : 0 ≤ b
        · have := Int.mul_nonneg z (Int.le_of_lt g1)
          omega
        · omega
      omega
    · show Int.gcd (-t) (-b) = 1
      rw [Int.neg_gcd, Int.gcd_neg]
      exact e3
    · show (-t).natAbs < 2 ^ k
      rw [Int.natAbs_neg]
      exact Nat.lt_of_le_of_lt ht h1
    · show (-b).natAbs < 2 ^ k
      rw [Int.natAbs_neg]
      exact Nat.lt_of_le_of_lt hb h2
  · have e : rat top below = (t, b) := by
      unfold rat ratC
      rw [if_neg c, hg]
      rw [show top.fdiv (G : Int) = t by rw [← e1]; exact Int.mul_fdiv_cancel _ (by omega), show below.fdiv (G : Int) = b by rw [← e2]; exact Int.mul_fdiv_cancel _ (by omega)]
    rw [e]
    refine ⟨?_, e3, Nat.lt_of_le_of_lt ht h1, Nat.lt_of_le_of_lt hb h2⟩
    show 0 < b
    by_cases z : b ≤ 0
    · have := Int.mul_nonpos_of_nonpos_of_nonneg z (Int.le_of_lt g1)
      omega
    · omega
theorem s_ratio {k : Nat} {a b : Int} (hb : b ≠ 0) (hw : W k b) (hk : k < 9000) (h : Q (pd (rat a b)) g) : Phi tb (n + 2) 9 [.fz (.int a), .fz (.int b)] g X Q := by
  refine phi_ratio ?_
  obtain ⟨c0, c1⟩ := ratC_ok (top := a) hb hw
  have c2 := Nat.lt_of_le_of_lt c1.log hk
  simp only [b_ratio, b_ratio_1, b_ratio_3, Bool.not_true, Bool.not_false, wpSL, wpS, wpE, wpL, wpA, wpJ, wpC, wpO, wpI, setD, setAll, bindT, wipeE, List.set_cons_zero, List.set_cons_succ, List.getElem?_cons_zero, List.getElem?_cons_succ, e_fz, e_ow, e_st, e_int, e_int2, e_list, e_seqs1, e_seqs2, e_seq1, e_seq2, e_bool, e_kept0, e_kept1, e_add, e_cat, e_sub, e_mul, e_fdiv, e_mod, e_pow, e_eqI, e_eqS, e_neI, e_neS, e_lt, e_le, e_gt, e_ge, e_ixL, e_ixT, e_slL, e_slT, e_lenL, e_lenT, e_abs, e_intI, e_intB, e_str, e_max, e_min, e_repr, e_fI, e_fS, some_ex, if_tt, if_ff]
  rw [if_neg (by simpa using hb)]
  refine s_divisor ?_
  simp only [b_ratio_4, Bool.not_true, Bool.not_false, wpSL, wpS, wpE, wpL, wpA, wpJ, wpC, wpO, wpI, setD, setAll, bindT, wipeE, List.set_cons_zero, List.set_cons_succ, List.getElem?_cons_zero, List.getElem?_cons_succ, e_fz, e_ow, e_st, e_int, e_int2, e_list, e_seqs1, e_seqs2, e_seq1, e_seq2, e_bool, e_kept0, e_kept1, e_add, e_cat, e_sub, e_mul, e_fdiv, e_mod, e_pow, e_eqI, e_eqS, e_neI, e_neS, e_lt, e_le, e_gt, e_ge, e_ixL, e_ixT, e_slL, e_slT, e_lenL, e_lenT, e_abs, e_intI, e_intB, e_str, e_max, e_min, e_repr, e_fI, e_fS, some_ex, if_tt, if_ff]
  unfold ratC at c0 c2
  unfold pd rat ratC at h
  by_cases c : b < 0
  · rw [if_pos c] at c0 c2 h
    rw [if_pos (decide_eq_true c)]
    simp only [b_ratio_5, b_ratio_6, Bool.not_true, Bool.not_false, wpSL, wpS, wpE, wpL, wpA, wpJ, wpC, wpO, wpI, setD, setAll, bindT, wipeE, List.set_cons_zero, List.set_cons_succ, List.getElem?_cons_zero, List.getElem?_cons_succ, e_fz, e_ow, e_st, e_int, e_int2, e_list, e_seqs1, e_seqs2, e_seq1, e_seq2, e_bool, e_kept0, e_kept1, e_add, e_cat, e_sub, e_mul, e_fdiv, e_mod, e_pow, e_eqI, e_eqS, e_neI, e_neS, e_lt, e_le, e_gt, e_ge, e_ixL, e_ixT, e_slL, e_slT, e_lenL, e_lenT, e_abs, e_intI, e_intB, e_str, e_max, e_min, e_repr, e_fI, e_fS, some_ex, if_tt, if_ff]
    exact ⟨⟨c0, c2⟩, ⟨c0, c2⟩, two_size, h⟩
  · rw [if_neg c] at c0 c2 h
    rw [if_neg (by simpa using c)]
    simp only [b_ratio_6, Bool.not_true, Bool.not_false, wpSL, wpS, wpE, wpL, wpA, wpJ, wpC, wpO, wpI, setD, setAll, bindT, wipeE, List.set_cons_zero, List.set_cons_succ, List.getElem?_cons_zero, List.getElem?_cons_succ, e_fz, e_ow, e_st, e_int, e_int2, e_list, e_seqs1, e_seqs2, e_seq1, e_seq2, e_bool, e_kept0, e_kept1, e_add, e_cat, e_sub, e_mul, e_fdiv, e_mod, e_pow, e_eqI, e_eqS, e_neI, e_neS, e_lt, e_le, e_gt, e_ge, e_ixL, e_ixT, e_slL, e_slT, e_lenL, e_lenT, e_abs, e_intI, e_intB, e_str, e_max, e_min, e_repr, e_fI, e_fS, some_ex, if_tt, if_ff]
    exact ⟨⟨c0, c2⟩, ⟨c0, c2⟩, two_size, h⟩
theorem s_law_ratio {k : Nat} {a b : Int} (hb : b ≠ 0) (hw : W k b) (hk : k < 9000) (h : Q (pd (rat a b)) g) : Phi tb (n + 2) 2 [.fz (.int a), .fz (.int b)] g X Q := by
  refine phi_law_ratio ?_
  obtain ⟨c0, c1⟩ := ratC_ok (top := a) hb hw
  have c2 := Nat.lt_of_le_of_lt c1.log hk
  simp only [b_law_ratio, b_law_ratio_1, Bool.not_true, Bool.not_false, wpSL, wpS, wpE, wpL, wpA, wpJ, wpC, wpO, wpI, setD, setAll, bindT, wipeE, List.set_cons_zero, List.set_cons_succ, List.getElem?_cons_zero, List.getElem?_cons_succ, e_fz, e_ow, e_st, e_int, e_int2, e_list, e_seqs1, e_seqs2, e_seq1, e_seq2, e_bool, e_kept0, e_kept1, e_add, e_cat, e_sub, e_mul, e_fdiv, e_mod, e_pow, e_eqI, e_eqS, e_neI, e_neS, e_lt, e_le, e_gt, e_ge, e_ixL, e_ixT, e_slL, e_slT, e_lenL, e_lenT, e_abs, e_intI, e_intB, e_str, e_max, e_min, e_repr, e_fI, e_fS, some_ex, if_tt, if_ff]
  refine s_law_divisor ?_
  simp only [b_law_ratio_2, Bool.not_true, Bool.not_false, wpSL, wpS, wpE, wpL, wpA, wpJ, wpC, wpO, wpI, setD, setAll, bindT, wipeE, List.set_cons_zero, List.set_cons_succ, List.getElem?_cons_zero, List.getElem?_cons_succ, e_fz, e_ow, e_st, e_int, e_int2, e_list, e_seqs1, e_seqs2, e_seq1, e_seq2, e_bool, e_kept0, e_kept1, e_add, e_cat, e_sub, e_mul, e_fdiv, e_mod, e_pow, e_eqI, e_eqS, e_neI, e_neS, e_lt, e_le, e_gt, e_ge, e_ixL, e_ixT, e_slL, e_slT, e_lenL, e_lenT, e_abs, e_intI, e_intB, e_str, e_max, e_min, e_repr, e_fI, e_fS, some_ex, if_tt, if_ff]
  unfold ratC at c0 c2
  unfold pd rat ratC at h
  by_cases c : b < 0
  · rw [if_pos c] at c0 c2 h
    rw [if_pos (decide_eq_true c)]
    simp only [b_law_ratio_3, b_law_ratio_4, Bool.not_true, Bool.not_false, wpSL, wpS, wpE, wpL, wpA, wpJ, wpC, wpO, wpI, setD, setAll, bindT, wipeE, List.set_cons_zero, List.set_cons_succ, List.getElem?_cons_zero, List.getElem?_cons_succ, e_fz, e_ow, e_st, e_int, e_int2, e_list, e_seqs1, e_seqs2, e_seq1, e_seq2, e_bool, e_kept0, e_kept1, e_add, e_cat, e_sub, e_mul, e_fdiv, e_mod, e_pow, e_eqI, e_eqS, e_neI, e_neS, e_lt, e_le, e_gt, e_ge, e_ixL, e_ixT, e_slL, e_slT, e_lenL, e_lenT, e_abs, e_intI, e_intB, e_str, e_max, e_min, e_repr, e_fI, e_fS, some_ex, if_tt, if_ff, Int.zero_sub]
    exact ⟨⟨c0, c2⟩, ⟨c0, c2⟩, two_size, h⟩
  · rw [if_neg c] at c0 c2 h
    rw [if_neg (by simpa using c)]
    simp only [b_law_ratio_4, Bool.not_true, Bool.not_false, wpSL, wpS, wpE, wpL, wpA, wpJ, wpC, wpO, wpI, setD, setAll, bindT, wipeE, List.set_cons_zero, List.set_cons_succ, List.getElem?_cons_zero, List.getElem?_cons_succ, e_fz, e_ow, e_st, e_int, e_int2, e_list, e_seqs1, e_seqs2, e_seq1, e_seq2, e_bool, e_kept0, e_kept1, e_add, e_cat, e_sub, e_mul, e_fdiv, e_mod, e_pow, e_eqI, e_eqS, e_neI, e_neS, e_lt, e_le, e_gt, e_ge, e_ixL, e_ixT, e_slL, e_slT, e_lenL, e_lenT, e_abs, e_intI, e_intB, e_str, e_max, e_min, e_repr, e_fI, e_fS, some_ex, if_tt, if_ff]
    exact ⟨⟨c0, c2⟩, ⟨c0, c2⟩, two_size, h⟩
/-! ### sums, products, the less one -/
def addP (p q : Int × Int) : Int × Int := rat (p.1 * q.2 + q.1 * p.2) (p.2 * q.2)
def mulP (p q : Int × Int) : Int × Int := rat (p.1 * q.1) (p.2 * q.2)
def lesP (p q : Int × Int) : Bool := decide (p.1 * q.2 < q.1 * p.2)
theorem mul_ne {a b : Int} (ha : 0 < a) (hb : 0 < b) : a * b ≠ 0 := Int.ne_of_gt (Int.mul_pos ha hb)
theorem addP_ok {j k : Nat} {p q : Int × Int} (hp : Rk j p) (hq : Rk k q) : Rk (j + k + 1) (addP p q) :=
  rat_ok (mul_ne hp.pos hq.pos) ((hp.w1.mul hq.w2).add2 ((hq.w1.mul hp.w2).mono (by omega))) ((hp.w2.mul hq.w2).mono (by omega))
theorem mulP_ok {j k : Nat} {p q : Int × Int} (hp : Rk j p) (hq : Rk k q) : Rk (j + k) (mulP p q) := rat_ok (mul_ne hp.pos hq.pos) (hp.w1.mul hq.w1) (hp.w2.mul hq.w2)
theorem s_law_plus {j k : Nat} {p q : Int × Int} (hp : Rk j p) (hq : Rk k q) (hk : j + k < 8000) (h : Q (pd (addP p q)) g) : Phi tb (n + 3) 5 [.fz (pd p), .fz (pd q)] g X Q := by
  refine phi_law_plus ?_
  simp only [b_law_plus, b_law_plus_1, pd, at2_0, at2_1, Bool.not_true, Bool.not_false, wpSL, wpS, wpE, wpL, wpA, wpJ, wpC, wpO, wpI, setD, setAll, bindT, wipeE, List.set_cons_zero, List.set_cons_succ, List.getElem?_cons_zero, List.getElem?_cons_succ, e_fz, e_ow, e_st, e_int, e_int2, e_list, e_seqs1, e_seqs2, e_seq1, e_seq2, e_bool, e_kept0, e_kept1, e_add, e_cat, e_sub, e_mul, e_fdiv, e_mod, e_pow, e_eqI, e_eqS, e_neI, e_neS, e_lt, e_le, e_gt, e_ge, e_ixL, e_ixT, e_slL, e_slT, e_lenL, e_lenT, e_abs, e_intI, e_intB, e_str, e_max, e_min, e_repr, e_fI, e_fS, some_ex, if_tt, if_ff]
  exact ⟨hp.w1.mulOk hq.w2 (by omega), hq.w1.mulOk hp.w2 (by omega), hp.w2.mulOk hq.w2 (by omega), s_law_ratio (mul_ne hp.pos hq.pos) (hp.w2.mul hq.w2) (by omega) h⟩
theorem s_added {j k : Nat} {p q : Int × Int} (hp : Rk j p) (hq : Rk k q) (hk : j + k < 8000) (h : Q (pd (addP p q)) g) : Phi tb (n + 3) 11 [.fz (pd p), .fz (pd q)] g X Q := by
  refine phi_added ?_
  simp only [b_added, b_added_1, pd, at2_0, at2_1, Bool.not_true, Bool.not_false, wpSL, wpS, wpE, wpL, wpA, wpJ, wpC, wpO, wpI, setD, setAll, bindT, wipeE, List.set_cons_zero, List.set_cons_succ, List.getElem?_cons_zero, List.getElem?_cons_succ, e_fz, e_ow, e_st, e_int, e_int2, e_list, e_seqs1, e_seqs2, e_seq1, e_seq2, e_bool, e_kept0, e_kept1, e_add, e_cat, e_sub, e_mul, e_fdiv, e_mod, e_pow, e_eqI, e_eqS, e_neI, e_neS, e_lt, e_le, e_gt, e_ge, e_ixL, e_ixT, e_slL, e_slT, e_lenL, e_lenT, e_abs, e_intI, e_intB, e_str, e_max, e_min, e_repr, e_fI, e_fS, some_ex, if_tt, if_ff]
  exact ⟨hp.w1.mulOk hq.w2 (by omega), hq.w1.mulOk hp.w2 (by omega), hp.w2.mulOk hq.w2 (by omega), s_ratio (mul_ne hp.pos hq.pos) (hp.w2.mul hq.w2) (by omega) h⟩
theorem s_times {j k : Nat} {p q : Int × Int} (hp : Rk j p) (hq : Rk k q) (hk : j + k < 8000) (h : Q (pd (mulP p q)) g) : Phi tb (n + 3) 13 [.fz (pd p), .fz (pd q)] g X Q := by
  refine phi_times ?_
  simp only [b_times, b_times_1, pd, at2_0, at2_1, Bool.not_true, Bool.not_false, wpSL, wpS, wpE, wpL, wpA, wpJ, wpC, wpO, wpI, setD, setAll, bindT, wipeE, List.set_cons_zero, List.set_cons_succ, List.getElem?_cons_zero, List.getElem?_cons_succ, e_fz, e_ow, e_st, e_int, e_int2, e_list, e_seqs1, e_seqs2, e_seq1, e_seq2, e_bool, e_kept0, e_kept1, e_add, e_cat, e_sub, e_mul, e_fdiv, e_mod, e_pow, e_eqI, e_eqS, e_neI, e_neS, e_lt, e_le, e_gt, e_ge, e_ixL, e_ixT, e_slL, e_slT, e_lenL, e_lenT, e_abs, e_intI, e_intB, e_str, e_max, e_min, e_repr, e_fI, e_fS, some_ex, if_tt, if_ff]
  exact ⟨hp.w1.mulOk hq.w1 (by omega), hp.w2.mulOk hq.w2 (by omega), s_ratio (mul_ne hp.pos hq.pos) (hp.w2.mul hq.w2) (by omega) h⟩
theorem s_over {j k : Nat} {p q : Int × Int} (hp : Rk j p) (hq : Rk k q) (hk : j + k < 8000) (h0 : q.1 ≠ 0) (h : Q (pd (rat (p.1 * q.2) (p.2 * q.1))) g) : Phi tb (n + 3) 15 [.fz (pd p), .fz (pd q)] g X Q := by
  refine phi_over ?_
  simp only [b_over, b_over_1, pd, at2_0, at2_1, Bool.not_true, Bool.not_false, wpSL, wpS, wpE, wpL, wpA, wpJ, wpC, wpO, wpI, setD, setAll, bindT, wipeE, List.set_cons_zero, List.set_cons_succ, List.getElem?_cons_zero, List.getElem?_cons_succ, e_fz, e_ow, e_st, e_int, e_int2, e_list, e_seqs1, e_seqs2, e_seq1, e_seq2, e_bool, e_kept0, e_kept1, e_add, e_cat, e_sub, e_mul, e_fdiv, e_mod, e_pow, e_eqI, e_eqS, e_neI, e_neS, e_lt, e_le, e_gt, e_ge, e_ixL, e_ixT, e_slL, e_slT, e_lenL, e_lenT, e_abs, e_intI, e_intB, e_str, e_max, e_min, e_repr, e_fI, e_fS, some_ex, if_tt, if_ff]
  exact ⟨hp.w1.mulOk hq.w2 (by omega), hp.w2.mulOk hq.w1 (by omega), s_ratio (Int.mul_ne_zero (Int.ne_of_gt hp.pos) h0) (hp.w2.mul hq.w1) (by omega) h⟩
theorem s_negative {p : Int × Int} (h : Q (pd (-p.1, p.2)) g) : Phi tb (n + 1) 12 [.fz (pd p)] g X Q := by
  refine phi_negative ?_
  simp only [b_negative, b_negative_1, pd, at2_0, at2_1, Bool.not_true, Bool.not_false, wpSL, wpS, wpE, wpL, wpA, wpJ, wpC, wpO, wpI, setD, setAll, bindT, wipeE, List.set_cons_zero, List.set_cons_succ, List.getElem?_cons_zero, List.getElem?_cons_succ, e_fz, e_ow, e_st, e_int, e_int2, e_list, e_seqs1, e_seqs2, e_seq1, e_seq2, e_bool, e_kept0, e_kept1, e_add, e_cat, e_sub, e_mul, e_fdiv, e_mod, e_pow, e_eqI, e_eqS, e_neI, e_neS, e_lt, e_le, e_gt, e_ge, e_ixL, e_ixT, e_slL, e_slT, e_lenL, e_lenT, e_abs, e_intI, e_intB, e_str, e_max, e_min, e_repr, e_fI, e_fS, some_ex, if_tt, if_ff]
  exact ⟨two_size, h⟩
theorem s_less {j k : Nat} {p q : Int × Int} (hp : Rk j p) (hq : Rk k q) (hk : j + k < 8000) (h : Q (.bool (lesP p q)) g) : Phi tb (n + 1) 14 [.fz (pd p), .fz (pd q)] g X Q := by
  refine phi_less ?_
  simp only [b_less, b_less_1, pd, at2_0, at2_1, Bool.not_true, Bool.not_false, wpSL, wpS, wpE, wpL, wpA, wpJ, wpC, wpO, wpI, setD, setAll, bindT, wipeE, List.set_cons_zero, List.set_cons_succ, List.getElem?_cons_zero, List.getElem?_cons_succ, e_fz, e_ow, e_st, e_int, e_int2, e_list, e_seqs1, e_seqs2, e_seq1, e_seq2, e_bool, e_kept0, e_kept1, e_add, e_cat, e_sub, e_mul, e_fdiv, e_mod, e_pow, e_eqI, e_eqS, e_neI, e_neS, e_lt, e_le, e_gt, e_ge, e_ixL, e_ixT, e_slL, e_slT, e_lenL, e_lenT, e_abs, e_intI, e_intB, e_str, e_max, e_min, e_repr, e_fI, e_fS, some_ex, if_tt, if_ff]
  exact ⟨hp.w1.mulOk hq.w2 (by omega), hq.w1.mulOk hp.w2 (by omega), h⟩
theorem s_law_less {j k : Nat} {p q : Int × Int} (hp : Rk j p) (hq : Rk k q) (hk : j + k < 8000) (h : Q (.bool (lesP p q)) g) : Phi tb (n + 1) 6 [.fz (pd p), .fz (pd q)] g X Q := by
  refine phi_law_less ?_
  simp only [b_law_less, b_law_less_1, pd, at2_0, at2_1, Bool.not_true, Bool.not_false, wpSL, wpS, wpE, wpL, wpA, wpJ, wpC, wpO, wpI, setD, setAll, bindT, wipeE, List.set_cons_zero, List.set_cons_succ, List.getElem?_cons_zero, List.getElem?_cons_succ, e_fz, e_ow, e_st, e_int, e_int2, e_list, e_seqs1, e_seqs2, e_seq1, e_seq2, e_bool, e_kept0, e_kept1, e_add, e_cat, e_sub, e_mul, e_fdiv, e_mod, e_pow, e_eqI, e_eqS, e_neI, e_neS, e_lt, e_le, e_gt, e_ge, e_ixL, e_ixT, e_slL, e_slT, e_lenL, e_lenT, e_abs, e_intI, e_intB, e_str, e_max, e_min, e_repr, e_fI, e_fS, some_ex, if_tt, if_ff]
  exact ⟨hp.w1.mulOk hq.w2 (by omega), hq.w1.mulOk hp.w2 (by omega), h⟩
theorem s_is_ratio {a b : Int} (h : Q (.bool (decide (1 ≤ b ∧ Int.gcd a b = 1))) g) : Phi tb (n + 2) 10 [.fz (pd (a, b))] g X Q := by
  refine phi_is_ratio ?_
  simp only [b_is_ratio, b_is_ratio_1, pd, at2_0, at2_1, Bool.not_true, Bool.not_false, wpSL, wpS, wpE, wpL, wpA, wpJ, wpC, wpO, wpI, setD, setAll, bindT, wipeE, List.set_cons_zero, List.set_cons_succ, List.getElem?_cons_zero, List.getElem?_cons_succ, e_fz, e_ow, e_st, e_int, e_int2, e_list, e_seqs1, e_seqs2, e_seq1, e_seq2, e_bool, e_kept0, e_kept1, e_add, e_cat, e_sub, e_mul, e_fdiv, e_mod, e_pow, e_eqI, e_eqS, e_neI, e_neS, e_lt, e_le, e_gt, e_ge, e_ixL, e_ixT, e_slL, e_slT, e_lenL, e_lenT, e_abs, e_intI, e_intB, e_str, e_max, e_min, e_repr, e_fI, e_fS, some_ex, if_tt, if_ff]
  rw [if_pos (by rfl)]
  by_cases c : 1 ≤ b
  · rw [if_pos (decide_eq_true c)]
    refine s_divisor ?_
    simp only [Bool.not_true, Bool.not_false, wpSL, wpS, wpE, wpL, wpA, wpJ, wpC, wpO, wpI, setD, setAll, bindT, wipeE, List.set_cons_zero, List.set_cons_succ, List.getElem?_cons_zero, List.getElem?_cons_succ, e_fz, e_ow, e_st, e_int, e_int2, e_list, e_seqs1, e_seqs2, e_seq1, e_seq2, e_bool, e_kept0, e_kept1, e_add, e_cat, e_sub, e_mul, e_fdiv, e_mod, e_pow, e_eqI, e_eqS, e_neI, e_neS, e_lt, e_le, e_gt, e_ge, e_ixL, e_ixT, e_slL, e_slT, e_lenL, e_lenT, e_abs, e_intI, e_intB, e_str, e_max, e_min, e_repr, e_fI, e_fS, some_ex, if_tt, if_ff]
    rw [show decide (1 ≤ b ∧ Int.gcd a b = 1) = decide ((Int.gcd a b : Int) = 1) by
      rw [decide_eq_decide]; omega] at h
    exact h
  · rw [if_neg (by simpa using c)]
    rw [decide_eq_false (by omega)] at h
    exact h
/-- a ratio drawn -/
theorem s_law_drawn (hg : 4 < g) (h : ∀ p, Rk 28 p → Q (pd p) (g - 3)) : Phi tb (n + 3) 3 [.st] g X Q := by
  refine phi_law_drawn ?_
  simp only [b_law_drawn, b_law_drawn_1, b_law_drawn_2, Bool.not_true, Bool.not_false, wpSL, wpS, wpE, wpL, wpA, wpJ, wpC, wpO, wpI, setD, setAll, bindT, wipeE, List.set_cons_zero, List.set_cons_succ, List.getElem?_cons_zero, List.getElem?_cons_succ, e_fz, e_ow, e_st, e_int, e_int2, e_list, e_seqs1, e_seqs2, e_seq1, e_seq2, e_bool, e_kept0, e_kept1, e_add, e_cat, e_sub, e_mul, e_fdiv, e_mod, e_pow, e_eqI, e_eqS, e_neI, e_neS, e_lt, e_le, e_gt, e_ge, e_ixL, e_ixT, e_slL, e_slT, e_lenL, e_lenT, e_abs, e_intI, e_intB, e_str, e_max, e_min, e_repr, e_fI, e_fS, some_ex, if_tt, if_ff]
  refine ⟨by decide, by omega, fun x hx0 hx1 => ⟨⟨by decide, by decide, by decide⟩, by rw [sizeLine_eq]; decide, by decide, by omega, fun y hy0 hy1 => ?_⟩⟩
  have fin : ∀ f : Int, (f = 1 ∨ f = 10 ^ 6) → mulOk (x - 200) f ∧ (0 : Int) < 60 ∧ 1 < g - 1 - 1 ∧ ∀ z : Int, 0 ≤ z → z < 60 → Phi tb (n + 2) 2 [.fz (.int ((x - 200) * f)), .fz (.int (1 + z))] (g - 1 - 1 - 1) X Q := fun f hf => by
    refine ⟨.inl ⟨by omega, by omega⟩, by decide, by omega, fun z hz0 hz1 => ?_⟩
    have w2 : W 28 (1 + z) := by unfold W; omega
    refine s_law_ratio (by omega) w2 (by decide) ?_
    rw [show g - 1 - 1 - 1 = g - 3 by omega]
    refine h _ (rat_ok (by omega) ?_ w2)
    unfold W
    rcases hf with rfl | rfl
    · omega
    · omega
  by_cases c : y = 0
  · rw [decide_eq_true c]
    exact ⟨_, rfl, fin _ (.inr rfl)⟩
  · rw [decide_eq_false c]
    exact ⟨_, rfl, fin _ (.inl rfl)⟩
end Dz
set_option Elab.async false
set_option linter.all false
set_option maxRecDepth 100000
/-! k01: the loops, the texts, the stream. -/
namespace Dz
open PySem
variable {n g : Nat} {X : XR} {Q : Rs}
def rowsD (ps : List (Int × Int)) : D := .list (ps.map pd)
def bst (p q : Int × Int) : Int × Int := if lesP p q = true then q else p
theorem map_at {α : Type} {f : α → D} {ps : List α} {i : Nat} {d : D} (h : (ps.map f)[i]? = some d) : ∃ p, ps[i]? = some p ∧ d = f p := by
  rw [List.getElem?_map] at h
  cases e : ps[i]? with
  | none => rw [e] at h; cases h
  | some p => rw [e] at h; exact ⟨p, rfl, (Option.some.inj h).symm⟩
theorem take_more {α : Type} {ps : List α} {i : Nat} {p : α} (h : ps[i]? = some p) : ps.take (i + 1) = ps.take i ++ [p] := by
  rw [List.take_add_one, h]; rfl
theorem fold_more {α β : Type} {f : β → α → β} {b : β} {ps : List α} {i : Nat} {p : α} (h : ps[i]? = some p) : (ps.take (i + 1)).foldl f b = f ((ps.take i).foldl f b) p := by
  rw [take_more h, List.foldl_append]; rfl
theorem all_at {α : Type} {ps : List α} {P : α → Prop} (h : ∀ p ∈ ps, P p) {i : Nat} {p : α} (e : ps[i]? = some p) : P p := h p (List.mem_of_getElem? e)
theorem bst_ok {k : Nat} {p q : Int × Int} (hp : Rk k p) (hq : Rk k q) : Rk k (bst p q) := by
  unfold bst; split <;> assumption
theorem bst_fold {k : Nat} : ∀ {ps : List (Int × Int)} {p : Int × Int}, Rk k p → (∀ q ∈ ps, Rk k q) → Rk k (ps.foldl bst p)
  | [], _, h, _ => h
  | q :: ps, p, h, a => bst_fold (ps := ps) (p := bst p q) (bst_ok h (a q (by simp))) fun r hr => a r (List.mem_cons_of_mem _ hr)
theorem s_greatest {k : Nat} {p : Int × Int} {ps : List (Int × Int)} (hk : k < 4000) (hp : Rk k p) (ha : ∀ q ∈ ps, Rk k q) (h : Q (pd (ps.foldl bst p)) g) : Phi tb (n + 2) 16 [.fz (rowsD (p :: ps))] g X Q := by
  refine phi_greatest ?_
  simp only [b_greatest, b_greatest_1, rowsD, Bool.not_true, Bool.not_false, wpSL, wpS, wpE, wpL, wpA, wpJ, wpC, wpO, wpI, setD, setAll, bindT, wipeE, List.set_cons_zero, List.set_cons_succ, List.getElem?_cons_zero, List.getElem?_cons_succ, e_fz, e_ow, e_st, e_int, e_int2, e_list, e_seqs1, e_seqs2, e_seq1, e_seq2, e_bool, e_kept0, e_kept1, e_add, e_cat, e_sub, e_mul, e_fdiv, e_mod, e_pow, e_eqI, e_eqS, e_neI, e_neS, e_lt, e_le, e_gt, e_ge, e_ixL, e_ixT, e_slL, e_slT, e_lenL, e_lenT, e_abs, e_intI, e_intB, e_str, e_max, e_min, e_repr, e_fI, e_fS, some_ex, if_tt, if_ff]
  refine ⟨pd p, at_of (i := 0) rfl, ?_⟩
  simp only [b_greatest_2, Bool.not_true, Bool.not_false, wpSL, wpS, wpE, wpL, wpA, wpJ, wpC, wpO, wpI, setD, setAll, bindT, wipeE, List.set_cons_zero, List.set_cons_succ, List.getElem?_cons_zero, List.getElem?_cons_succ, e_fz, e_ow, e_st, e_int, e_int2, e_list, e_seqs1, e_seqs2, e_seq1, e_seq2, e_bool, e_kept0, e_kept1, e_add, e_cat, e_sub, e_mul, e_fdiv, e_mod, e_pow, e_eqI, e_eqS, e_neI, e_neS, e_lt, e_le, e_gt, e_ge, e_ixL, e_ixT, e_slL, e_slT, e_lenL, e_lenT, e_abs, e_intI, e_intB, e_str, e_max, e_min, e_repr, e_fI, e_fS, some_ex, if_tt, if_ff]
  have e : cutD ((p :: ps).map pd) (some 1) none = ps.map pd := cut_from _ 1
  rw [e]
  refine for_inv (fun i ρ g' => g' = g ∧ ∃ v, ρ = [.fz (.list ((p :: ps).map pd)), .fz (pd ((ps.take i).foldl bst p)), v]) ⟨rfl, _, rfl⟩ ?_ ?_
  · rintro i d ρ g' nx hd ⟨rfl, v, rfl⟩ hn
    obtain ⟨q, hq, rfl⟩ := map_at hd
    have hb := bst_fold (ps := ps.take i) hp fun r hr => ha r (List.mem_of_mem_take hr)
    refine ⟨_, rfl, ?_⟩
    simp only [b_greatest_3, Bool.not_true, Bool.not_false, wpSL, wpS, wpE, wpL, wpA, wpJ, wpC, wpO, wpI, setD, setAll, bindT, wipeE, List.set_cons_zero, List.set_cons_succ, List.getElem?_cons_zero, List.getElem?_cons_succ, e_fz, e_ow, e_st, e_int, e_int2, e_list, e_seqs1, e_seqs2, e_seq1, e_seq2, e_bool, e_kept0, e_kept1, e_add, e_cat, e_sub, e_mul, e_fdiv, e_mod, e_pow, e_eqI, e_eqS, e_neI, e_neS, e_lt, e_le, e_gt, e_ge, e_ixL, e_ixT, e_slL, e_slT, e_lenL, e_lenT, e_abs, e_intI, e_intB, e_str, e_max, e_min, e_repr, e_fI, e_fS, some_ex, if_tt, if_ff]
    refine s_less hb (all_at ha hq) (by omega) ?_
    simp only [Bool.not_true, Bool.not_false, wpSL, wpS, wpE, wpL, wpA, wpJ, wpC, wpO, wpI, setD, setAll, bindT, wipeE, List.set_cons_zero, List.set_cons_succ, List.getElem?_cons_zero, List.getElem?_cons_succ, e_fz, e_ow, e_st, e_int, e_int2, e_list, e_seqs1, e_seqs2, e_seq1, e_seq2, e_bool, e_kept0, e_kept1, e_add, e_cat, e_sub, e_mul, e_fdiv, e_mod, e_pow, e_eqI, e_eqS, e_neI, e_neS, e_lt, e_le, e_gt, e_ge, e_ixL, e_ixT, e_slL, e_slT, e_lenL, e_lenT, e_abs, e_intI, e_intB, e_str, e_max, e_min, e_repr, e_fI, e_fS, some_ex, if_tt, if_ff]
    have e := fold_more (f := bst) (b := p) hq
    split
    · next c => exact hn _ _ ⟨rfl, _, by rw [e, bst, if_pos c]⟩
    · next c => exact hn _ _ ⟨rfl, _, by rw [e, bst, if_neg c]⟩
  · rintro ρ g' ⟨rfl, v, rfl⟩
    rw [List.length_map, List.take_length]
    simp only [b_greatest_4, Bool.not_true, Bool.not_false, wpSL, wpS, wpE, wpL, wpA, wpJ, wpC, wpO, wpI, setD, setAll, bindT, wipeE, List.set_cons_zero, List.set_cons_succ, List.getElem?_cons_zero, List.getElem?_cons_succ, e_fz, e_ow, e_st, e_int, e_int2, e_list, e_seqs1, e_seqs2, e_seq1, e_seq2, e_bool, e_kept0, e_kept1, e_add, e_cat, e_sub, e_mul, e_fdiv, e_mod, e_pow, e_eqI, e_eqS, e_neI, e_neS, e_lt, e_le, e_gt, e_ge, e_ixL, e_ixT, e_slL, e_slT, e_lenL, e_lenT, e_abs, e_intI, e_intB, e_str, e_max, e_min, e_repr, e_fI, e_fS, some_ex, if_tt, if_ff]
    exact h
theorem Rk.mono {j k : Nat} {p : Int × Int} (h : Rk j p) (jk : j ≤ k) : Rk k p := ⟨h.pos, h.one, h.w1.mono jk, h.w2.mono jk⟩
theorem sum_ok {k : Nat} : ∀ {ps : List (Int × Int)} {p : Int × Int} {m : Nat}, Rk m p → (∀ q ∈ ps, Rk k q) → Rk (m + ps.length * (k + 1)) (ps.foldl addP p)
  | [], p, m, h, _ => h.mono (by omega)
  | q :: ps, p, m, h, a => by
    refine (sum_ok (ps := ps) (p := addP p q) (addP_ok h (a q (by simp))) fun r hr => a r (List.mem_cons_of_mem _ hr)).mono ?_
    rw [List.length_cons, Nat.add_mul]
    omega
theorem rk01 : Rk 1 (0, 1) := ⟨by decide, by decide, by unfold W; decide, by unfold W; decide⟩
def sumP (ps : List (Int × Int)) : Int × Int := ps.foldl addP (0, 1)
theorem sumP_ok {k l : Nat} {ps : List (Int × Int)} (ha : ∀ q ∈ ps, Rk k q) (hl : ps.length ≤ l) : Rk (1 + l * (k + 1)) (sumP ps) := (sum_ok rk01 ha).mono (Nat.add_le_add_left (Nat.mul_le_mul_right _ hl) _)
theorem s_summed {k : Nat} {ps : List (Int × Int)} (hk : k < 100) (ha : ∀ q ∈ ps, Rk k q) (hl : ps.length ≤ 10) (h : Q (pd (sumP ps)) g) : Phi tb (n + 4) 17 [.fz (rowsD ps)] g X Q := by
  refine phi_summed ?_
  simp only [b_summed, b_summed_1, b_summed_2, rowsD, Bool.not_true, Bool.not_false, wpSL, wpS, wpE, wpL, wpA, wpJ, wpC, wpO, wpI, setD, setAll, bindT, wipeE, List.set_cons_zero, List.set_cons_succ, List.getElem?_cons_zero, List.getElem?_cons_succ, e_fz, e_ow, e_st, e_int, e_int2, e_list, e_seqs1, e_seqs2, e_seq1, e_seq2, e_bool, e_kept0, e_kept1, e_add, e_cat, e_sub, e_mul, e_fdiv, e_mod, e_pow, e_eqI, e_eqS, e_neI, e_neS, e_lt, e_le, e_gt, e_ge, e_ixL, e_ixT, e_slL, e_slT, e_lenL, e_lenT, e_abs, e_intI, e_intB, e_str, e_max, e_min, e_repr, e_fI, e_fS, some_ex, if_tt, if_ff]
  refine ⟨two_size, for_inv (fun i ρ g' => g' = g ∧ ∃ v, ρ = [.fz (.list (ps.map pd)), .fz (pd (sumP (ps.take i))), v]) ⟨rfl, _, rfl⟩ ?_ ?_⟩
  · rintro i d ρ g' nx hd ⟨rfl, v, rfl⟩ hn
    obtain ⟨q, hq, rfl⟩ := map_at hd
    have hb := sumP_ok (ps := ps.take i) (l := 10) (fun r hr => ha r (List.mem_of_mem_take hr)) (by rw [List.length_take]; omega)
    refine ⟨_, rfl, ?_⟩
    simp only [b_summed_3, Bool.not_true, Bool.not_false, wpSL, wpS, wpE, wpL, wpA, wpJ, wpC, wpO, wpI, setD, setAll, bindT, wipeE, List.set_cons_zero, List.set_cons_succ, List.getElem?_cons_zero, List.getElem?_cons_succ, e_fz, e_ow, e_st, e_int, e_int2, e_list, e_seqs1, e_seqs2, e_seq1, e_seq2, e_bool, e_kept0, e_kept1, e_add, e_cat, e_sub, e_mul, e_fdiv, e_mod, e_pow, e_eqI, e_eqS, e_neI, e_neS, e_lt, e_le, e_gt, e_ge, e_ixL, e_ixT, e_slL, e_slT, e_lenL, e_lenT, e_abs, e_intI, e_intB, e_str, e_max, e_min, e_repr, e_fI, e_fS, some_ex, if_tt, if_ff]
    refine s_added hb (all_at ha hq) (by omega) ?_
    exact hn _ _ ⟨rfl, _, by rw [sumP, sumP, fold_more hq]⟩
  · rintro ρ g' ⟨rfl, v, rfl⟩
    rw [List.length_map, List.take_length]
    simp only [b_summed_4, Bool.not_true, Bool.not_false, wpSL, wpS, wpE, wpL, wpA, wpJ, wpC, wpO, wpI, setD, setAll, bindT, wipeE, List.set_cons_zero, List.set_cons_succ, List.getElem?_cons_zero, List.getElem?_cons_succ, e_fz, e_ow, e_st, e_int, e_int2, e_list, e_seqs1, e_seqs2, e_seq1, e_seq2, e_bool, e_kept0, e_kept1, e_add, e_cat, e_sub, e_mul, e_fdiv, e_mod, e_pow, e_eqI, e_eqS, e_neI, e_neS, e_lt, e_le, e_gt, e_ge, e_ixL, e_ixT, e_slL, e_slT, e_lenL, e_lenT, e_abs, e_intI, e_intB, e_str, e_max, e_min, e_repr, e_fI, e_fS, some_ex, if_tt, if_ff]
    exact h
theorem s_law_sum {k : Nat} {ps : List (Int × Int)} (hk : k < 100) (ha : ∀ q ∈ ps, Rk k q) (hl : ps.length ≤ 10) (h : Q (pd (sumP ps)) g) : Phi tb (n + 4) 19 [.fz (rowsD ps)] g X Q := by
  refine phi_law_sum ?_
  simp only [b_law_sum, b_law_sum_1, b_law_sum_2, rowsD, Bool.not_true, Bool.not_false, wpSL, wpS, wpE, wpL, wpA, wpJ, wpC, wpO, wpI, setD, setAll, bindT, wipeE, List.set_cons_zero, List.set_cons_succ, List.getElem?_cons_zero, List.getElem?_cons_succ, e_fz, e_ow, e_st, e_int, e_int2, e_list, e_seqs1, e_seqs2, e_seq1, e_seq2, e_bool, e_kept0, e_kept1, e_add, e_cat, e_sub, e_mul, e_fdiv, e_mod, e_pow, e_eqI, e_eqS, e_neI, e_neS, e_lt, e_le, e_gt, e_ge, e_ixL, e_ixT, e_slL, e_slT, e_lenL, e_lenT, e_abs, e_intI, e_intB, e_str, e_max, e_min, e_repr, e_fI, e_fS, some_ex, if_tt, if_ff]
  refine ⟨two_size, for_inv (fun i ρ g' => g' = g ∧ ∃ v, ρ = [.fz (.list (ps.map pd)), .fz (pd (sumP (ps.take i))), v]) ⟨rfl, _, rfl⟩ ?_ ?_⟩
  · rintro i d ρ g' nx hd ⟨rfl, v, rfl⟩ hn
    obtain ⟨q, hq, rfl⟩ := map_at hd
    have hb := sumP_ok (ps := ps.take i) (l := 10) (fun r hr => ha r (List.mem_of_mem_take hr)) (by rw [List.length_take]; omega)
    refine ⟨_, rfl, ?_⟩
    simp only [b_law_sum_3, Bool.not_true, Bool.not_false, wpSL, wpS, wpE, wpL, wpA, wpJ, wpC, wpO, wpI, setD, setAll, bindT, wipeE, List.set_cons_zero, List.set_cons_succ, List.getElem?_cons_zero, List.getElem?_cons_succ, e_fz, e_ow, e_st, e_int, e_int2, e_list, e_seqs1, e_seqs2, e_seq1, e_seq2, e_bool, e_kept0, e_kept1, e_add, e_cat, e_sub, e_mul, e_fdiv, e_mod, e_pow, e_eqI, e_eqS, e_neI, e_neS, e_lt, e_le, e_gt, e_ge, e_ixL, e_ixT, e_slL, e_slT, e_lenL, e_lenT, e_abs, e_intI, e_intB, e_str, e_max, e_min, e_repr, e_fI, e_fS, some_ex, if_tt, if_ff]
    refine s_law_plus hb (all_at ha hq) (by omega) ?_
    exact hn _ _ ⟨rfl, _, by rw [sumP, sumP, fold_more hq]⟩
  · rintro ρ g' ⟨rfl, v, rfl⟩
    rw [List.length_map, List.take_length]
    simp only [b_law_sum_4, Bool.not_true, Bool.not_false, wpSL, wpS, wpE, wpL, wpA, wpJ, wpC, wpO, wpI, setD, setAll, bindT, wipeE, List.set_cons_zero, List.set_cons_succ, List.getElem?_cons_zero, List.getElem?_cons_succ, e_fz, e_ow, e_st, e_int, e_int2, e_list, e_seqs1, e_seqs2, e_seq1, e_seq2, e_bool, e_kept0, e_kept1, e_add, e_cat, e_sub, e_mul, e_fdiv, e_mod, e_pow, e_eqI, e_eqS, e_neI, e_neS, e_lt, e_le, e_gt, e_ge, e_ixL, e_ixT, e_slL, e_slT, e_lenL, e_lenT, e_abs, e_intI, e_intB, e_str, e_max, e_min, e_repr, e_fI, e_fS, some_ex, if_tt, if_ff]
    exact h
theorem zipP_at {ps qs : List (Int × Int)} {i : Nat} {d : D} (h : (zipD (ps.map pd) (qs.map pd))[i]? = some d) : ∃ p q, ps[i]? = some p ∧ qs[i]? = some q ∧ d = .tuple [pd p, pd q] := by
  unfold zipD at h
  rw [List.getElem?_zipWith] at h
  cases e1 : (ps.map pd)[i]? with
  | none => rw [e1] at h; cases h
  | some x =>
    cases e2 : (qs.map pd)[i]? with
    | none => rw [e1, e2] at h; cases h
    | some y =>
      rw [e1, e2] at h
      obtain ⟨p, hp, rfl⟩ := map_at e1
      obtain ⟨q, hq, rfl⟩ := map_at e2
      exact ⟨p, q, hp, hq, (Option.some.inj h).symm⟩
def mulsP (ps qs : List (Int × Int)) : List (Int × Int) := List.zipWith mulP ps qs
theorem mulsP_at {ps qs : List (Int × Int)} {i : Nat} {p q : Int × Int} (hp : ps[i]? = some p) (hq : qs[i]? = some q) : (mulsP ps qs)[i]? = some (mulP p q) := by
  unfold mulsP
  rw [List.getElem?_zipWith, hp, hq]
theorem mulsP_ok {k : Nat} {ps qs : List (Int × Int)} (hp : ∀ p ∈ ps, Rk k p) (hq : ∀ p ∈ qs, Rk k p) : ∀ p ∈ mulsP ps qs, Rk (k + k) p := fun p h => by
  obtain ⟨i, hi⟩ := List.getElem?_of_mem h
  unfold mulsP at hi
  rw [List.getElem?_zipWith] at hi
  cases e1 : ps[i]? with
  | none => rw [e1] at hi; cases hi
  | some x =>
    cases e2 : qs[i]? with
    | none => rw [e1, e2] at hi; cases hi
    | some y =>
      rw [e1, e2] at hi
      cases hi
      exact mulP_ok (all_at hp e1) (all_at hq e2)
theorem s_weighed {k : Nat} {ps qs : List (Int × Int)} (hk : k < 50) (hp : ∀ p ∈ ps, Rk k p) (hq : ∀ p ∈ qs, Rk k p) (hl : ps.length ≤ 10) (hl2 : qs.length = ps.length) (h : Q (pd (sumP (mulsP ps qs))) g) :
    Phi tb (n + 5) 18 [.fz (rowsD ps), .fz (rowsD qs)] g X Q := by
  refine phi_weighed ?_
  simp only [b_weighed, b_weighed_1, rowsD, Bool.not_true, Bool.not_false, wpSL, wpS, wpE, wpL, wpA, wpJ, wpC, wpO, wpI, setD, setAll, bindT, wipeE, List.set_cons_zero, List.set_cons_succ, List.getElem?_cons_zero, List.getElem?_cons_succ, e_fz, e_ow, e_st, e_int, e_int2, e_list, e_seqs1, e_seqs2, e_seq1, e_seq2, e_bool, e_kept0, e_kept1, e_add, e_cat, e_sub, e_mul, e_fdiv, e_mod, e_pow, e_eqI, e_eqS, e_neI, e_neS, e_lt, e_le, e_gt, e_ge, e_ixL, e_ixT, e_slL, e_slT, e_lenL, e_lenT, e_abs, e_intI, e_intB, e_str, e_max, e_min, e_repr, e_fI, e_fS, some_ex, if_tt, if_ff]
  have hzl : (zipD (ps.map pd) (qs.map pd)).length = ps.length := by
    unfold zipD; rw [List.length_zipWith, List.length_map, List.length_map]; omega
  have hml : (mulsP ps qs).length = ps.length := by
    unfold mulsP; rw [List.length_zipWith]; omega
  refine comp_inv (fun i acc g' => g' = g ∧ acc = ((mulsP ps qs).take i).map pd ∧ i ≤ ps.length) ⟨rfl, rfl, by omega⟩ ?_ ?_
  · rintro i d acc g' K hd ⟨rfl, rfl, hi⟩ hn hs
    obtain ⟨p, q, h1, h2, rfl⟩ := zipP_at hd
    have hi2 : i < ps.length := (List.getElem?_eq_some_iff.mp h1).1
    simp only [Bool.not_true, Bool.not_false, wpSL, wpS, wpE, wpL, wpA, wpJ, wpC, wpO, wpI, setD, setAll, bindT, wipeE, List.set_cons_zero, List.set_cons_succ, List.getElem?_cons_zero, List.getElem?_cons_succ, e_fz, e_ow, e_st, e_int, e_int2, e_list, e_seqs1, e_seqs2, e_seq1, e_seq2, e_bool, e_kept0, e_kept1, e_add, e_cat, e_sub, e_mul, e_fdiv, e_mod, e_pow, e_eqI, e_eqS, e_neI, e_neS, e_lt, e_le, e_gt, e_ge, e_ixL, e_ixT, e_slL, e_slT, e_lenL, e_lenT, e_abs, e_intI, e_intB, e_str, e_max, e_min, e_repr, e_fI, e_fS, some_ex, if_tt, if_ff]
    refine s_times (all_at hp h1) (all_at hq h2) (by omega) ?_
    refine hs _ _ ?_ ⟨rfl, ?_, by omega⟩
    · rw [List.length_map, List.length_take, sizeLine_eq]; omega
    · rw [take_more (mulsP_at h1 h2), List.map_append]; rfl
  · rintro acc g' ⟨rfl, rfl, _⟩
    rw [hzl, ← hml, List.take_length]
    exact s_summed (k := k + k) (by omega) (mulsP_ok hp hq) (by omega) h
end Dz
set_option Elab.async false
set_option linter.all false
set_option maxRecDepth 100000
/-! k01: the texts, the stream. -/
namespace Dz
open PySem
variable {n g : Nat} {X : XR} {Q : Rs}
/-! ### texts -/
theorem empty_cat (x : Str) : Str.empty ++ x = x := by
  cases x with
  | mk c =>
    show Str.mk (#[] ++ c) = Str.mk c
    rw [Array.empty_append]
def Uni (x : Str) : Prop := ∀ c ∈ x.cps.toList, c < 16 ^ 8
theorem Uni.cat {x y : Str} (hx : Uni x) (hy : Uni y) : Uni (x ++ y) := fun c h => by
  have h' : c ∈ (x.cps ++ y.cps).toList := h
  rw [Array.toList_append, List.mem_append] at h'
  exact h'.elim (hx c) (hy c)
theorem Uni.of (s : String) : Uni (Str.ofString s) := fun c h => by
  rw [Str.ofString_eq_toList] at h
  have h' : c ∈ s.toList.map Char.toNat := h
  obtain ⟨ch, _, rfl⟩ := List.mem_map.mp h'
  exact ch.val.toNat_lt
/-- what a repr asks of a text -/
theorem shw_str {x : Str} {m : Nat} (u : Uni x) (h : 10 * x.length + 2 ≤ m) : Shw m (.str x) :=
  sh_str (Nat.le_trans (PySem.StrLaws.reprText_len x u) h)
theorem s_law_same {d : D} (hs : Shw 10000000 d) (h : Q (.bool true) g) : Phi tb (n + 1) 4 [.fz d, .fz d] g X Q := by
  refine phi_law_same ?_
  simp only [b_law_same, b_law_same_1, Bool.not_true, Bool.not_false, wpSL, wpS, wpE, wpL, wpA, wpJ, wpC, wpO, wpI, setD, setAll, bindT, wipeE, List.set_cons_zero, List.set_cons_succ, List.getElem?_cons_zero, List.getElem?_cons_succ, e_fz, e_ow, e_st, e_int, e_int2, e_list, e_seqs1, e_seqs2, e_seq1, e_seq2, e_bool, e_kept0, e_kept1, e_add, e_cat, e_sub, e_mul, e_fdiv, e_mod, e_pow, e_eqI, e_eqS, e_neI, e_neS, e_lt, e_le, e_gt, e_ge, e_ixL, e_ixT, e_slL, e_slT, e_lenL, e_lenT, e_abs, e_intI, e_intB, e_str, e_max, e_min, e_repr, e_fI, e_fS, some_ex, if_tt, if_ff]
  obtain ⟨h1, h2, h3, h4⟩ := hs
  have one : [d].length ≤ sizeLine := by rw [sizeLine_eq]; show 1 ≤ 16777216; decide
  have a1 : (PyData.list [d]).showable = true := by simp only [PyData.showable, PyData.showableAll, h1, Bool.and_self]
  have a2 : (PyData.list [d]).hasDict = false := by simp only [PyData.hasDict, PyData.hasDictAll, h2, Bool.or_self]
  have a3 : (PyData.list [d]).depth < 50 := by
    simp only [PyData.depth, PyData.depthAll]
    omega
  have a4 : (PyData.list [d]).shown.length ≤ sizeLine := by
    refine Nat.le_trans (shown_le _ a1 a2) ?_
    simp only [siz, sizA]
    rw [sizeLine_eq]
    omega
  refine ⟨one, ⟨a1, a3, a2, a4⟩, one, ⟨a1, a3, a2, a4⟩, ?_⟩
  exact h
def txt (p : Int × Int) : Str := if p.2 = 1 then (toString p.1 : String) else (toString p.1 : String) ++ "/" ++ (toString p.2 : String)
theorem num_len {k : Nat} {i : Int} (h : W k i) (hk : k < 1920) : i.natAbs.log2 < 1920 ∧ (Str.ofString (toString i)).length ≤ 1921 :=
  ⟨Nat.lt_of_le_of_lt h.log hk, PyProof.Rows.int_text_len_1921 (Nat.lt_of_le_of_lt h.log hk)⟩
theorem s_ratio_text {k : Nat} {p : Int × Int} (hp : Rk k p) (hk : k < 1920) (h : Q (.str (txt p)) g) : Phi tb (n + 1) 7 [.fz (pd p)] g X Q := by
  refine phi_ratio_text ?_
  simp only [b_ratio_text, b_ratio_text_1, pd, at2_0, at2_1, Bool.not_true, Bool.not_false, wpSL, wpS, wpE, wpL, wpA, wpJ, wpC, wpO, wpI, setD, setAll, bindT, wipeE, List.set_cons_zero, List.set_cons_succ, List.getElem?_cons_zero, List.getElem?_cons_succ, e_fz, e_ow, e_st, e_int, e_int2, e_list, e_seqs1, e_seqs2, e_seq1, e_seq2, e_bool, e_kept0, e_kept1, e_add, e_cat, e_sub, e_mul, e_fdiv, e_mod, e_pow, e_eqI, e_eqS, e_neI, e_neS, e_lt, e_le, e_gt, e_ge, e_ixL, e_ixT, e_slL, e_slT, e_lenL, e_lenT, e_abs, e_intI, e_intB, e_str, e_max, e_min, e_repr, e_fI, e_fS, some_ex, if_tt, if_ff]
  obtain ⟨l1, l2⟩ := num_len hp.w1 hk
  obtain ⟨l3, l4⟩ := num_len hp.w2 hk
  have sl : (Str.ofString "/").length = 1 := by rfl
  rw [empty_cat]
  unfold txt at h
  by_cases c : p.2 = 1
  · rw [if_pos c] at h
    rw [if_pos (decide_eq_true c)]
    exact ⟨l1, h⟩
  · rw [if_neg c] at h
    rw [if_neg (by simpa using c)]
    simp only [sizeLine_eq, strLen_append, sl]
    exact ⟨l1, by omega, by omega, by omega, l3, by omega, h⟩
theorem txt_shw {k : Nat} {p : Int × Int} (hp : Rk k p) (hk : k < 1920) : Shw 10000000 (.str (txt p)) := by
  obtain ⟨l1, l2⟩ := num_len hp.w1 hk
  obtain ⟨l3, l4⟩ := num_len hp.w2 hk
  have sl : (Str.ofString "/").length = 1 := by rfl
  unfold txt
  split
  · exact shw_str (Uni.of _) (by omega)
  · refine shw_str (Uni.cat (Uni.cat (Uni.of _) (Uni.of _)) (Uni.of _)) ?_
    rw [strLen_append, strLen_append, sl]
    omega
/-! ### the stream -/
theorem line_lt {m : Nat} (h : m ≤ 100000) : m < sizeLine := by rw [sizeLine_eq]; omega
theorem s_law_stream {ns : List Int} (hl : ns.length ≤ 63) (h : ∀ (x : Int) (xs : List Int), xs.length < 10000 → Q (.list (.int x :: xs.map PyData.int)) g) : Phi tb (n + 1) 0 [.fz (.list (ns.map PyData.int))] g X Q := by
  refine phi_law_stream ?_
  simp only [b_law_stream, b_law_stream_1, b_law_stream_2, Bool.not_true, Bool.not_false, wpSL, wpS, wpE, wpL, wpA, wpJ, wpC, wpO, wpI, setD, setAll, bindT, wipeE, List.set_cons_zero, List.set_cons_succ, List.getElem?_cons_zero, List.getElem?_cons_succ, e_fz, e_ow, e_st, e_int, e_int2, e_list, e_seqs1, e_seqs2, e_seq1, e_seq2, e_bool, e_kept0, e_kept1, e_add, e_cat, e_sub, e_mul, e_fdiv, e_mod, e_pow, e_eqI, e_eqS, e_neI, e_neS, e_lt, e_le, e_gt, e_ge, e_ixL, e_ixT, e_slL, e_slT, e_lenL, e_lenT, e_abs, e_intI, e_intB, e_str, e_max, e_min, e_repr, e_fI, e_fS, some_ex, if_tt, if_ff]
  refine ⟨Nat.zero_le _, ?_⟩
  have cut : cutD (ns.map PyData.int) none (some 63) = ns.map PyData.int := by
    have e := cut_to (ns.map PyData.int) 63
    rw [List.take_of_length_le (by rw [List.length_map]; exact hl)] at e
    exact e
  rw [cut]
  refine for_inv (fun i ρ g' => g' = g ∧ ∃ (xs : List Int) (s2 s3 s4 s5 : SV), ρ = [.fz (.list (ns.map PyData.int)), .ow (.list (xs.map PyData.int)), s2, s3, s4, s5] ∧ xs.length ≤ 60 * i) ⟨rfl, [], _, _, _, _, rfl, Nat.zero_le _⟩ ?_ ?_
  · rintro i d ρ g' nx hd ⟨rfl, xs, s2, s3, s4, s5, rfl, hx⟩ hn
    have hi : i < 63 := by
      have := (List.getElem?_eq_some_iff.mp hd).1
      rw [List.length_map] at this
      omega
    obtain ⟨z, hz, rfl⟩ : ∃ z : Int, ns[i]? = some z ∧ d = .int z := by
      rw [List.getElem?_map] at hd
      cases e : ns[i]? with
      | none => rw [e] at hd; cases hd
      | some z => rw [e] at hd; exact ⟨z, rfl, (Option.some.inj hd).symm⟩
    refine ⟨_, rfl, ?_⟩
    simp only [b_law_stream_3, b_law_stream_4, Bool.not_true, Bool.not_false, wpSL, wpS, wpE, wpL, wpA, wpJ, wpC, wpO, wpI, setD, setAll, bindT, wipeE, List.set_cons_zero, List.set_cons_succ, List.getElem?_cons_zero, List.getElem?_cons_succ, e_fz, e_ow, e_st, e_int, e_int2, e_list, e_seqs1, e_seqs2, e_seq1, e_seq2, e_bool, e_kept0, e_kept1, e_add, e_cat, e_sub, e_mul, e_fdiv, e_mod, e_pow, e_eqI, e_eqS, e_neI, e_neS, e_lt, e_le, e_gt, e_ge, e_ixL, e_ixT, e_slL, e_slT, e_lenL, e_lenT, e_abs, e_intI, e_intB, e_str, e_max, e_min, e_repr, e_fI, e_fS, some_ex, if_tt, if_ff]
    refine ⟨⟨by decide, by decide, by decide⟩, ?_⟩
    generalize (if z < 0 then -z else z) = r0
    split
    · -- great numbers
      simp only [b_law_stream_5, Bool.not_true, Bool.not_false, wpSL, wpS, wpE, wpL, wpA, wpJ, wpC, wpO, wpI, setD, setAll, bindT, wipeE, List.set_cons_zero, List.set_cons_succ, List.getElem?_cons_zero, List.getElem?_cons_succ, e_fz, e_ow, e_st, e_int, e_int2, e_list, e_seqs1, e_seqs2, e_seq1, e_seq2, e_bool, e_kept0, e_kept1, e_add, e_cat, e_sub, e_mul, e_fdiv, e_mod, e_pow, e_eqI, e_eqS, e_neI, e_neS, e_lt, e_le, e_gt, e_ge, e_ixL, e_ixT, e_slL, e_slT, e_lenL, e_lenT, e_abs, e_intI, e_intB, e_str, e_max, e_min, e_repr, e_fI, e_fS, some_ex, if_tt, if_ff]
      refine ⟨by decide, for_inv (fun j ρ g2 => g2 = g' ∧ ∃ (ys : List Int) (r : Int) (s4 : SV), ρ = [.fz (.list (ns.map PyData.int)), .ow (.list (ys.map PyData.int)), .fz (.int z), .fz (.int r), s4, s5] ∧ ys.length = xs.length + j) ⟨rfl, xs, _, _, rfl, rfl⟩ ?_ ?_⟩
      · rintro j d ρ g2 nx2 hd ⟨rfl, ys, r, s4, rfl, hy⟩ hn2
        obtain ⟨rfl, hj⟩ := rng_at hd
        refine ⟨_, rfl, ?_⟩
        simp only [b_law_stream_6, b_law_stream_7, b_law_stream_8, Bool.not_true, Bool.not_false, wpSL, wpS, wpE, wpL, wpA, wpJ, wpC, wpO, wpI, setD, setAll, bindT, wipeE, List.set_cons_zero, List.set_cons_succ, List.getElem?_cons_zero, List.getElem?_cons_succ, e_fz, e_ow, e_st, e_int, e_int2, e_list, e_seqs1, e_seqs2, e_seq1, e_seq2, e_bool, e_kept0, e_kept1, e_add, e_cat, e_sub, e_mul, e_fdiv, e_mod, e_pow, e_eqI, e_eqS, e_neI, e_neS, e_lt, e_le, e_gt, e_ge, e_ixL, e_ixT, e_slL, e_slT, e_lenL, e_lenT, e_abs, e_intI, e_intB, e_str, e_max, e_min, e_repr, e_fI, e_fS, some_ex, if_tt, if_ff]
        refine ⟨by decide, line_lt (by rw [List.length_map]; omega), ⟨by decide, by decide⟩, ?_⟩
        have e : ys.map PyData.int ++ [PyData.int (r.fmod 1009)] = (ys ++ [r.fmod 1009]).map PyData.int := by rw [List.map_append]; rfl
        rw [e]
        split
        · simp only [b_law_stream_9, Bool.not_true, Bool.not_false, wpSL, wpS, wpE, wpL, wpA, wpJ, wpC, wpO, wpI, setD, setAll, bindT, wipeE, List.set_cons_zero, List.set_cons_succ, List.getElem?_cons_zero, List.getElem?_cons_succ, e_fz, e_ow, e_st, e_int, e_int2, e_list, e_seqs1, e_seqs2, e_seq1, e_seq2, e_bool, e_kept0, e_kept1, e_add, e_cat, e_sub, e_mul, e_fdiv, e_mod, e_pow, e_eqI, e_eqS, e_neI, e_neS, e_lt, e_le, e_gt, e_ge, e_ixL, e_ixT, e_slL, e_slT, e_lenL, e_lenT, e_abs, e_intI, e_intB, e_str, e_max, e_min, e_repr, e_fI, e_fS, some_ex, if_tt, if_ff]
          exact hn _ _ ⟨rfl, _, _, _, _, _, rfl, by rw [List.length_append, hy]; simp only [List.length_cons, List.length_nil]; omega⟩
        · exact hn2 _ _ ⟨rfl, _, _, _, rfl, by rw [List.length_append, hy]; rfl⟩
      · rintro ρ g2 ⟨rfl, ys, r, s4, rfl, hy⟩
        rw [rng_len] at hy
        exact hn _ _ ⟨rfl, _, _, _, _, _, rfl, by rw [hy]; simp only [Int.sub_zero]; omega⟩
    · simp only [b_law_stream_11, b_law_stream_12, Bool.not_true, Bool.not_false, wpSL, wpS, wpE, wpL, wpA, wpJ, wpC, wpO, wpI, setD, setAll, bindT, wipeE, List.set_cons_zero, List.set_cons_succ, List.getElem?_cons_zero, List.getElem?_cons_succ, e_fz, e_ow, e_st, e_int, e_int2, e_list, e_seqs1, e_seqs2, e_seq1, e_seq2, e_bool, e_kept0, e_kept1, e_add, e_cat, e_sub, e_mul, e_fdiv, e_mod, e_pow, e_eqI, e_eqS, e_neI, e_neS, e_lt, e_le, e_gt, e_ge, e_ixL, e_ixT, e_slL, e_slT, e_lenL, e_lenT, e_abs, e_intI, e_intB, e_str, e_max, e_min, e_repr, e_fI, e_fS, some_ex, if_tt, if_ff]
      refine ⟨by decide, by decide, for_inv (fun j ρ g2 => g2 = g' ∧ ∃ (ys : List Int) (r : Int) (s3 s4 : SV), ρ = [.fz (.list (ns.map PyData.int)), .ow (.list (ys.map PyData.int)), .fz (.int z), s3, s4, .fz (.int r)] ∧ ys.length = xs.length + j) ⟨rfl, xs, _, _, _, rfl, rfl⟩ ?_ ?_⟩
      · rintro j d ρ g2 nx2 hd ⟨rfl, ys, r, s3, s4, rfl, hy⟩ hn2
        obtain ⟨rfl, hj⟩ := rng_at hd
        refine ⟨_, rfl, ?_⟩
        simp only [b_law_stream_13, b_law_stream_14, Bool.not_true, Bool.not_false, wpSL, wpS, wpE, wpL, wpA, wpJ, wpC, wpO, wpI, setD, setAll, bindT, wipeE, List.set_cons_zero, List.set_cons_succ, List.getElem?_cons_zero, List.getElem?_cons_succ, e_fz, e_ow, e_st, e_int, e_int2, e_list, e_seqs1, e_seqs2, e_seq1, e_seq2, e_bool, e_kept0, e_kept1, e_add, e_cat, e_sub, e_mul, e_fdiv, e_mod, e_pow, e_eqI, e_eqS, e_neI, e_neS, e_lt, e_le, e_gt, e_ge, e_ixL, e_ixT, e_slL, e_slT, e_lenL, e_lenT, e_abs, e_intI, e_intB, e_str, e_max, e_min, e_repr, e_fI, e_fS, some_ex, if_tt, if_ff]
        refine ⟨.inr (.inl ⟨by decide, by decide⟩), .inl ⟨by decide, by decide⟩, by decide, .inr (.inl ⟨by decide, by decide⟩), by decide, by decide, line_lt (by rw [List.length_map]; omega), ?_⟩
        have e : ∀ v : Int, ys.map PyData.int ++ [PyData.int v] = (ys ++ [v]).map PyData.int := fun v => by rw [List.map_append]; rfl
        rw [e]
        exact hn2 _ _ ⟨rfl, _, _, _, _, rfl, by rw [List.length_append, hy]; rfl⟩
      · rintro ρ g2 ⟨rfl, ys, r, s3, s4, rfl, hy⟩
        rw [rng_len] at hy
        exact hn _ _ ⟨rfl, _, _, _, _, _, rfl, by rw [hy]; simp only [Int.sub_zero]; omega⟩
  · rintro ρ g' ⟨rfl, xs, s2, s3, s4, s5, rfl, hx⟩
    rw [List.length_map] at hx
    simp only [b_law_stream_15, Bool.not_true, Bool.not_false, wpSL, wpS, wpE, wpL, wpA, wpJ, wpC, wpO, wpI, setD, setAll, bindT, wipeE, List.set_cons_zero, List.set_cons_succ, List.getElem?_cons_zero, List.getElem?_cons_succ, e_fz, e_ow, e_st, e_int, e_int2, e_list, e_seqs1, e_seqs2, e_seq1, e_seq2, e_bool, e_kept0, e_kept1, e_add, e_cat, e_sub, e_mul, e_fdiv, e_mod, e_pow, e_eqI, e_eqS, e_neI, e_neS, e_lt, e_le, e_gt, e_ge, e_ixL, e_ixT, e_slL, e_slT, e_lenL, e_lenT, e_abs, e_intI, e_intB, e_str, e_max, e_min, e_repr, e_fI, e_fS, some_ex, if_tt, if_ff]
    cases xs with
    | nil =>
      simp only [List.map_nil, List.length_nil]
      rw [if_pos (by decide)]
      simp only [b_law_stream_16, b_law_stream_17, Bool.not_true, Bool.not_false, wpSL, wpS, wpE, wpL, wpA, wpJ, wpC, wpO, wpI, setD, setAll, bindT, wipeE, List.set_cons_zero, List.set_cons_succ, List.getElem?_cons_zero, List.getElem?_cons_succ, e_fz, e_ow, e_st, e_int, e_int2, e_list, e_seqs1, e_seqs2, e_seq1, e_seq2, e_bool, e_kept0, e_kept1, e_add, e_cat, e_sub, e_mul, e_fdiv, e_mod, e_pow, e_eqI, e_eqS, e_neI, e_neS, e_lt, e_le, e_gt, e_ge, e_ixL, e_ixT, e_slL, e_slT, e_lenL, e_lenT, e_abs, e_intI, e_intB, e_str, e_max, e_min, e_repr, e_fI, e_fS, some_ex, if_tt, if_ff]
      exact ⟨line_lt (by simp), h 0 [] (by simp)⟩
    | cons x xs =>
      rw [if_neg (by simp; omega)]
      simp only [b_law_stream_17, Bool.not_true, Bool.not_false, wpSL, wpS, wpE, wpL, wpA, wpJ, wpC, wpO, wpI, setD, setAll, bindT, wipeE, List.set_cons_zero, List.set_cons_succ, List.getElem?_cons_zero, List.getElem?_cons_succ, e_fz, e_ow, e_st, e_int, e_int2, e_list, e_seqs1, e_seqs2, e_seq1, e_seq2, e_bool, e_kept0, e_kept1, e_add, e_cat, e_sub, e_mul, e_fdiv, e_mod, e_pow, e_eqI, e_eqS, e_neI, e_neS, e_lt, e_le, e_gt, e_ge, e_ixL, e_ixT, e_slL, e_slT, e_lenL, e_lenT, e_abs, e_intI, e_intB, e_str, e_max, e_min, e_repr, e_fI, e_fS, some_ex, if_tt, if_ff]
      exact h x xs (by rw [List.length_cons] at hx; omega)
end Dz
set_option Elab.async false
set_option linter.all false
set_option maxRecDepth 100000
/-! k01: the law's turns. -/
namespace Dz
open PySem
variable {g : Nat}
def Any (ρ : Ev) : Prop := ∃ s0 s2 s3 s4 s5 s6 s7 s8 s9 s10 s11 s12 s13 s14 : SV, ρ = [s0, .st, s2, s3, s4, s5, s6, s7, s8, s9, s10, s11, s12, s13, s14]
theorem sh_pd {k dp : Nat} {p : Int × Int} (h : Rk k p) (hk : k < 1920) : Sh (dp + 1) 4000 (pd p) :=
  (sh_tup (.cons (sh_int (num_len h.w1 hk).1) (.cons (sh_int (num_len h.w2 hk).1) .nil))).mono (Nat.le_refl _) (by decide)
theorem small {m : Nat} (h : m ≤ 100000) : m ≤ sizeLine := Nat.le_of_lt (line_lt h)
section
variable {k : Kt} {s0 s2 s3 s4 s5 s6 s7 s8 s9 s10 s11 s12 s13 s14 : SV}
/-- the text -/
theorem t_text {p : Int × Int} (hp : Rk 28 p) (hn : ∀ ρ, Any ρ → k.nx ρ g) : wpSL (Phi tb 8) b_law_23 [s0, .st, s2, s3, s4, .fz (pd p), s6, s7, s8, s9, s10, s11, s12, s13, s14] g noX k := by
  obtain ⟨l1, l2⟩ := num_len hp.w1 (by decide)
  obtain ⟨l3, l4⟩ := num_len hp.w2 (by decide)
  have sl : (Str.ofString "/").length = 1 := by rfl
  have fin : wpSL (Phi tb 8) b_law_26 [s0, .st, s2, s3, s4, .fz (pd p), s6, s7, s8, s9, s10, s11, s12, .fz (.str (txt p)), s14] g noX k := by
    simp only [b_law_26, Bool.not_true, Bool.not_false, wpSL, wpS, wpE, wpL, wpA, wpJ, wpC, wpO, wpI, setD, setAll, bindT, wipeE, List.set_cons_zero, List.set_cons_succ, List.getElem?_cons_zero, List.getElem?_cons_succ, e_fz, e_ow, e_st, e_int, e_int2, e_list, e_seqs1, e_seqs2, e_seq1, e_seq2, e_bool, e_kept0, e_kept1, e_add, e_cat, e_sub, e_mul, e_fdiv, e_mod, e_pow, e_eqI, e_eqS, e_neI, e_neS, e_lt, e_le, e_gt, e_ge, e_ixL, e_ixT, e_slL, e_slT, e_lenL, e_lenT, e_abs, e_intI, e_intB, e_str, e_max, e_min, e_repr, e_fI, e_fS, some_ex, if_tt, if_ff]
    refine s_ratio_text hp (by decide) ?_
    refine s_law_same (txt_shw hp (by decide)) ?_
    simp only [Bool.not_true, Bool.not_false, wpSL, wpS, wpE, wpL, wpA, wpJ, wpC, wpO, wpI, setD, setAll, bindT, wipeE, List.set_cons_zero, List.set_cons_succ, List.getElem?_cons_zero, List.getElem?_cons_succ, e_fz, e_ow, e_st, e_int, e_int2, e_list, e_seqs1, e_seqs2, e_seq1, e_seq2, e_bool, e_kept0, e_kept1, e_add, e_cat, e_sub, e_mul, e_fdiv, e_mod, e_pow, e_eqI, e_eqS, e_neI, e_neS, e_lt, e_le, e_gt, e_ge, e_ixL, e_ixT, e_slL, e_slT, e_lenL, e_lenT, e_abs, e_intI, e_intB, e_str, e_max, e_min, e_repr, e_fI, e_fS, some_ex, if_tt, if_ff]
    exact hn _ ⟨_, _, _, _, _, _, _, _, _, _, _, _, _, _, rfl⟩
  have e : pd p = .tuple [.int p.1, .int p.2] := rfl
  simp only [b_law_23, e, at2_0, at2_1, Bool.not_true, Bool.not_false, wpSL, wpS, wpE, wpL, wpA, wpJ, wpC, wpO, wpI, setD, setAll, bindT, wipeE, List.set_cons_zero, List.set_cons_succ, List.getElem?_cons_zero, List.getElem?_cons_succ, e_fz, e_ow, e_st, e_int, e_int2, e_list, e_seqs1, e_seqs2, e_seq1, e_seq2, e_bool, e_kept0, e_kept1, e_add, e_cat, e_sub, e_mul, e_fdiv, e_mod, e_pow, e_eqI, e_eqS, e_neI, e_neS, e_lt, e_le, e_gt, e_ge, e_ixL, e_ixT, e_slL, e_slT, e_lenL, e_lenT, e_abs, e_intI, e_intB, e_str, e_max, e_min, e_repr, e_fI, e_fS, some_ex, if_tt, if_ff]
  refine ⟨l1, ?_⟩
  simp only [b_law_24, at2_0, at2_1, Bool.not_true, Bool.not_false, wpSL, wpS, wpE, wpL, wpA, wpJ, wpC, wpO, wpI, setD, setAll, bindT, wipeE, List.set_cons_zero, List.set_cons_succ, List.getElem?_cons_zero, List.getElem?_cons_succ, e_fz, e_ow, e_st, e_int, e_int2, e_list, e_seqs1, e_seqs2, e_seq1, e_seq2, e_bool, e_kept0, e_kept1, e_add, e_cat, e_sub, e_mul, e_fdiv, e_mod, e_pow, e_eqI, e_eqS, e_neI, e_neS, e_lt, e_le, e_gt, e_ge, e_ixL, e_ixT, e_slL, e_slT, e_lenL, e_lenT, e_abs, e_intI, e_intB, e_str, e_max, e_min, e_repr, e_fI, e_fS, some_ex, if_tt, if_ff]
  unfold txt at fin
  by_cases c : p.2 = 1
  · rw [decide_eq_true c]
    simp only [Bool.not_true, Bool.not_false, wpSL, wpS, wpE, wpL, wpA, wpJ, wpC, wpO, wpI, setD, setAll, bindT, wipeE, List.set_cons_zero, List.set_cons_succ, List.getElem?_cons_zero, List.getElem?_cons_succ, e_fz, e_ow, e_st, e_int, e_int2, e_list, e_seqs1, e_seqs2, e_seq1, e_seq2, e_bool, e_kept0, e_kept1, e_add, e_cat, e_sub, e_mul, e_fdiv, e_mod, e_pow, e_eqI, e_eqS, e_neI, e_neS, e_lt, e_le, e_gt, e_ge, e_ixL, e_ixT, e_slL, e_slT, e_lenL, e_lenT, e_abs, e_intI, e_intB, e_str, e_max, e_min, e_repr, e_fI, e_fS, some_ex, if_tt, if_ff]
    rw [if_pos c] at fin
    exact fin
  · rw [decide_eq_false c]
    rw [if_neg c] at fin
    simp only [b_law_25, at2_0, at2_1, Bool.not_true, Bool.not_false, wpSL, wpS, wpE, wpL, wpA, wpJ, wpC, wpO, wpI, setD, setAll, bindT, wipeE, List.set_cons_zero, List.set_cons_succ, List.getElem?_cons_zero, List.getElem?_cons_succ, e_fz, e_ow, e_st, e_int, e_int2, e_list, e_seqs1, e_seqs2, e_seq1, e_seq2, e_bool, e_kept0, e_kept1, e_add, e_cat, e_sub, e_mul, e_fdiv, e_mod, e_pow, e_eqI, e_eqS, e_neI, e_neS, e_lt, e_le, e_gt, e_ge, e_ixL, e_ixT, e_slL, e_slT, e_lenL, e_lenT, e_abs, e_intI, e_intB, e_str, e_max, e_min, e_repr, e_fI, e_fS, some_ex, if_tt, if_ff]
    refine ⟨?_, l3, ?_, fin⟩
    · rw [sizeLine_eq, sl]; omega
    · rw [sizeLine_eq, strLen_append, sl]; omega
theorem bst_self (p : Int × Int) : bst p p = p := by unfold bst; split <;> rfl
/-- the rows: the greatest, the sums -/
theorem t_rows {p r : Int × Int} {rs more : List (Int × Int)} (hp : Rk 28 p) (hr : ∀ q ∈ r :: rs, Rk 28 q) (hm : ∀ q ∈ more, Rk 28 q) (hl : (r :: rs).length ≤ 10) (hl2 : more.length = (r :: rs).length) (hn : ∀ ρ, Any ρ → k.nx ρ g) :
    wpSL (Phi tb 8) b_law_16 [s0, .st, s2, s3, s4, .fz (pd p), s6, .fz (rowsD (r :: rs)), .fz (rowsD more), s9, s10, s11, s12, s13, s14] g noX k := by
  have e : ∀ ps, rowsD ps = .list (ps.map pd) := fun _ => rfl
  have epd : ∀ q : Int × Int, .tuple [.int q.1, .int q.2] = pd q := fun _ => rfl
  have hml : (mulsP (r :: rs) more).length = (r :: rs).length := by
    unfold mulsP; rw [List.length_zipWith]; omega
  simp only [b_law_16, e, Bool.not_true, Bool.not_false, wpSL, wpS, wpE, wpL, wpA, wpJ, wpC, wpO, wpI, setD, setAll, bindT, wipeE, List.set_cons_zero, List.set_cons_succ, List.getElem?_cons_zero, List.getElem?_cons_succ, e_fz, e_ow, e_st, e_int, e_int2, e_list, e_seqs1, e_seqs2, e_seq1, e_seq2, e_bool, e_kept0, e_kept1, e_add, e_cat, e_sub, e_mul, e_fdiv, e_mod, e_pow, e_eqI, e_eqS, e_neI, e_neS, e_lt, e_le, e_gt, e_ge, e_ixL, e_ixT, e_slL, e_slT, e_lenL, e_lenT, e_abs, e_intI, e_intB, e_str, e_max, e_min, e_repr, e_fI, e_fS, some_ex, if_tt, if_ff]
  refine ⟨pd r, at_of (i := 0) rfl, ?_⟩
  simp only [b_law_17, b_law_18, Bool.not_true, Bool.not_false, wpSL, wpS, wpE, wpL, wpA, wpJ, wpC, wpO, wpI, setD, setAll, bindT, wipeE, List.set_cons_zero, List.set_cons_succ, List.getElem?_cons_zero, List.getElem?_cons_succ, e_fz, e_ow, e_st, e_int, e_int2, e_list, e_seqs1, e_seqs2, e_seq1, e_seq2, e_bool, e_kept0, e_kept1, e_add, e_cat, e_sub, e_mul, e_fdiv, e_mod, e_pow, e_eqI, e_eqS, e_neI, e_neS, e_lt, e_le, e_gt, e_ge, e_ixL, e_ixT, e_slL, e_slT, e_lenL, e_lenT, e_abs, e_intI, e_intB, e_str, e_max, e_min, e_repr, e_fI, e_fS, some_ex, if_tt, if_ff]
  refine ⟨two_size, by rw [List.length_map]; omega, ?_⟩
  refine for_inv (fun i ρ g' => g' = g ∧ ∃ s12, ρ = [s0, .st, s2, s3, s4, .fz (pd p), s6, .fz (.list ((r :: rs).map pd)), .fz (.list (more.map pd)), s9, .fz (pd (((r :: rs).take i).foldl bst r)), .fz (pd (sumP ((mulsP (r :: rs) more).take i))), s12, s13, s14]) ⟨rfl, _, rfl⟩ ?_ ?_
  · rintro i d ρ g' nx hd ⟨rfl, s12, rfl⟩ hn
    obtain ⟨rfl, hi⟩ := rng_at hd
    rw [List.length_map] at hi
    have hi' : i < (r :: rs).length := by omega
    obtain ⟨q, hq⟩ : ∃ q, (r :: rs)[i]? = some q := ⟨_, List.getElem?_eq_getElem hi'⟩
    obtain ⟨m, hm'⟩ : ∃ m, more[i]? = some m := ⟨_, List.getElem?_eq_getElem (by omega)⟩
    have aq : at_ ((r :: rs).map pd) (i : Int) = some (pd q) := at_of (by rw [List.getElem?_map, hq]; rfl)
    have am : at_ (more.map pd) (i : Int) = some (pd m) := at_of (by rw [List.getElem?_map, hm']; rfl)
    have hb := bst_fold (ps := (r :: rs).take i) (hr r (by simp)) fun x hx => hr x (List.mem_of_mem_take hx)
    have rq := all_at hr hq
    have rm := all_at hm hm'
    have hs := sumP_ok (ps := (mulsP (r :: rs) more).take i) (l := 10) (fun x hx => mulsP_ok hr hm x (List.mem_of_mem_take hx)) (by rw [List.length_take]; omega)
    refine ⟨_, rfl, ?_⟩
    simp only [b_law_19, aq, Int.zero_add, Bool.not_true, Bool.not_false, wpSL, wpS, wpE, wpL, wpA, wpJ, wpC, wpO, wpI, setD, setAll, bindT, wipeE, List.set_cons_zero, List.set_cons_succ, List.getElem?_cons_zero, List.getElem?_cons_succ, e_fz, e_ow, e_st, e_int, e_int2, e_list, e_seqs1, e_seqs2, e_seq1, e_seq2, e_bool, e_kept0, e_kept1, e_add, e_cat, e_sub, e_mul, e_fdiv, e_mod, e_pow, e_eqI, e_eqS, e_neI, e_neS, e_lt, e_le, e_gt, e_ge, e_ixL, e_ixT, e_slL, e_slT, e_lenL, e_lenT, e_abs, e_intI, e_intB, e_str, e_max, e_min, e_repr, e_fI, e_fS, some_ex, if_tt, if_ff]
    refine ⟨two_size, s_law_less hb rq (by decide) ?_⟩
    simp only [Bool.not_true, Bool.not_false, wpSL, wpS, wpE, wpL, wpA, wpJ, wpC, wpO, wpI, setD, setAll, bindT, wipeE, List.set_cons_zero, List.set_cons_succ, List.getElem?_cons_zero, List.getElem?_cons_succ, e_fz, e_ow, e_st, e_int, e_int2, e_list, e_seqs1, e_seqs2, e_seq1, e_seq2, e_bool, e_kept0, e_kept1, e_add, e_cat, e_sub, e_mul, e_fdiv, e_mod, e_pow, e_eqI, e_eqS, e_neI, e_neS, e_lt, e_le, e_gt, e_ge, e_ixL, e_ixT, e_slL, e_slT, e_lenL, e_lenT, e_abs, e_intI, e_intB, e_str, e_max, e_min, e_repr, e_fI, e_fS, some_ex, if_tt, if_ff]
    have go : ∃ d, at_ [pd (((r :: rs).take i).foldl bst r), pd q] (if lesP (((r :: rs).take i).foldl bst r) q = true then 1 else 0) = some d ∧ d = pd (((r :: rs).take (i + 1)).foldl bst r) := by
      rw [fold_more (f := bst) (b := r) hq]
      unfold bst
      split
      · exact ⟨_, rfl, rfl⟩
      · exact ⟨_, rfl, rfl⟩
    obtain ⟨d, e1, rfl⟩ := go
    refine ⟨_, e1, ?_⟩
    simp only [b_law_20, aq, am, Int.zero_add, Bool.not_true, Bool.not_false, wpSL, wpS, wpE, wpL, wpA, wpJ, wpC, wpO, wpI, setD, setAll, bindT, wipeE, List.set_cons_zero, List.set_cons_succ, List.getElem?_cons_zero, List.getElem?_cons_succ, e_fz, e_ow, e_st, e_int, e_int2, e_list, e_seqs1, e_seqs2, e_seq1, e_seq2, e_bool, e_kept0, e_kept1, e_add, e_cat, e_sub, e_mul, e_fdiv, e_mod, e_pow, e_eqI, e_eqS, e_neI, e_neS, e_lt, e_le, e_gt, e_ge, e_ixL, e_ixT, e_slL, e_slT, e_lenL, e_lenT, e_abs, e_intI, e_intB, e_str, e_max, e_min, e_repr, e_fI, e_fS, some_ex, if_tt, if_ff]
    have e2 : ∀ q : Int × Int, pd q = .tuple [.int q.1, .int q.2] := fun _ => rfl
    rw [e2 q, e2 m]
    simp only [at2_0, at2_1, Bool.not_true, Bool.not_false, wpSL, wpS, wpE, wpL, wpA, wpJ, wpC, wpO, wpI, setD, setAll, bindT, wipeE, List.set_cons_zero, List.set_cons_succ, List.getElem?_cons_zero, List.getElem?_cons_succ, e_fz, e_ow, e_st, e_int, e_int2, e_list, e_seqs1, e_seqs2, e_seq1, e_seq2, e_bool, e_kept0, e_kept1, e_add, e_cat, e_sub, e_mul, e_fdiv, e_mod, e_pow, e_eqI, e_eqS, e_neI, e_neS, e_lt, e_le, e_gt, e_ge, e_ixL, e_ixT, e_slL, e_slT, e_lenL, e_lenT, e_abs, e_intI, e_intB, e_str, e_max, e_min, e_repr, e_fI, e_fS, some_ex, if_tt, if_ff]
    refine ⟨rq.w1.mulOk rm.w1 (by decide), rq.w2.mulOk rm.w2 (by decide), s_law_ratio (mul_ne rq.pos rm.pos) (rq.w2.mul rm.w2) (by decide) ?_⟩
    refine s_law_plus hs (mulP_ok rq rm) (by decide) ?_
    exact hn _ _ ⟨rfl, _, by rw [sumP, sumP, fold_more (mulsP_at hq hm')]; rfl⟩
  · rintro ρ g' ⟨rfl, s12, rfl⟩
    rw [rng_len, List.length_map, Int.sub_zero, Int.toNat_natCast, List.take_length, ← hml, List.take_length]
    have hb := bst_fold (ps := rs) (hr r (by simp)) fun x hx => hr x (List.mem_cons_of_mem _ hx)
    have eb : (r :: rs).foldl bst r = rs.foldl bst r := by
      show rs.foldl bst (bst r r) = _
      rw [bst_self]
    rw [eb]
    have s1 := sumP_ok (ps := r :: rs) (l := 10) hr hl
    have s2' := sumP_ok (ps := mulsP (r :: rs) more) (l := 10) (mulsP_ok hr hm) (by omega)
    simp only [b_law_21, Bool.not_true, Bool.not_false, wpSL, wpS, wpE, wpL, wpA, wpJ, wpC, wpO, wpI, setD, setAll, bindT, wipeE, List.set_cons_zero, List.set_cons_succ, List.getElem?_cons_zero, List.getElem?_cons_succ, e_fz, e_ow, e_st, e_int, e_int2, e_list, e_seqs1, e_seqs2, e_seq1, e_seq2, e_bool, e_kept0, e_kept1, e_add, e_cat, e_sub, e_mul, e_fdiv, e_mod, e_pow, e_eqI, e_eqS, e_neI, e_neS, e_lt, e_le, e_gt, e_ge, e_ixL, e_ixT, e_slL, e_slT, e_lenL, e_lenT, e_abs, e_intI, e_intB, e_str, e_max, e_min, e_repr, e_fI, e_fS, some_ex, if_tt, if_ff]
    refine s_greatest (p := r) (ps := rs) (by decide) (hr r (by simp)) (fun x hx => hr x (List.mem_cons_of_mem _ hx)) ?_
    refine s_summed (ps := r :: rs) (by decide) hr hl ?_
    refine s_weighed (ps := r :: rs) (qs := more) (by decide) hr hm hl hl2 ?_
    refine ⟨small (by simp), ?_⟩
    refine s_law_sum (ps := r :: rs) (by decide) hr hl ?_
    refine ⟨small (by simp), ?_⟩
    refine s_law_same ((sh_list (.cons (sh_pd hb (by decide)) (.cons (sh_pd s1 (by decide)) (.cons (sh_pd s2' (by decide)) .nil)))).mono (by decide : 1 + 1 ≤ 40) (by decide)) ?_
    simp only [Bool.not_true, Bool.not_false, wpSL, wpS, wpE, wpL, wpA, wpJ, wpC, wpO, wpI, setD, setAll, bindT, wipeE, List.set_cons_zero, List.set_cons_succ, List.getElem?_cons_zero, List.getElem?_cons_succ, e_fz, e_ow, e_st, e_int, e_int2, e_list, e_seqs1, e_seqs2, e_seq1, e_seq2, e_bool, e_kept0, e_kept1, e_add, e_cat, e_sub, e_mul, e_fdiv, e_mod, e_pow, e_eqI, e_eqS, e_neI, e_neS, e_lt, e_le, e_gt, e_ge, e_ixL, e_ixT, e_slL, e_slT, e_lenL, e_lenT, e_abs, e_intI, e_intB, e_str, e_max, e_min, e_repr, e_fI, e_fS, some_ex, if_tt, if_ff]
    exact t_text hp hn
end
end Dz
set_option Elab.async false
set_option linter.all false
set_option maxRecDepth 100000
/-! k01: the law's turns, the law. -/
namespace Dz
open PySem
variable {g : Nat}
section
variable {k : Kt} {s0 s2 s3 s4 s5 s6 s7 s8 s9 s10 s11 s12 s13 s14 : SV}
theorem t_checks {a b : Int} {p q r : Int × Int} {rs more : List (Int × Int)} (hb : b ≠ 0) (ha' : W 28 a) (hb' : W 28 b) (hp : Rk 28 p) (hq : Rk 28 q) (hr : ∀ q ∈ r :: rs, Rk 28 q) (hm : ∀ q ∈ more, Rk 28 q) (hl : (r :: rs).length ≤ 10) (hl2 : more.length = (r :: rs).length)
    (hn : ∀ ρ, Any ρ → k.nx ρ g) : wpSL (Phi tb 8) b_law_9 [s0, .st, s2, .fz (.int a), .fz (.int b), .fz (pd p), .fz (pd q), .fz (rowsD (r :: rs)), .fz (rowsD more), s9, s10, s11, s12, s13, s14] g noX k := by
  have e2 : ∀ q : Int × Int, pd q = .tuple [.int q.1, .int q.2] := fun _ => rfl
  have at' : ∀ {i : Int} {d : D} {P : D → Prop}, at_ [PyData.int i, d] 0 = some (.int i) := fun {_ _ _} => rfl
  simp only [b_law_9, Bool.not_true, Bool.not_false, wpSL, wpS, wpE, wpL, wpA, wpJ, wpC, wpO, wpI, setD, setAll, bindT, wipeE, List.set_cons_zero, List.set_cons_succ, List.getElem?_cons_zero, List.getElem?_cons_succ, e_fz, e_ow, e_st, e_int, e_int2, e_list, e_seqs1, e_seqs2, e_seq1, e_seq2, e_bool, e_kept0, e_kept1, e_add, e_cat, e_sub, e_mul, e_fdiv, e_mod, e_pow, e_eqI, e_eqS, e_neI, e_neS, e_lt, e_le, e_gt, e_ge, e_ixL, e_ixT, e_slL, e_slT, e_lenL, e_lenT, e_abs, e_intI, e_intB, e_str, e_max, e_min, e_repr, e_fI, e_fS, some_ex, if_tt, if_ff]
  refine s_ratio hb hb' (by decide) ?_
  refine s_is_ratio (a := p.1) (b := p.2) ?_
  rw [e2 p]
  simp only [at2_0, at2_1, Bool.not_true, Bool.not_false, wpSL, wpS, wpE, wpL, wpA, wpJ, wpC, wpO, wpI, setD, setAll, bindT, wipeE, List.set_cons_zero, List.set_cons_succ, List.getElem?_cons_zero, List.getElem?_cons_succ, e_fz, e_ow, e_st, e_int, e_int2, e_list, e_seqs1, e_seqs2, e_seq1, e_seq2, e_bool, e_kept0, e_kept1, e_add, e_cat, e_sub, e_mul, e_fdiv, e_mod, e_pow, e_eqI, e_eqS, e_neI, e_neS, e_lt, e_le, e_gt, e_ge, e_ixL, e_ixT, e_slL, e_slT, e_lenL, e_lenT, e_abs, e_intI, e_intB, e_str, e_max, e_min, e_repr, e_fI, e_fS, some_ex, if_tt, if_ff]
  refine ⟨.inl ⟨by decide, by decide⟩, .inl ⟨by decide, by decide⟩, two_size, s_is_ratio (a := 2 * p.1) (b := 2 * p.2) ?_⟩
  refine ⟨two_size, s_is_ratio (a := 1) (b := 0) ?_⟩
  refine ⟨two_size, s_is_ratio (a := 3) (b := -1) ?_⟩
  refine ⟨small (by simp), s_law_ratio hb hb' (by decide) ?_⟩
  refine ⟨small (by simp), ?_⟩
  rw [decide_eq_true (show 1 ≤ p.2 ∧ Int.gcd p.1 p.2 = 1 from ⟨hp.pos, hp.one⟩), decide_eq_false (show ¬(1 ≤ 2 * p.2 ∧ Int.gcd (2 * p.1) (2 * p.2) = 1) from fun h => by
    have := h.2
    rw [Int.gcd_mul_left, hp.one] at this
    cases this), decide_eq_false (show ¬((1 : Int) ≤ 0 ∧ Int.gcd 1 0 = 1) from fun h => absurd h.1 (by decide)), decide_eq_false (show ¬((1 : Int) ≤ -1 ∧ Int.gcd 3 (-1) = 1) from fun h => absurd h.1 (by decide))]
  refine s_law_same ((sh_list (.cons (sh_pd (rat_ok hb ha' hb') (by decide)) (.cons sh_bool (.cons sh_bool (.cons sh_bool (.cons sh_bool .nil)))))).mono (by decide : 1 + 1 ≤ 40) (by decide)) ?_
  simp only [Bool.not_true, Bool.not_false, wpSL, wpS, wpE, wpL, wpA, wpJ, wpC, wpO, wpI, setD, setAll, bindT, wipeE, List.set_cons_zero, List.set_cons_succ, List.getElem?_cons_zero, List.getElem?_cons_succ, e_fz, e_ow, e_st, e_int, e_int2, e_list, e_seqs1, e_seqs2, e_seq1, e_seq2, e_bool, e_kept0, e_kept1, e_add, e_cat, e_sub, e_mul, e_fdiv, e_mod, e_pow, e_eqI, e_eqS, e_neI, e_neS, e_lt, e_le, e_gt, e_ge, e_ixL, e_ixT, e_slL, e_slT, e_lenL, e_lenT, e_abs, e_intI, e_intB, e_str, e_max, e_min, e_repr, e_fI, e_fS, some_ex, if_tt, if_ff]
  -- the sums
  rw [← e2 p]
  simp only [b_law_11, Bool.not_true, Bool.not_false, wpSL, wpS, wpE, wpL, wpA, wpJ, wpC, wpO, wpI, setD, setAll, bindT, wipeE, List.set_cons_zero, List.set_cons_succ, List.getElem?_cons_zero, List.getElem?_cons_succ, e_fz, e_ow, e_st, e_int, e_int2, e_list, e_seqs1, e_seqs2, e_seq1, e_seq2, e_bool, e_kept0, e_kept1, e_add, e_cat, e_sub, e_mul, e_fdiv, e_mod, e_pow, e_eqI, e_eqS, e_neI, e_neS, e_lt, e_le, e_gt, e_ge, e_ixL, e_ixT, e_slL, e_slT, e_lenL, e_lenT, e_abs, e_intI, e_intB, e_str, e_max, e_min, e_repr, e_fI, e_fS, some_ex, if_tt, if_ff]
  refine s_law_plus hp hq (by decide) ?_
  rw [e2 p, e2 q]
  simp only [at2_0, at2_1, Bool.not_true, Bool.not_false, wpSL, wpS, wpE, wpL, wpA, wpJ, wpC, wpO, wpI, setD, setAll, bindT, wipeE, List.set_cons_zero, List.set_cons_succ, List.getElem?_cons_zero, List.getElem?_cons_succ, e_fz, e_ow, e_st, e_int, e_int2, e_list, e_seqs1, e_seqs2, e_seq1, e_seq2, e_bool, e_kept0, e_kept1, e_add, e_cat, e_sub, e_mul, e_fdiv, e_mod, e_pow, e_eqI, e_eqS, e_neI, e_neS, e_lt, e_le, e_gt, e_ge, e_ixL, e_ixT, e_slL, e_slT, e_lenL, e_lenT, e_abs, e_intI, e_intB, e_str, e_max, e_min, e_repr, e_fI, e_fS, some_ex, if_tt, if_ff]
  refine ⟨two_size, hp.w1.mulOk hq.w1 (by decide), hp.w2.mulOk hq.w2 (by decide), s_law_ratio (mul_ne hp.pos hq.pos) (hp.w2.mul hq.w2) (by decide) ?_⟩
  rw [← e2 p, ← e2 q]
  refine s_law_less hp hq (by decide) ?_
  refine ⟨small (by simp), ?_⟩
  simp only [b_law_12, Bool.not_true, Bool.not_false, wpSL, wpS, wpE, wpL, wpA, wpJ, wpC, wpO, wpI, setD, setAll, bindT, wipeE, List.set_cons_zero, List.set_cons_succ, List.getElem?_cons_zero, List.getElem?_cons_succ, e_fz, e_ow, e_st, e_int, e_int2, e_list, e_seqs1, e_seqs2, e_seq1, e_seq2, e_bool, e_kept0, e_kept1, e_add, e_cat, e_sub, e_mul, e_fdiv, e_mod, e_pow, e_eqI, e_eqS, e_neI, e_neS, e_lt, e_le, e_gt, e_ge, e_ixL, e_ixT, e_slL, e_slT, e_lenL, e_lenT, e_abs, e_intI, e_intB, e_str, e_max, e_min, e_repr, e_fI, e_fS, some_ex, if_tt, if_ff, Int.zero_sub]
  refine s_added hp hq (by decide) ?_
  refine s_negative ?_
  refine s_times hp hq (by decide) ?_
  refine s_less hp hq (by decide) ?_
  refine ⟨small (by simp), ?_⟩
  have neg : Rk 28 (-p.1, p.2) := ⟨hp.pos, by show Int.gcd (-p.1) p.2 = 1; rw [Int.neg_gcd]; exact hp.one, by have := hp.w1; unfold W at *; rw [Int.natAbs_neg]; exact this, hp.w2⟩
  refine s_law_same ((sh_list (.cons (sh_pd (addP_ok hp hq) (by decide)) (.cons (sh_pd neg (by decide)) (.cons (sh_pd (mulP_ok hp hq) (by decide)) (.cons sh_bool .nil))))).mono (by decide : 1 + 1 ≤ 40) (by decide)) ?_
  simp only [Bool.not_true, Bool.not_false, wpSL, wpS, wpE, wpL, wpA, wpJ, wpC, wpO, wpI, setD, setAll, bindT, wipeE, List.set_cons_zero, List.set_cons_succ, List.getElem?_cons_zero, List.getElem?_cons_succ, e_fz, e_ow, e_st, e_int, e_int2, e_list, e_seqs1, e_seqs2, e_seq1, e_seq2, e_bool, e_kept0, e_kept1, e_add, e_cat, e_sub, e_mul, e_fdiv, e_mod, e_pow, e_eqI, e_eqS, e_neI, e_neS, e_lt, e_le, e_gt, e_ge, e_ixL, e_ixT, e_slL, e_slT, e_lenL, e_lenT, e_abs, e_intI, e_intB, e_str, e_max, e_min, e_repr, e_fI, e_fS, some_ex, if_tt, if_ff]
  -- the quotient
  simp only [b_law_14, Bool.not_true, Bool.not_false, wpSL, wpS, wpE, wpL, wpA, wpJ, wpC, wpO, wpI, setD, setAll, bindT, wipeE, List.set_cons_zero, List.set_cons_succ, List.getElem?_cons_zero, List.getElem?_cons_succ, e_fz, e_ow, e_st, e_int, e_int2, e_list, e_seqs1, e_seqs2, e_seq1, e_seq2, e_bool, e_kept0, e_kept1, e_add, e_cat, e_sub, e_mul, e_fdiv, e_mod, e_pow, e_eqI, e_eqS, e_neI, e_neS, e_lt, e_le, e_gt, e_ge, e_ixL, e_ixT, e_slL, e_slT, e_lenL, e_lenT, e_abs, e_intI, e_intB, e_str, e_max, e_min, e_repr, e_fI, e_fS, some_ex, if_tt, if_ff]
  rw [e2 q]
  simp only [at2_0, at2_1, Bool.not_true, Bool.not_false, wpSL, wpS, wpE, wpL, wpA, wpJ, wpC, wpO, wpI, setD, setAll, bindT, wipeE, List.set_cons_zero, List.set_cons_succ, List.getElem?_cons_zero, List.getElem?_cons_succ, e_fz, e_ow, e_st, e_int, e_int2, e_list, e_seqs1, e_seqs2, e_seq1, e_seq2, e_bool, e_kept0, e_kept1, e_add, e_cat, e_sub, e_mul, e_fdiv, e_mod, e_pow, e_eqI, e_eqS, e_neI, e_neS, e_lt, e_le, e_gt, e_ge, e_ixL, e_ixT, e_slL, e_slT, e_lenL, e_lenT, e_abs, e_intI, e_intB, e_str, e_max, e_min, e_repr, e_fI, e_fS, some_ex, if_tt, if_ff]
  rw [← e2 q]
  have fin : wpSL (Phi tb 8) b_law_16 [s0, .st, s2, .fz (.int a), .fz (.int b), .fz (pd p), .fz (pd q), .fz (rowsD (r :: rs)), .fz (rowsD more), .fz (.list [pd (addP p q), pd (-p.1, p.2), pd (mulP p q), .bool (lesP p q)]), s10, s11, s12, s13, s14] g noX k := t_rows hp hr hm hl hl2 hn
  by_cases c : q.1 = 0
  · rw [decide_eq_true c]
    simp only [Bool.not_true, Bool.not_false, wpSL, wpS, wpE, wpL, wpA, wpJ, wpC, wpO, wpI, setD, setAll, bindT, wipeE, List.set_cons_zero, List.set_cons_succ, List.getElem?_cons_zero, List.getElem?_cons_succ, e_fz, e_ow, e_st, e_int, e_int2, e_list, e_seqs1, e_seqs2, e_seq1, e_seq2, e_bool, e_kept0, e_kept1, e_add, e_cat, e_sub, e_mul, e_fdiv, e_mod, e_pow, e_eqI, e_eqS, e_neI, e_neS, e_lt, e_le, e_gt, e_ge, e_ixL, e_ixT, e_slL, e_slT, e_lenL, e_lenT, e_abs, e_intI, e_intB, e_str, e_max, e_min, e_repr, e_fI, e_fS, some_ex, if_tt, if_ff]
    exact fin
  · rw [decide_eq_false c]
    simp only [Bool.not_true, Bool.not_false, wpSL, wpS, wpE, wpL, wpA, wpJ, wpC, wpO, wpI, setD, setAll, bindT, wipeE, List.set_cons_zero, List.set_cons_succ, List.getElem?_cons_zero, List.getElem?_cons_succ, e_fz, e_ow, e_st, e_int, e_int2, e_list, e_seqs1, e_seqs2, e_seq1, e_seq2, e_bool, e_kept0, e_kept1, e_add, e_cat, e_sub, e_mul, e_fdiv, e_mod, e_pow, e_eqI, e_eqS, e_neI, e_neS, e_lt, e_le, e_gt, e_ge, e_ixL, e_ixT, e_slL, e_slT, e_lenL, e_lenT, e_abs, e_intI, e_intB, e_str, e_max, e_min, e_repr, e_fI, e_fS, some_ex, if_tt, if_ff]
    refine s_over hp hq (by decide) c ?_
    rw [e2 p]
    simp only [at2_0, at2_1, Bool.not_true, Bool.not_false, wpSL, wpS, wpE, wpL, wpA, wpJ, wpC, wpO, wpI, setD, setAll, bindT, wipeE, List.set_cons_zero, List.set_cons_succ, List.getElem?_cons_zero, List.getElem?_cons_succ, e_fz, e_ow, e_st, e_int, e_int2, e_list, e_seqs1, e_seqs2, e_seq1, e_seq2, e_bool, e_kept0, e_kept1, e_add, e_cat, e_sub, e_mul, e_fdiv, e_mod, e_pow, e_eqI, e_eqS, e_neI, e_neS, e_lt, e_le, e_gt, e_ge, e_ixL, e_ixT, e_slL, e_slT, e_lenL, e_lenT, e_abs, e_intI, e_intB, e_str, e_max, e_min, e_repr, e_fI, e_fS, some_ex, if_tt, if_ff]
    have nz : p.2 * q.1 ≠ 0 := Int.mul_ne_zero (Int.ne_of_gt hp.pos) c
    refine ⟨hp.w1.mulOk hq.w2 (by decide), hp.w2.mulOk hq.w1 (by decide), s_law_ratio nz (hp.w2.mul hq.w1) (by decide) ?_⟩
    refine s_law_same ((sh_pd (dp := 0) (rat_ok nz (hp.w1.mul hq.w2) (hp.w2.mul hq.w1)) (by decide)).mono (by decide) (by decide)) ?_
    simp only [Bool.not_true, Bool.not_false, wpSL, wpS, wpE, wpL, wpA, wpJ, wpC, wpO, wpI, setD, setAll, bindT, wipeE, List.set_cons_zero, List.set_cons_succ, List.getElem?_cons_zero, List.getElem?_cons_succ, e_fz, e_ow, e_st, e_int, e_int2, e_list, e_seqs1, e_seqs2, e_seq1, e_seq2, e_bool, e_kept0, e_kept1, e_add, e_cat, e_sub, e_mul, e_fdiv, e_mod, e_pow, e_eqI, e_eqS, e_neI, e_neS, e_lt, e_le, e_gt, e_ge, e_ixL, e_ixT, e_slL, e_slT, e_lenL, e_lenT, e_abs, e_intI, e_intB, e_str, e_max, e_min, e_repr, e_fI, e_fS, some_ex, if_tt, if_ff]
    rw [← e2 p]
    exact fin
/-- one turn -/
theorem t_turn (hg : 1000 ≤ g) (hn : ∀ ρ g', Any ρ → g ≤ g' + 100 → k.nx ρ g') : wpSL (Phi tb 8) b_law_3 [s0, .st, s2, s3, s4, s5, s6, s7, s8, s9, s10, s11, s12, s13, s14] g noX k := by
  simp only [b_law_3, Bool.not_true, Bool.not_false, wpSL, wpS, wpE, wpL, wpA, wpJ, wpC, wpO, wpI, setD, setAll, bindT, wipeE, List.set_cons_zero, List.set_cons_succ, List.getElem?_cons_zero, List.getElem?_cons_succ, e_fz, e_ow, e_st, e_int, e_int2, e_list, e_seqs1, e_seqs2, e_seq1, e_seq2, e_bool, e_kept0, e_kept1, e_add, e_cat, e_sub, e_mul, e_fdiv, e_mod, e_pow, e_eqI, e_eqS, e_neI, e_neS, e_lt, e_le, e_gt, e_ge, e_ixL, e_ixT, e_slL, e_slT, e_lenL, e_lenT, e_abs, e_intI, e_intB, e_str, e_max, e_min, e_repr, e_fI, e_fS, some_ex, if_tt, if_ff]
  refine ⟨by decide, by omega, fun x hx0 hx1 => ?_⟩
  simp only [b_law_4, Bool.not_true, Bool.not_false, wpSL, wpS, wpE, wpL, wpA, wpJ, wpC, wpO, wpI, setD, setAll, bindT, wipeE, List.set_cons_zero, List.set_cons_succ, List.getElem?_cons_zero, List.getElem?_cons_succ, e_fz, e_ow, e_st, e_int, e_int2, e_list, e_seqs1, e_seqs2, e_seq1, e_seq2, e_bool, e_kept0, e_kept1, e_add, e_cat, e_sub, e_mul, e_fdiv, e_mod, e_pow, e_eqI, e_eqS, e_neI, e_neS, e_lt, e_le, e_gt, e_ge, e_ixL, e_ixT, e_slL, e_slT, e_lenL, e_lenT, e_abs, e_intI, e_intB, e_str, e_max, e_min, e_repr, e_fI, e_fS, some_ex, if_tt, if_ff]
  refine ⟨by decide, by omega, fun y hy0 hy1 => ⟨by decide, by omega, fun z hz0 hz1 => ⟨two_size, by decide, by omega, fun v hv0 hv1 => ?_⟩⟩⟩
  have go : ∃ b : Int, at_ [PyData.int (1 + y), .int (0 - 1 - z)] v = some (.int b) ∧ b ≠ 0 ∧ W 28 b := by
    have : v = 0 ∨ v = 1 := by omega
    rcases this with rfl | rfl
    · exact ⟨_, rfl, by omega, by unfold W; omega⟩
    · exact ⟨_, rfl, by omega, by unfold W; omega⟩
  obtain ⟨b, e, hb, hw⟩ := go
  refine ⟨_, e, ?_⟩
  simp only [b_law_5, Bool.not_true, Bool.not_false, wpSL, wpS, wpE, wpL, wpA, wpJ, wpC, wpO, wpI, setD, setAll, bindT, wipeE, List.set_cons_zero, List.set_cons_succ, List.getElem?_cons_zero, List.getElem?_cons_succ, e_fz, e_ow, e_st, e_int, e_int2, e_list, e_seqs1, e_seqs2, e_seq1, e_seq2, e_bool, e_kept0, e_kept1, e_add, e_cat, e_sub, e_mul, e_fdiv, e_mod, e_pow, e_eqI, e_eqS, e_neI, e_neS, e_lt, e_le, e_gt, e_ge, e_ixL, e_ixT, e_slL, e_slT, e_lenL, e_lenT, e_abs, e_intI, e_intB, e_str, e_max, e_min, e_repr, e_fI, e_fS, some_ex, if_tt, if_ff]
  refine s_law_drawn (by omega) fun p hp => ?_
  simp only [b_law_6, Bool.not_true, Bool.not_false, wpSL, wpS, wpE, wpL, wpA, wpJ, wpC, wpO, wpI, setD, setAll, bindT, wipeE, List.set_cons_zero, List.set_cons_succ, List.getElem?_cons_zero, List.getElem?_cons_succ, e_fz, e_ow, e_st, e_int, e_int2, e_list, e_seqs1, e_seqs2, e_seq1, e_seq2, e_bool, e_kept0, e_kept1, e_add, e_cat, e_sub, e_mul, e_fdiv, e_mod, e_pow, e_eqI, e_eqS, e_neI, e_neS, e_lt, e_le, e_gt, e_ge, e_ixL, e_ixT, e_slL, e_slT, e_lenL, e_lenT, e_abs, e_intI, e_intB, e_str, e_max, e_min, e_repr, e_fI, e_fS, some_ex, if_tt, if_ff]
  refine s_law_drawn (by omega) fun q hq => ?_
  simp only [b_law_7, Bool.not_true, Bool.not_false, wpSL, wpS, wpE, wpL, wpA, wpJ, wpC, wpO, wpI, setD, setAll, bindT, wipeE, List.set_cons_zero, List.set_cons_succ, List.getElem?_cons_zero, List.getElem?_cons_succ, e_fz, e_ow, e_st, e_int, e_int2, e_list, e_seqs1, e_seqs2, e_seq1, e_seq2, e_bool, e_kept0, e_kept1, e_add, e_cat, e_sub, e_mul, e_fdiv, e_mod, e_pow, e_eqI, e_eqS, e_neI, e_neS, e_lt, e_le, e_gt, e_ge, e_ixL, e_ixT, e_slL, e_slT, e_lenL, e_lenT, e_abs, e_intI, e_intB, e_str, e_max, e_min, e_repr, e_fI, e_fS, some_ex, if_tt, if_ff]
  refine ⟨by decide, by omega, fun c hc0 hc1 => ⟨⟨by omega, by omega⟩, ?_⟩⟩
  have hlen : (rangeD 0 (1 + c)).length = (1 + c).toNat := by rw [rng_len, Int.sub_zero]
  refine comp_inv (fun i acc g' => g ≤ g' + (11 + 3 * i) ∧ ∃ ps : List (Int × Int), acc = ps.map pd ∧ ps.length = i ∧ (∀ q ∈ ps, Rk 28 q)) ⟨by omega, [], rfl, rfl, by simp⟩ ?_ ?_
  · rintro i d acc g' K hd ⟨hg', ps, rfl, hl, ha⟩ hn hs
    have hi := (List.getElem?_eq_some_iff.mp hd).1
    rw [hlen] at hi
    refine s_law_drawn (by omega) fun t ht => hs _ _ (line_lt (by rw [List.length_map]; omega)) ⟨by omega, ps ++ [t], by rw [List.map_append]; rfl, by rw [List.length_append, hl]; rfl, fun u hu => ?_⟩
    rcases List.mem_append.mp hu with h | h
    · exact ha u h
    · rw [List.mem_singleton.mp h]; exact ht
  · rintro acc g1 ⟨hg1, ps, rfl, hl, ha⟩
    rw [hlen] at hl hg1
    obtain ⟨r, rs, rfl⟩ : ∃ r rs, ps = r :: rs := by
      cases ps with
      | nil => simp at hl; omega
      | cons r rs => exact ⟨r, rs, rfl⟩
    simp only [b_law_8, Bool.not_true, Bool.not_false, wpSL, wpS, wpE, wpL, wpA, wpJ, wpC, wpO, wpI, setD, setAll, bindT, wipeE, List.set_cons_zero, List.set_cons_succ, List.getElem?_cons_zero, List.getElem?_cons_succ, e_fz, e_ow, e_st, e_int, e_int2, e_list, e_seqs1, e_seqs2, e_seq1, e_seq2, e_bool, e_kept0, e_kept1, e_add, e_cat, e_sub, e_mul, e_fdiv, e_mod, e_pow, e_eqI, e_eqS, e_neI, e_neS, e_lt, e_le, e_gt, e_ge, e_ixL, e_ixT, e_slL, e_slT, e_lenL, e_lenT, e_abs, e_intI, e_intB, e_str, e_max, e_min, e_repr, e_fI, e_fS, some_ex, if_tt, if_ff]
    refine comp_inv (fun i acc g' => g1 ≤ g' + 3 * i ∧ ∃ ps : List (Int × Int), acc = ps.map pd ∧ ps.length = i ∧ (∀ q ∈ ps, Rk 28 q)) ⟨by omega, [], rfl, rfl, by simp⟩ ?_ ?_
    · rintro i d acc g' K hd ⟨hg', ps, rfl, hl2, ha2⟩ hn hs
      have hi := (List.getElem?_eq_some_iff.mp hd).1
      rw [List.length_map] at hi
      refine s_law_drawn (by omega) fun t ht => hs _ _ (line_lt (by rw [List.length_map]; omega)) ⟨by omega, ps ++ [t], by rw [List.map_append]; rfl, by rw [List.length_append, hl2]; rfl, fun u hu => ?_⟩
      rcases List.mem_append.mp hu with h | h
      · exact ha2 u h
      · rw [List.mem_singleton.mp h]; exact ht
    · rintro acc g2 ⟨hg2, more, rfl, hl2, ha2⟩
      rw [List.length_map] at hl2 hg2
      exact t_checks hb (by unfold W; omega) hw hp hq ha ha2 (by omega) hl2 fun ρ hρ => hn ρ g2 hρ (by omega)
end
/-- the law's promise, in plain Lean -/
theorem law_pure : ∀ ns : List Int, ns.length ≤ 63 → wpSL (Phi tb 8) d_law.body (startE d_law [.fz (.list (ns.map PyData.int))]) 0 noX ⟨fun _ _ => False, fun r _ => r = .bool true, fun _ _ => False, fun _ _ => False⟩ := by
  intro ns hl
  show wpSL (Phi tb 8) b_law_1 [.fz (.list (ns.map PyData.int)), .un, .un, .un, .un, .un, .un, .un, .un, .un, .un, .un, .un, .un, .un] 0 noX _
  simp only [b_law_1, Bool.not_true, Bool.not_false, wpSL, wpS, wpE, wpL, wpA, wpJ, wpC, wpO, wpI, setD, setAll, bindT, wipeE, List.set_cons_zero, List.set_cons_succ, List.getElem?_cons_zero, List.getElem?_cons_succ, e_fz, e_ow, e_st, e_int, e_int2, e_list, e_seqs1, e_seqs2, e_seq1, e_seq2, e_bool, e_kept0, e_kept1, e_add, e_cat, e_sub, e_mul, e_fdiv, e_mod, e_pow, e_eqI, e_eqS, e_neI, e_neS, e_lt, e_le, e_gt, e_ge, e_ixL, e_ixT, e_slL, e_slT, e_lenL, e_lenT, e_abs, e_intI, e_intB, e_str, e_max, e_min, e_repr, e_fI, e_fS, some_ex, if_tt, if_ff]
  refine s_law_stream hl fun x xs hx => ⟨rfl, x, xs, rfl, by omega, ?_⟩
  simp only [b_law_2, Bool.not_true, Bool.not_false, wpSL, wpS, wpE, wpL, wpA, wpJ, wpC, wpO, wpI, setD, setAll, bindT, wipeE, List.set_cons_zero, List.set_cons_succ, List.getElem?_cons_zero, List.getElem?_cons_succ, e_fz, e_ow, e_st, e_int, e_int2, e_list, e_seqs1, e_seqs2, e_seq1, e_seq2, e_bool, e_kept0, e_kept1, e_add, e_cat, e_sub, e_mul, e_fdiv, e_mod, e_pow, e_eqI, e_eqS, e_neI, e_neS, e_lt, e_le, e_gt, e_ge, e_ixL, e_ixT, e_slL, e_slT, e_lenL, e_lenT, e_abs, e_intI, e_intB, e_str, e_max, e_min, e_repr, e_fI, e_fS, some_ex, if_tt, if_ff]
  refine ⟨by decide, for_inv (fun i ρ g' => 2 ^ 50 ≤ g' + 100 * i ∧ Any ρ) ⟨by decide, _, _, _, _, _, _, _, _, _, _, _, _, _, _, rfl⟩ ?_ ?_⟩
  · rintro i d ρ g' nx hd ⟨hg, s0, s2, s3, s4, s5, s6, s7, s8, s9, s10, s11, s12, s13, s14, rfl⟩ hn
    have hi := (List.getElem?_eq_some_iff.mp hd).1
    rw [rng_len] at hi
    have hi' : i < 12 := hi
    refine ⟨_, rfl, ?_⟩
    exact t_turn (by omega) fun ρ g2 hρ hg2 => hn ρ g2 ⟨by omega, hρ⟩
  · rintro ρ g' ⟨hg, hρ⟩
    simp only [b_law_28, Bool.not_true, Bool.not_false, wpSL, wpS, wpE, wpL, wpA, wpJ, wpC, wpO, wpI, setD, setAll, bindT, wipeE, List.set_cons_zero, List.set_cons_succ, List.getElem?_cons_zero, List.getElem?_cons_succ, e_fz, e_ow, e_st, e_int, e_int2, e_list, e_seqs1, e_seqs2, e_seq1, e_seq2, e_bool, e_kept0, e_kept1, e_add, e_cat, e_sub, e_mul, e_fdiv, e_mod, e_pow, e_eqI, e_eqS, e_neI, e_neS, e_lt, e_le, e_gt, e_ge, e_ixL, e_ixT, e_slL, e_slT, e_lenL, e_lenT, e_abs, e_intI, e_intB, e_str, e_max, e_min, e_repr, e_fI, e_fS, some_ex, if_tt, if_ff]
end Dz
set_option Elab.async false
set_option linter.all false
set_option maxRecDepth 100000
/-! the head: what the top has written, and the end -/
namespace Dz
open PySem PySem.Spec PyProof PyProof.Rows L2
theorem bi_law_stream {K : PySem.W.Frag} (f : Addr) (fd : FuncData) (F : L2.Fun K d_law_stream.name d_law_stream.name t_law_stream f fd) : Binds K fd d_law_stream.ps [] := F.binds (ps := d_law_stream.ps) fun _ _ _ _ _ _ us hl => match us, hl with | [_], _ => rfl
theorem bi_law_divisor {K : PySem.W.Frag} (f : Addr) (fd : FuncData) (F : L2.Fun K d_law_divisor.name d_law_divisor.name t_law_divisor f fd) : Binds K fd d_law_divisor.ps [] := F.binds (ps := d_law_divisor.ps) fun _ _ _ _ _ _ us hl => match us, hl with | [_, _], _ => rfl
theorem bi_law_ratio {K : PySem.W.Frag} (f : Addr) (fd : FuncData) (F : L2.Fun K d_law_ratio.name d_law_ratio.name t_law_ratio f fd) : Binds K fd d_law_ratio.ps [] := F.binds (ps := d_law_ratio.ps) fun _ _ _ _ _ _ us hl => match us, hl with | [_, _], _ => rfl
theorem bi_law_drawn {K : PySem.W.Frag} (f : Addr) (fd : FuncData) (F : L2.Fun K d_law_drawn.name d_law_drawn.name t_law_drawn f fd) : Binds K fd d_law_drawn.ps [] := F.binds (ps := d_law_drawn.ps) fun _ _ _ _ _ _ us hl => match us, hl with | [_], _ => rfl
theorem bi_law_same {K : PySem.W.Frag} (f : Addr) (fd : FuncData) (F : L2.Fun K d_law_same.name d_law_same.name t_law_same f fd) : Binds K fd d_law_same.ps [] := F.binds (ps := d_law_same.ps) fun _ _ _ _ _ _ us hl => match us, hl with | [_, _], _ => rfl
theorem bi_law_plus {K : PySem.W.Frag} (f : Addr) (fd : FuncData) (F : L2.Fun K d_law_plus.name d_law_plus.name t_law_plus f fd) : Binds K fd d_law_plus.ps [] := F.binds (ps := d_law_plus.ps) fun _ _ _ _ _ _ us hl => match us, hl with | [_, _], _ => rfl
theorem bi_law_less {K : PySem.W.Frag} (f : Addr) (fd : FuncData) (F : L2.Fun K d_law_less.name d_law_less.name t_law_less f fd) : Binds K fd d_law_less.ps [] := F.binds (ps := d_law_less.ps) fun _ _ _ _ _ _ us hl => match us, hl with | [_, _], _ => rfl
theorem bi_ratio_text {K : PySem.W.Frag} (f : Addr) (fd : FuncData) (F : L2.Fun K d_ratio_text.name d_ratio_text.name t_ratio_text f fd) : Binds K fd d_ratio_text.ps [] := F.binds (ps := d_ratio_text.ps) fun _ _ _ _ _ _ us hl => match us, hl with | [_], _ => rfl
theorem bi_divisor {K : PySem.W.Frag} (f : Addr) (fd : FuncData) (F : L2.Fun K d_divisor.name d_divisor.name t_divisor f fd) : Binds K fd d_divisor.ps [] := F.binds (ps := d_divisor.ps) fun _ _ _ _ _ _ us hl => match us, hl with | [_, _], _ => rfl
theorem bi_ratio {K : PySem.W.Frag} (f : Addr) (fd : FuncData) (F : L2.Fun K d_ratio.name d_ratio.name t_ratio f fd) : Binds K fd d_ratio.ps [] := F.binds (ps := d_ratio.ps) fun _ _ _ _ _ _ us hl => match us, hl with | [_, _], _ => rfl
theorem bi_is_ratio {K : PySem.W.Frag} (f : Addr) (fd : FuncData) (F : L2.Fun K d_is_ratio.name d_is_ratio.name t_is_ratio f fd) : Binds K fd d_is_ratio.ps [] := F.binds (ps := d_is_ratio.ps) fun _ _ _ _ _ _ us hl => match us, hl with | [_], _ => rfl
theorem bi_added {K : PySem.W.Frag} (f : Addr) (fd : FuncData) (F : L2.Fun K d_added.name d_added.name t_added f fd) : Binds K fd d_added.ps [] := F.binds (ps := d_added.ps) fun _ _ _ _ _ _ us hl => match us, hl with | [_, _], _ => rfl
theorem bi_negative {K : PySem.W.Frag} (f : Addr) (fd : FuncData) (F : L2.Fun K d_negative.name d_negative.name t_negative f fd) : Binds K fd d_negative.ps [] := F.binds (ps := d_negative.ps) fun _ _ _ _ _ _ us hl => match us, hl with | [_], _ => rfl
theorem bi_times {K : PySem.W.Frag} (f : Addr) (fd : FuncData) (F : L2.Fun K d_times.name d_times.name t_times f fd) : Binds K fd d_times.ps [] := F.binds (ps := d_times.ps) fun _ _ _ _ _ _ us hl => match us, hl with | [_, _], _ => rfl
theorem bi_less {K : PySem.W.Frag} (f : Addr) (fd : FuncData) (F : L2.Fun K d_less.name d_less.name t_less f fd) : Binds K fd d_less.ps [] := F.binds (ps := d_less.ps) fun _ _ _ _ _ _ us hl => match us, hl with | [_, _], _ => rfl
theorem bi_over {K : PySem.W.Frag} (f : Addr) (fd : FuncData) (F : L2.Fun K d_over.name d_over.name t_over f fd) : Binds K fd d_over.ps [] := F.binds (ps := d_over.ps) fun _ _ _ _ _ _ us hl => match us, hl with | [_, _], _ => rfl
theorem bi_greatest {K : PySem.W.Frag} (f : Addr) (fd : FuncData) (F : L2.Fun K d_greatest.name d_greatest.name t_greatest f fd) : Binds K fd d_greatest.ps [] := F.binds (ps := d_greatest.ps) fun _ _ _ _ _ _ us hl => match us, hl with | [_], _ => rfl
theorem bi_summed {K : PySem.W.Frag} (f : Addr) (fd : FuncData) (F : L2.Fun K d_summed.name d_summed.name t_summed f fd) : Binds K fd d_summed.ps [] := F.binds (ps := d_summed.ps) fun _ _ _ _ _ _ us hl => match us, hl with | [_], _ => rfl
theorem bi_weighed {K : PySem.W.Frag} (f : Addr) (fd : FuncData) (F : L2.Fun K d_weighed.name d_weighed.name t_weighed f fd) : Binds K fd d_weighed.ps [] := F.binds (ps := d_weighed.ps) fun _ _ _ _ _ _ us hl => match us, hl with | [_, _], _ => rfl
theorem bi_law_sum {K : PySem.W.Frag} (f : Addr) (fd : FuncData) (F : L2.Fun K d_law_sum.name d_law_sum.name t_law_sum f fd) : Binds K fd d_law_sum.ps [] := F.binds (ps := d_law_sum.ps) fun _ _ _ _ _ _ us hl => match us, hl with | [_], _ => rfl
theorem bi_law {K : PySem.W.Frag} (f : Addr) (fd : FuncData) (F : L2.Fun K d_law.name d_law.name t_law f fd) (s : Shared) (u : Value) : BindsTo s fd ⟨[u], []⟩ [("script", u)] := by
  obtain ⟨oc, od, kV, doc, pm, an, cdv, ct, osl, rfl, lk, hcd⟩ := F.ex
  exact .of_eq rfl
theorem bi_next {K : PySem.W.Frag} (f : Addr) (fd : FuncData) (F : L2.Fun K "_law_next" "_law_next" t_next f fd) : Binds K fd ["state", "many"] [] := F.binds (ps := ["state", "many"]) fun _ _ _ _ _ _ us hl => match us, hl with | [_, _], _ => rfl
theorem nk_next {P : Program} {w : World} {K : PySem.W.Frag} {mg : Str → Option Value} (base : Heap) (f : Addr) (fd : FuncData) (h1 : mg "len" = none) (h2 : mg "int" = none) (F : L2.Fun K "_law_next" "_law_next" t_next f fd) : FnG P w K mg base 1 f fd ["state", "many"] (spNext K) := next_ok F h1 h2 rfl rfl
theorem head_mk {P : Program} {w : World} {K : PySem.W.Frag} {h : Heap} {mg : Str → Option Value} {fa : Addr} (X : K.In h) (G : h.Ns mainGlobals mg) (hfa : mg "law" = some (.ref fa)) (b : ∀ x ∈ blts, PySem.W.nsIn K mainGlobals x = some none) (e0 : ExcFact K "NotAllowed") (N : DefFact K "_law_next" t_next) (L : DefFact K "law" t_law)
    (D0 : DefFact K "_law_stream" t_law_stream) (D1 : DefFact K "_law_divisor" t_law_divisor) (D2 : DefFact K "_law_ratio" t_law_ratio) (D3 : DefFact K "_law_drawn" t_law_drawn) (D4 : DefFact K "_law_same" t_law_same) (D5 : DefFact K "_law_plus" t_law_plus) (D6 : DefFact K "_law_less" t_law_less) (D7 : DefFact K "ratio_text" t_ratio_text) (D8 : DefFact K "divisor" t_divisor) (D9 : DefFact K "ratio" t_ratio) (D10 : DefFact K "is_ratio" t_is_ratio) (D11 : DefFact K "added" t_added) (D12 : DefFact K "negative" t_negative) (D13 : DefFact K "times" t_times) (D14 : DefFact K "less" t_less) (D15 : DefFact K "over" t_over) (D16 : DefFact K "greatest" t_greatest) (D17 : DefFact K "summed" t_summed) (D18 : DefFact K "weighed" t_weighed) (D19 : DefFact K "_law_sum" t_law_sum) :
    ∃ fd : FuncData, (∀ (s : Shared) (u : Value), BindsTo s fd ⟨[u], []⟩ [("script", u)]) ∧ ∀ base : Heap, K.In base → base.Ns mainGlobals mg → FnG P w K mg base 10 fa fd ["script"] (spTrue K) :=
  head_ok (tb := tb) (xs := exs) (B := fun _ _ => True) (d := d_law) X G hfa (txts_of X G (fun _ _ => trivial) b (all1 e0 all0)) ⟨defAt_of X G D0 sc_law_stream is_law_stream bi_law_stream, defAt_of X G D1 sc_law_divisor is_law_divisor bi_law_divisor, defAt_of X G D2 sc_law_ratio is_law_ratio bi_law_ratio, defAt_of X G D3 sc_law_drawn is_law_drawn bi_law_drawn, defAt_of X G D4 sc_law_same is_law_same bi_law_same, defAt_of X G D5 sc_law_plus is_law_plus bi_law_plus, defAt_of X G D6 sc_law_less is_law_less bi_law_less, defAt_of X G D7 sc_ratio_text is_ratio_text bi_ratio_text, defAt_of X G D8 sc_divisor is_divisor bi_divisor, defAt_of X G D9 sc_ratio is_ratio bi_ratio, defAt_of X G D10 sc_is_ratio is_is_ratio bi_is_ratio, defAt_of X G D11 sc_added is_added bi_added, defAt_of X G D12 sc_negative is_negative bi_negative, defAt_of X G D13 sc_times is_times bi_times, defAt_of X G D14 sc_less is_less bi_less, defAt_of X G D15 sc_over is_over bi_over, defAt_of X G D16 sc_greatest is_greatest bi_greatest, defAt_of X G D17 sc_summed is_summed bi_summed, defAt_of X G D18 sc_weighed is_weighed bi_weighed, defAt_of X G D19 sc_law_sum is_law_sum bi_law_sum, trivial⟩ N nk_next bi_next L rfl sc_law is_law bi_law law_pure
/-- the names of the built-in things that the top leaves alone -/
theorem blts_of {K : PySem.W.Frag} (h0 : PySem.W.nsIn K mainGlobals "len" = some none) (h1 : PySem.W.nsIn K mainGlobals "abs" = some none) (h2 : PySem.W.nsIn K mainGlobals "int" = some none) (h3 : PySem.W.nsIn K mainGlobals "str" = some none) (h4 : PySem.W.nsIn K mainGlobals "repr" = some none) (h5 : PySem.W.nsIn K mainGlobals "max" = some none) (h6 : PySem.W.nsIn K mainGlobals "min" = some none) (h7 : PySem.W.nsIn K mainGlobals "sum" = some none) (h8 : PySem.W.nsIn K mainGlobals "sorted" = some none) (h9 : PySem.W.nsIn K mainGlobals "list" = some none) (h10 : PySem.W.nsIn K mainGlobals "tuple" = some none) (h11 : PySem.W.nsIn K mainGlobals "range" = some none) (h12 : PySem.W.nsIn K mainGlobals "zip" = some none) (h13 : PySem.W.nsIn K mainGlobals "enumerate" = some none) (h14 : PySem.W.nsIn K mainGlobals "set" = some none) (h15 : PySem.W.nsIn K mainGlobals "any" = some none) (h16 : PySem.W.nsIn K mainGlobals "all" = some none) (h17 : PySem.W.nsIn K mainGlobals "dict" = some none) (h18 : PySem.W.nsIn K mainGlobals "isinstance" = some none) : ∀ x ∈ blts, PySem.W.nsIn K mainGlobals x = some none := fun x hx => by
  unfold blts at hx
  simp only [List.mem_cons, List.not_mem_nil, or_false] at hx
  rcases hx with rfl | rfl | rfl | rfl | rfl | rfl | rfl | rfl | rfl | rfl | rfl | rfl | rfl | rfl | rfl | rfl | rfl | rfl | rfl
  all_goals assumption
end Dz
open PySem PySem.W PyProof.Rows
set_option maxHeartbeats 0 in
theorem PySem.Challenge.cw_setsadded_k01_ratios_holds : PySem.Challenge.rw_setsadded_k01_ratios.Holds := by
  w_on; o_law; k_head; (case hw => w_witness2)
  k_fill
  refine Dz.walkG (k := 10) (by rfl) (by rfl) ⟨rfl, by decide, by decide⟩ (fun w h Y => PySem.W.kIn_of Y) ?F
  case F =>
    intro w mg fa h Y G hmg
    refine' Dz.head_mk Y G hmg (Dz.blts_of ?zb0 ?zb1 ?zb2 ?zb3 ?zb4 ?zb5 ?zb6 ?zb7 ?zb8 ?zb9 ?zb10 ?zb11 ?zb12 ?zb13 ?zb14 ?zb15 ?zb16 ?zb17 ?zb18) ?ze0 ?zN ?zL ?zD0 ?zD1 ?zD2 ?zD3 ?zD4 ?zD5 ?zD6 ?zD7 ?zD8 ?zD9 ?zD10 ?zD11 ?zD12 ?zD13 ?zD14 ?zD15 ?zD16 ?zD17 ?zD18 ?zD19
    case zb0 => k_is
    case zb1 => k_is
    case zb2 => k_is
    case zb3 => k_is
    case zb4 => k_is
    case zb5 => k_is
    case zb6 => k_is
    case zb7 => k_is
    case zb8 => k_is
    case zb9 => k_is
    case zb10 => k_is
    case zb11 => k_is
    case zb12 => k_is
    case zb13 => k_is
    case zb14 => k_is
    case zb15 => k_is
    case zb16 => k_is
    case zb17 => k_is
    case zb18 => k_is
    case ze0 => (refine' Dz.exc_fact ?za ?zq ?zk ?zs ?zt; (case za => k_is); (case zq => k_exc); (case zk => k_is); (case zs => k_is); (case zt => k_is))
    case zN => (refine' Dz.def_fact ?za ?zl ?zc ?zk; (case za => k_is); (case zl => k_is); (case zc => k_is); (case zk => k_is))
    case zL => (refine' Dz.def_fact ?za ?zl ?zc ?zk; (case za => k_is); (case zl => k_is); (case zc => k_is); (case zk => k_is))
    case zD0 => (refine' Dz.def_fact ?za ?zl ?zc ?zk; (case za => k_is); (case zl => k_is); (case zc => k_is); (case zk => k_is))
    case zD1 => (refine' Dz.def_fact ?za ?zl ?zc ?zk; (case za => k_is); (case zl => k_is); (case zc => k_is); (case zk => k_is))
    case zD2 => (refine' Dz.def_fact ?za ?zl ?zc ?zk; (case za => k_is); (case zl => k_is); (case zc => k_is); (case zk => k_is))
    case zD3 => (refine' Dz.def_fact ?za ?zl ?zc ?zk; (case za => k_is); (case zl => k_is); (case zc => k_is); (case zk => k_is))
    case zD4 => (refine' Dz.def_fact ?za ?zl ?zc ?zk; (case za => k_is); (case zl => k_is); (case zc => k_is); (case zk => k_is))
    case zD5 => (refine' Dz.def_fact ?za ?zl ?zc ?zk; (case za => k_is); (case zl => k_is); (case zc => k_is); (case zk => k_is))
    case zD6 => (refine' Dz.def_fact ?za ?zl ?zc ?zk; (case za => k_is); (case zl => k_is); (case zc => k_is); (case zk => k_is))
    case zD7 => (refine' Dz.def_fact ?za ?zl ?zc ?zk; (case za => k_is); (case zl => k_is); (case zc => k_is); (case zk => k_is))
    case zD8 => (refine' Dz.def_fact ?za ?zl ?zc ?zk; (case za => k_is); (case zl => k_is); (case zc => k_is); (case zk => k_is))
    case zD9 => (refine' Dz.def_fact ?za ?zl ?zc ?zk; (case za => k_is); (case zl => k_is); (case zc => k_is); (case zk => k_is))
    case zD10 => (refine' Dz.def_fact ?za ?zl ?zc ?zk; (case za => k_is); (case zl => k_is); (case zc => k_is); (case zk => k_is))
    case zD11 => (refine' Dz.def_fact ?za ?zl ?zc ?zk; (case za => k_is); (case zl => k_is); (case zc => k_is); (case zk => k_is))
    case zD12 => (refine' Dz.def_fact ?za ?zl ?zc ?zk; (case za => k_is); (case zl => k_is); (case zc => k_is); (case zk => k_is))
    case zD13 => (refine' Dz.def_fact ?za ?zl ?zc ?zk; (case za => k_is); (case zl => k_is); (case zc => k_is); (case zk => k_is))
    case zD14 => (refine' Dz.def_fact ?za ?zl ?zc ?zk; (case za => k_is); (case zl => k_is); (case zc => k_is); (case zk => k_is))
    case zD15 => (refine' Dz.def_fact ?za ?zl ?zc ?zk; (case za => k_is); (case zl => k_is); (case zc => k_is); (case zk => k_is))
    case zD16 => (refine' Dz.def_fact ?za ?zl ?zc ?zk; (case za => k_is); (case zl => k_is); (case zc => k_is); (case zk => k_is))
    case zD17 => (refine' Dz.def_fact ?za ?zl ?zc ?zk; (case za => k_is); (case zl => k_is); (case zc => k_is); (case zk => k_is))
    case zD18 => (refine' Dz.def_fact ?za ?zl ?zc ?zk; (case za => k_is); (case zl => k_is); (case zc => k_is); (case zk => k_is))
    case zD19 => (refine' Dz.def_fact ?za ?zl ?zc ?zk; (case za => k_is); (case zl => k_is); (case zc => k_is); (case zk => k_is))
