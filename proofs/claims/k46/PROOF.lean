import PyProof.Rows.All
import Wide.All
import OpenK.AllK
import Wide.FinOn
import HandS.ForMost
import HandS.Zip
import HandS.Style
import HandS.TupAny
import HandS.SortInts
import HandS.Exc
import HandS.WordsExc
import HandS.WordsDict
import HandS.Text
import HandS.TupMul
import KE.SortCalls
import KE.SortKeyHeap
import HandS.Lambda
import HandS.SortKw
import HandS.Nested
import HandS.SetFor
import HandS.Strs
import HandS.Iter
import HandS.IsInst
import HandS.Small
import HandS.Conv
import HandS.Defaults
import HandS.More
import KE.SortData
import HandS.Sort
import HandS.TryMany
import KE.DataFind
import HandS.Walk
import HandS.Flow
import HandS.ExcOwn
import PyProof.ExcBaseAll.ValueError
import HandS.HeadHook4
import HandS.HeadEnd
import HandS.Head2
import HandS.EndTab
import KE.KStateDown
import PySem.Challenge.RW_deedsheaf_k46_witnesses_that_could_be_no
set_option Elab.async false
set_option linter.all false
set_option maxRecDepth 98765
set_option maxHeartbeats 8765432
namespace DD
open PySem
/-- data of any depth; obj: an instance of own class number c; odc: a dict that its instance alone has; scr: the script -/
inductive D where
  | non | bl (b : Bool) | int (i : Int) | str (s : Str)
  | tup (ds : List D) | lst (ds : List D)
  | dct (kvs : List (L2.Key × D))
  | obj (c : Nat) (fs : List (Str × D))
  | odc (kvs : List (L2.Key × D))
  | scr (ns : List Int)
  deriving Inhabited
/-- how a value may be used: shared for good; owned by its slot alone; the same, handed in by a caller who wants it back; lent -/
inductive Fl where
  | dat | own | ino | brw
  deriving DecidableEq, Inhabited
/-- an own exception: the class's number, its field -/
structure Ex where
  c : Nat
  f : Option (Str × D)
inductive R (a : Type) where
  | ok (x : a) | exc (e : Ex) | bad
namespace R
def bind {a b : Type} : R a → (a → R b) → R b
  | .ok x, f => f x
  | .exc e, _ => .exc e
  | .bad, _ => .bad
instance : Monad R where
  pure := R.ok
  bind := R.bind
@[simp] theorem bind_ok {a b : Type} (x : a) (f : a → R b) : (R.ok x >>= f) = f x := rfl
@[simp] theorem bind_exc {a b : Type} (e : Ex) (f : a → R b) : ((R.exc e : R a) >>= f) = R.exc e := rfl
@[simp] theorem bind_bad {a b : Type} (f : a → R b) : ((R.bad : R a) >>= f) = R.bad := rfl
@[simp] theorem pure_ok {a : Type} (x : a) : (pure x : R a) = R.ok x := rfl
theorem bind_eq_ok {a b : Type} {x : R a} {f : a → R b} {y : b} (h : (x >>= f) = .ok y) : ∃ z, x = .ok z ∧ f z = .ok y := by
  cases x with
  | ok z => exact ⟨z, rfl, h⟩
  | exc e => cases h
  | bad => cases h
end R
abbrev Sl := Option (Fl × D)
abbrev Sg := List Sl
def Sg.at (σ : Sg) (i : Nat) : Sl := (σ[i]?).join
inductive Op where
  | add | sub | mul | fdiv | mod | pow
  deriving DecidableEq
inductive CO where
  | eq | ne | lt | le | gt | ge | isin | notin | iss | isnot
  deriving DecidableEq
def small (i : Int) : Bool := decide (-18446744073709551616 < i) && decide (i < 18446744073709551616)
def binD : Op → D → D → R (Fl × D)
  | .add, .int i, .int j => .ok (.dat, .int (i + j))
  | .add, .str x, .str y => if x.length + y.length ≤ 16777216 then .ok (.dat, .str (x ++ y)) else .bad
  | .add, .tup x, .tup y => if x.length + y.length ≤ 16777216 then .ok (.dat, .tup (x ++ y)) else .bad
  | .add, .lst x, .lst y => if x.length + y.length ≤ 16777216 then .ok (.own, .lst (x ++ y)) else .bad
  | .sub, .int i, .int j => .ok (.dat, .int (i - j))
  | .mul, .int i, .int j => if small i || small j then .ok (.dat, .int (i * j)) else .bad
  | .mul, .lst x, .int k => if decide (k ≤ 1000 ∧ -1000 ≤ k ∧ x.length ≤ 1000) then .ok (.own, .lst (List.replicate k.toNat x).flatten) else .bad
  | .mul, .tup x, .int k => if !x.isEmpty && decide (2 ≤ k ∧ k ≤ 1000 ∧ x.length ≤ 1000) then .ok (.dat, .tup (List.replicate k.toNat x).flatten) else .bad
  | .fdiv, .int i, .int j => if decide (0 < j) && decide (j < 1073741824) then .ok (.dat, .int (i / j)) else .bad
  | .mod, .int i, .int j => if 0 < j then .ok (.dat, .int (i % j)) else .bad
  | .pow, .int i, .int j => if decide (0 ≤ j) && decide (j ≤ 1000000) && small i then .ok (.dat, .int (i ^ j.toNat)) else .bad
  | _, _, _ => .bad
mutual
/-- data that == tells apart as data does, no dict, no object -/
def toP : D → Option PyData
  | .non => some .none
  | .bl b => some (.bool b)
  | .int i => some (.int i)
  | .str s => some (.str s)
  | .tup ds => (toPs ds).map .tuple
  | .lst ds => (toPs ds).map .list
  | .dct _ => none
  | .obj _ _ => none
  | .odc _ => none
  | .scr _ => none
def toPs : List D → Option (List PyData)
  | [] => some []
  | d :: ds => match toP d, toPs ds with
    | some p, some ps => some (p :: ps)
    | _, _ => none
end
def keyD : D → Option L2.Key
  | .int i => some (.inl i)
  | .str s => some (.inr s)
  | _ => none
def valD (kvs : List (L2.Key × D)) (k : L2.Key) : Option D := (kvs.find? fun kv => decide (kv.1 = k)).map (·.2)
def putD (kvs : List (L2.Key × D)) (k : L2.Key) (v : D) : List (L2.Key × D) :=
  if (kvs.any fun kv => decide (kv.1 = k)) then kvs.map (fun kv => if kv.1 = k then (kv.1, v) else kv) else kvs ++ [(k, v)]
def mergeD (kvs more : List (L2.Key × D)) : List (L2.Key × D) := more.foldl (fun acc kv => putD acc kv.1 kv.2) kvs
def dK : L2.Key → D
  | .inl i => .int i
  | .inr s => .str s
def flatD : D → Bool
  | .non => true | .bl _ => true | .int _ => true | .str _ => true
  | _ => false
def eqF : D → D → Bool
  | .non, .non => true
  | .bl a, .bl b => a == b
  | .bl a, .int b => (if a then 1 else 0) == b
  | .int a, .bl b => a == (if b then 1 else 0)
  | .int a, .int b => a == b
  | .str a, .str b => a == b
  | _, _ => false
/-- flat, and one and the same -/
def sameF : D → D → Bool
  | .non, .non => true
  | .bl a, .bl b => a == b
  | .int a, .int b => a == b
  | .str a, .str b => decide (a = b)
  | _, _ => false
/-- dicts alike, whatever their order, of flat values -/
def sameK (ks ls : List (L2.Key × D)) : Bool := decide (ks.length = ls.length) && ks.all fun p => match valD ls p.1 with
  | some y => sameF p.2 y
  | none => false
def eqvK : D → D → R Bool
  | .dct ks, .dct ls => if sameK ks ls then .ok true else .bad
  | _, _ => .bad
/-- of data without dicts and objects: Python's ==; dicts only where they are alike -/
def eqvD (x y : D) : R Bool := match toP x, toP y with
  | some p, some q => if SeqAt.shaped p && SeqAt.shaped q then .ok (PyData.eqv p q) else .bad
  | _, _ => eqvK x y
/-- a new list of flat things -/
def flatR : Fl × D → Bool
  | (.own, .lst ds) => ds.all flatD
  | _ => false
/-- x in xs -/
def inD (x : D) (xs : List D) : R Bool := if flatD x && xs.all flatD then .ok (xs.any fun y => eqF y x) else .bad
def cmpD : CO → D → D → R Bool
  | .eq, x, y => eqvD x y
  | .ne, x, y => do let b ← eqvD x y; .ok (!b)
  | .lt, .int i, .int j => .ok (decide (i < j))
  | .le, .int i, .int j => .ok (decide (i ≤ j))
  | .gt, .int i, .int j => .ok (decide (j < i))
  | .ge, .int i, .int j => .ok (decide (j ≤ i))
  | .lt, .str x, .str y => .ok (decide (x.cps.toList < y.cps.toList))
  | .isin, x, .lst ys => inD x ys
  | .isin, x, .tup ys => inD x ys
  | .isin, x, .dct kvs => match keyD x with
    | some k => .ok (valD kvs k).isSome
    | none => .bad
  | .notin, x, .lst ys => do let b ← inD x ys; .ok (!b)
  | .notin, x, .tup ys => do let b ← inD x ys; .ok (!b)
  | .notin, x, .dct kvs => match keyD x with
    | some k => .ok (!(valD kvs k).isSome)
    | none => .bad
  | .iss, x, .non => .ok (match x with | .non => true | _ => false)
  | .isnot, x, .non => .ok (match x with | .non => false | _ => true)
  | _, _, _ => .bad
def ofO {a : Type} : Option a → R a
  | some x => .ok x
  | none => .bad
@[simp] theorem ofO_some {a : Type} (x : a) : ofO (some x) = .ok x := rfl
/-- x[i] -/
def idxD : D → D → R D
  | .lst ds, .int i => ofO (L2.atI ds i)
  | .tup ds, .int i => ofO (L2.atI ds i)
  | .scr ns, .int i => ofO ((L2.atI ns i).map .int)
  | .str s, .int i => if s.length ≤ 16777216 then ofO ((L2.atI s.cps.toList i).map fun c => .str ⟨#[c]⟩) else .bad
  | .dct kvs, y => do let k ← ofO (keyD y); ofO (valD kvs k)
  | _, _ => .bad
def cutD (xs : List D) (lo hi : Option Int) : List D := (xs.drop (HT.sIx xs.length 0 lo)).take (HT.sIx xs.length xs.length hi - HT.sIx xs.length 0 lo)
/-- x[lo:hi] -/
def slcD : D → Option Int → Option Int → R (Fl × D)
  | .lst ds, lo, hi => .ok (.own, .lst (cutD ds lo hi))
  | .tup ds, lo, hi => .ok (.dat, .tup (cutD ds lo hi))
  | .str s, lo, hi => if s.length ≤ 16777216 then .ok (.dat, .str (L2.cutS s lo hi)) else .bad
  | _, _, _ => .bad
def fldD (fs : List (Str × D)) (f : Str) : R D := ofO (fs.lookup f)
def nrmD : D → D
  | .odc kvs => .dct kvs
  | d => d
def isOdc : D → Bool
  | .odc _ => true
  | _ => false
def isObj : D → Bool
  | .obj _ _ => true
  | _ => false
/-- an instance's field -/
def objF : D → Str → R D
  | .obj _ fs, f => ofO (fs.lookup f)
  | _, _ => .bad
/-- list(d.values()) -/
def valsD : D → R (List D)
  | .dct kvs => .ok (kvs.map (·.2))
  | _ => .bad
def keysD (kvs : List (L2.Key × D)) : List D := kvs.map fun kv => dK kv.1
inductive Bif where
  | len | intO | min2 | max2 | sum | all | any | maxL | minL | sortI | sortA | tupO | lstO | sortSet | lenSet | dicO | rngL | strO
  deriving DecidableEq
def intsD : List D → Option (List Int)
  | [] => some []
  | .int i :: r => (intsD r).map (i :: ·)
  | _ :: _ => none
def blsD : List D → Option (List Bool)
  | [] => some []
  | .bl i :: r => (blsD r).map (i :: ·)
  | _ :: _ => none
def sortZ (ns : List Int) : List Int := ns.mergeSort fun x y => decide (x ≤ y)
/-- none twice -/
def dedZ (ns : List Int) : List Int := ns.foldl (fun acc x => if x ∈ acc then acc else acc ++ [x]) []
def pairsD : List D → Option (List (L2.Key × D))
  | [] => some []
  | .tup [x, y] :: r => match keyD x, pairsD r with
    | some k, some ps => some ((k, y) :: ps)
    | _, _ => none
  | _ :: _ => none
def rangeD (lo : Int) (n : Nat) : List D := (List.range n).map fun (i : Nat) => D.int (lo + (i : Int))
def maxZ : List Int → Option Int
  | [] => none
  | x :: r => some (r.foldl (fun m y => if y > m then y else m) x)
def minZ : List Int → Option Int
  | [] => none
  | x :: r => some (r.foldl (fun m y => if y < m then y else m) x)
/-- as data that == and < read -/
def pD (d : D) : PyData := (toP d).getD .none
/-- all are data that can be told less by one another -/
def alkB (ds : List D) : Bool := ds.all fun x => (toP x).isSome && decide ((pD x).depth ≤ 60) && ds.all fun y => PySem.W.alike (pD x) (pD y)
/-- tuples with something in them, or neither tuples nor None -/
def srtB (ds : List D) : Bool := (ds.all fun | .tup (_ :: _) => true | _ => false) || ds.all fun | .tup _ => false | .non => false | _ => true
/-- by that, as they stood where it tells nothing -/
def sortAD (ds : List D) : List D := ds.mergeSort fun x y => !(PySem.W.dataLt (pD y) (pD x))
def bifD : Bif → List D → R (Fl × D)
  | .len, [.lst ds] => .ok (.dat, .int ds.length)
  | .len, [.tup ds] => .ok (.dat, .int ds.length)
  | .len, [.scr ns] => .ok (.dat, .int ns.length)
  | .len, [.dct kvs] => .ok (.dat, .int kvs.length)
  | .len, [.str s] => if s.length ≤ 16777216 then .ok (.dat, .int s.length) else .bad
  | .strO, [.int i] => if decide (i.natAbs.log2 < 1920) then .ok (.dat, .str (toString i)) else .bad
  | .intO, [.bl b] => .ok (.dat, .int (if b then 1 else 0))
  | .intO, [.int i] => .ok (.dat, .int i)
  | .min2, [.int i, .int j] => .ok (.dat, .int (if j < i then j else i))
  | .max2, [.int i, .int j] => .ok (.dat, .int (if j > i then j else i))
  | .sum, [.lst ds] => do let ns ← ofO (intsD ds); .ok (.dat, .int ns.sum)
  | .sum, [.tup ds] => do let ns ← ofO (intsD ds); .ok (.dat, .int ns.sum)
  | .all, [.lst ds] => do let bs ← ofO (blsD ds); .ok (.dat, .bl (bs.all id))
  | .any, [.lst ds] => do let bs ← ofO (blsD ds); .ok (.dat, .bl (bs.any id))
  | .maxL, [.lst ds] => do let ns ← ofO (intsD ds); let m ← ofO (maxZ ns); .ok (.dat, .int m)
  | .minL, [.lst ds] => do let ns ← ofO (intsD ds); let m ← ofO (minZ ns); .ok (.dat, .int m)
  | .sortI, [.dct kvs] => do let ns ← ofO (intsD (keysD kvs)); if decide (ns.length < 64) then .ok (.own, .lst ((sortZ ns).map .int)) else .bad
  | .sortI, [.lst ds] => do let ns ← ofO (intsD ds); .ok (.own, .lst ((sortZ ns).map .int))
  | .sortA, [.lst ds] => if alkB ds && srtB ds then .ok (.own, .lst (sortAD ds)) else .bad
  | .sortA, [.tup ds] => if alkB ds && srtB ds then .ok (.own, .lst (sortAD ds)) else .bad
  | .tupO, [.lst ds] => .ok (.dat, .tup ds)
  | .tupO, [.tup ds] => .ok (.dat, .tup ds)
  | .lstO, [.lst ds] => .ok (.own, .lst ds)
  | .lstO, [.tup ds] => .ok (.own, .lst ds)
  | .lstO, [.dct kvs] => .ok (.own, .lst (keysD kvs))
  | .sortSet, [.lst ds] => do let ns ← ofO (intsD ds); .ok (.own, .lst ((sortZ (dedZ ns)).map .int))
  | .dicO, [.lst ds] => do let ps ← ofO (pairsD ds); .ok (.own, .dct (mergeD [] ps))
  | _, _ => .bad
inductive Wk where
  | seq | rng | dwn | zip | enu | items
  deriving DecidableEq
def inR (i : Int) : Bool := decide (-4611686018427387904 ≤ i) && decide (i < 4611686018427387904)
/-- a, a - 1, .., n of them -/
def downD (a : Int) (n : Nat) : List D := (List.range n).map fun (i : Nat) => D.int (a + (i : Int) * (-1))
def zipD (xa xb : List D) : List D := (xa.zip xb).map fun p => .tup [p.1, p.2]
def enuD (xa : List D) : List D := xa.zipIdx.map fun p => .tup [.int (p.2 : Nat), p.1]
def wkD : Wk → List D → R (List D)
  | .enu, [.lst xa] => .ok (enuD xa)
  | .enu, [.tup xa] => .ok (enuD xa)
  | .zip, [.tup xa, .tup xb] => .ok (zipD xa xb)
  | .zip, [.lst xa, .lst xb] => .ok (zipD xa xb)
  | .zip, [.lst xa, .tup xb] => .ok (zipD xa xb)
  | .dwn, [.int a, .int b, .int c] => if c == -1 && inR a && inR b && decide (a - b ≤ 16777216) then .ok (downD a (a - b).toNat) else .bad
  | .seq, [.lst ds] => .ok ds
  | .seq, [.tup ds] => .ok ds
  | .seq, [.dct kvs] => .ok (keysD kvs)
  | .rng, [.int n] => if inR n && decide (n ≤ 16777216) then .ok (rangeD 0 n.toNat) else .bad
  | .rng, [.int a, .int b] => if inR a && inR b && decide (b - a ≤ 16777216) then .ok (rangeD a (b - a).toNat) else .bad
  | _, _ => .bad
inductive Tg where
  | one (i : Nat) | tup (is : List Nat)
/-- no exception is let through -/
def calm {a : Type} : R a → R a
  | .ok x => .ok x
  | _ => .bad
inductive Mu where
  | append | extend | pop0 | pop1 | clear | remove
  deriving DecidableEq
/-- methods of built-in types that change nothing -/
inductive Mt where
  | lcount
  deriving DecidableEq
/-- what a teller hands back where the exception comes: a constant, the exception's own field -/
inductive Hv where
  | con (d : D) | fld (f : Str)
def okP (d : D) : Bool := (toP d).isSome && decide ((pD d).depth ≤ 60)
/-- what is asked may have such a method -/
def mtTy : Mt → D → Bool
  | .lcount, .lst _ => true
  | _, _ => false
def mtdD : Mt → D → List D → R (Fl × D)
  | .lcount, .lst ys, [x] => if okP x && ys.all okP then .ok (.dat, .int (((ys.map pD).countP fun y => PyData.eqv y (pD x) : Nat) : Int)) else .bad
  | _, _, _ => .bad
inductive Ty where
  | int | bool | str | tup | lst | dct
  deriving DecidableEq
/-- isinstance(d, t) -/
def isiD : Ty → D → Option Bool
  | _, .obj _ _ => none
  | _, .odc _ => none
  | .int, .int _ => some true
  | .int, .bl _ => some true
  | .bool, .bl _ => some true
  | .str, .str _ => some true
  | .tup, .tup _ => some true
  | .lst, .lst _ => some true
  | .lst, .scr _ => some true
  | .dct, .dct _ => some true
  | _, _ => some false
/-- by the second, as they stood -/
def sortB {α : Type} (bs : List (α × Int)) : List (α × Int) := bs.mergeSort fun x y => decide (x.2 ≤ y.2)
/-- tuples and the ints that they begin with -/
def headsD : List D → Option (List (D × Int))
  | [] => some []
  | .tup (.int i :: r) :: ds => (headsD ds).map ((.tup (.int i :: r), i) :: ·)
  | _ :: _ => none
/-- sorted(d, key=lambda y: y[0]) -/
def srkD : D → R (List D)
  | .lst ds => do let bs ← ofO (headsD ds); .ok ((sortB bs).map Prod.fst)
  | .tup ds => do let bs ← ofO (headsD ds); .ok ((sortB bs).map Prod.fst)
  | _ => .bad
mutual
inductive E where
  | non | bl (b : Bool) | int (i : Int) | str (s : Str)
  | var (i : Nat) | mov (i : Nat) | frz (i : Nat) | io (i : Nat)
  | glb (g : Nat)
  | tup (es : Es) | lst (es : Es)
  | dct (ps : Es)
  | ite (c x y : E)
  | and (es : Es) | or (es : Es) | not (x : E)
  | bin (o : Op) (x y : E) | neg (x : E)
  | cmp (o : CO) (x y : E) | chn (o p : CO) (x y z : E)
  | idx (x y : E) | slc (x : E) (lo hi : Es) | rev (x : E)
  | fld (x : E) (f : Str)
  | isi (t : Ty) (x : E)
  | sset (x : E)
  | srk (x : E) | shr (x : E) | lvs (x : E)
  | lnt (i : Nat) (x : E)
  | upp (x : E)
  | get (b : Bool) (x y z : E)
  | idv (i : Nat) (y : E)
  | lrng (es : Es)
  | orl (x y : E)
  | mtd (m : Mt) (x : E) (es : Es)
  | ask (a : Str) (hs : List (Nat × Hv)) (dn : D) (x : E)
  | call (f : Nat) (es : Es)
  | mth (m : Str) (f : Nat) (es : Es)
  | mk (c f : Nat) (es : Es)
  | bif (b : Bif) (es : Es)
  | mut (m : Mu) (i : Nat) (es : Es)
  | comp (w : Wk) (src : Es) (tg : Tg) (cs : Es) (x : E) (vs : List Nat)
inductive Es where
  | nil | cons (e : E) (r : Es)
end
/-- the slot that an expression may lend -/
def srcE : E → Option Nat
  | .var i => some i
  | .fld (.var i) _ => some i
  | _ => none
def isIo : E → Option Nat
  | .io i => some i
  | _ => none
/-- of each place, which slot is handed in to be given back -/
def ioAt : Es → List (Option Nat)
  | .nil => []
  | .cons e r => isIo e :: ioAt r
def iosE (es : Es) : List Nat := (ioAt es).filterMap id
def srcs : Es → List Nat
  | .nil => []
  | .cons e r => match srcE e with
    | some i => i :: srcs r
    | none => srcs r
mutual
/-- may it change a slot -/
def imp : E → Bool
  | .non => false | .bl _ => false | .int _ => false | .str _ => false
  | .var _ => false | .mov _ => true | .frz _ => true | .io _ => false
  | .glb _ => false
  | .tup es => imps es | .lst es => imps es
  | .dct ps => imps ps
  | .ite c x y => imp c || imp x || imp y
  | .and es => imps es | .or es => imps es | .not x => imp x
  | .bin _ x y => imp x || imp y | .neg x => imp x
  | .cmp _ x y => imp x || imp y | .chn _ _ x y z => imp x || imp y || imp z
  | .idx x y => imp x || imp y | .slc x lo hi => imp x || imps lo || imps hi | .rev x => imp x
  | .fld x _ => imp x
  | .isi _ x => imp x
  | .sset x => imp x
  | .srk x => imp x
  | .shr x => imp x
  | .lnt _ x => imp x
  | .lvs x => imp x
  | .upp x => imp x
  | .get _ x y z => imp x || (imp y || imp z)
  | .idv _ y => imp y
  | .lrng es => imps es
  | .orl x y => imp x || imp y
  | .mtd _ x es => imp x || imps es
  | .ask _ _ _ x => imp x
  | .call _ es => imps es || !(iosE es).isEmpty
  | .mth _ _ es => imps es || !(iosE es).isEmpty
  | .mk _ _ es => imps es
  | .bif _ es => imps es
  | .mut _ _ _ => true
  | .comp _ src _ cs x _ => imps src || imps cs || imp x
def imps : Es → Bool
  | .nil => false
  | .cons e r => imp e || imps r
end
structure Tb where
  G : Nat → D
  C : Nat → List (Fl × D) → R ((Fl × D) × List D)
  I : Nat → Nat → List (Fl × D) → R D
/-- a lent thing may not be kept, an owned one is given up -/
def keep : Fl × D → R D
  | (.dat, d) => .ok d
  | (.own, d) => .ok d
  | _ => .bad
def keeps : List (Fl × D) → R (List D)
  | [] => .ok []
  | x :: r => do let d ← keep x; let ds ← keeps r; .ok (d :: ds)
/-- read at once -/
def look : Fl × D → R D
  | (.ino, _) => .bad
  | (_, d) => .ok d
def looks : List (Fl × D) → R (List D)
  | [] => .ok []
  | x :: r => do let d ← look x; let ds ← looks r; .ok (d :: ds)
def boolD : Fl × D → R Bool
  | (_, .bl b) => .ok b
  | _ => .bad
def guard (b : Bool) : R Unit := if b then .ok () else .bad
@[simp] theorem guard_true : guard true = .ok () := rfl
@[simp] theorem guard_false : guard false = .bad := rfl
def setT (σ : Sg) : Tg → D → R Sg
  | .one i, d => .ok (σ.set i (some (.dat, d)))
  | .tup is, .tup ds => if ds.length = is.length then .ok ((is.zip ds).foldl (fun s p => s.set p.1 (some (.dat, p.2))) σ) else .bad
  | _, _ => .bad
/-- the contents of what is handed in to be given back -/
def fillA (σ : Sg) : Es → List (Fl × D) → R (List (Fl × D))
  | .nil, [] => .ok []
  | .cons e r, x :: xs => do
    let y ← (match isIo e with
      | some i => (match x.1, σ.at i with
        | .ino, some (.own, d) => if !isObj d then R.ok (Fl.ino, d) else R.bad
        | .ino, some (.ino, d) => if !isObj d then R.ok (Fl.ino, d) else R.bad
        | _, _ => R.bad)
      | none => (match x with
        | (.dat, d) => R.ok (Fl.dat, d)
        | (.own, d) => R.ok (Fl.dat, d)
        | (.brw, d) => R.ok (Fl.brw, d)
        | _ => R.bad))
    let ys ← fillA σ r xs
    .ok (y :: ys)
  | _, _ => .bad
/-- what is given back goes to its slots -/
def backA (σ : Sg) : Es → List D → R Sg
  | .nil, [] => .ok σ
  | .cons e r, d :: ds => match isIo e with
    | some i => (match σ.at i with
      | some (f, _) => backA (σ.set i (some (f, d))) r ds
      | none => .bad)
    | none => backA σ r ds
  | _, _ => .bad
def mutD : Mu → D → List D → R (D × D)
  | .append, .lst ds, [x] => if ds.length < 16777216 then .ok (.non, .lst (ds ++ [x])) else .bad
  | .extend, .lst ds, [.lst xs] => if ds.length + xs.length ≤ 16777216 then .ok (.non, .lst (ds ++ xs)) else .bad
  | .pop0, .lst ds, [] => do let x ← ofO ds[ds.length - 1]?; .ok (x, .lst ds.dropLast)
  | .pop1, .lst ds, [.int i] => if inR i then (do let k ← ofO (seqIndex? i ds.length); let x ← ofO ds[k]?; .ok (x, .lst (ds.eraseIdx k))) else .bad
  | .clear, .lst _, [] => .ok (.non, .lst [])
  | .remove, .lst ds, [x] => if okP x && ds.all okP then (do let j ← ofO ((ds.map pD).findIdx? fun y => PyData.eqv y (pD x)); .ok (.non, .lst (ds.eraseIdx j))) else .bad
  | _, _, _ => .bad
def wipeD (σ : Sg) : List Nat → Sg
  | [] => σ
  | v :: vs => (wipeD σ vs).set v none
def putBack (σ σ0 : Sg) : List Nat → Sg
  | [] => σ
  | v :: vs => (putBack σ σ0 vs).set v (σ0.at v)
/-- the block's own slots hold nothing that is owned -/
def freeAt (σ : Sg) (v : Nat) : Bool := match σ.at v with
  | some (.own, _) => false
  | some (.ino, _) => false
  | _ => true
def lstAt (σ : Sg) (i : Nat) : Bool := match σ.at i with
  | some (.own, .lst _) => true
  | some (.ino, .lst _) => true
  | _ => false
def compGo (f : D → Sg → R (Option D × Sg)) : List D → Sg → List D → R (List D × Sg)
  | [], σ, acc => .ok (acc, σ)
  | d :: ds, σ, acc => do
    let (y, σ1) ← f d σ
    compGo f ds σ1 (match y with | some v => acc ++ [v] | none => acc)
/-- the instance that is asked has no field of that name -/
def noFld (σ : Sg) (m : Str) : Es → Bool
  | .cons (.var i) _ => (match σ.at i with
    | some (_, .obj _ fs) => (fs.lookup m).isNone
    | _ => false)
  | _ => false
def isVar : E → Bool
  | .var _ => true
  | _ => false
/-- places of lists and tuples, written -/
def pathE : E → Bool
  | .var _ => true
  | .idx x (.int _) => pathE x
  | _ => false
/-- a dict is walked where it lies shared in a slot or in a slot's instance, or at a place of what lies there -/
def slotE : E → Bool
  | .var _ => true
  | .fld (.var _) _ => true
  | .idx x (.int _) => pathE x
  | _ => false
def dctSrc : Es → List (Fl × D) → Bool
  | .cons e .nil, [(f, .dct _)] => f == .dat && slotE e
  | _, _ => true
def hiLo : List (Fl × D) → R (Option Int)
  | [] => .ok none
  | [(_, .int i)] => .ok (some i)
  | _ => .bad
def slD : Sl → R D
  | some (_, d) => .ok d
  | none => .bad
def isDct : D → Bool
  | .dct _ => true
  | _ => false
/-- d.get(k, z) -/
def getD : D → D → D → R D
  | .dct kvs, y, z => do let k ← ofO (keyD y); .ok ((valD kvs k).getD z)
  | _, _, _ => .bad
def uppD : D → R D
  | .str s => if decide (s.length ≤ 5592405) then .ok (.str (Txt.upper s)) else .bad
  | _ => .bad
/-- a list of ints of which a set is made -/
def setI : D → R (List Int)
  | .tup ds => do
    let ns ← ofO (intsD ds)
    if decide ((dedZ ns).length < 64) then .ok ns else .bad
  | .lst ds => do
    let ns ← ofO (intsD ds)
    if decide ((dedZ ns).length < 64) then .ok ns else .bad
  | _ => .bad
/-- is a new list anything -/
def truL : Fl × D → R Bool
  | (.own, .lst ds) => .ok (!ds.isEmpty)
  | (.dat, .lst ds) => .ok (!ds.isEmpty)
  | _ => .bad
/-- not lent -/
def rsl : Fl × D → R (Fl × D)
  | (.own, d) => .ok (.own, d)
  | (.dat, d) => .ok (.dat, d)
  | _ => .bad
def askD : Hv → Ex → R D
  | .con d, _ => .ok d
  | .fld f, e => (match e.f with
    | some (g, d) => if decide (g = f) then .ok d else .bad
    | none => .bad)
mutual
def ev (T : Tb) : E → Sg → R ((Fl × D) × Sg)
  | .non, σ => .ok ((.dat, .non), σ)
  | .bl b, σ => .ok ((.dat, .bl b), σ)
  | .int i, σ => .ok ((.dat, .int i), σ)
  | .str s, σ => .ok ((.dat, .str s), σ)
  | .var i, σ => match σ.at i with
    | some (.dat, d) => .ok ((.dat, d), σ)
    | some (_, d) => .ok ((.brw, d), σ)
    | none => .bad
  | .mov i, σ => match σ.at i with
    | some (.dat, d) => .ok ((.dat, d), σ)
    | some (.own, d) => .ok ((.own, d), σ.set i none)
    | _ => .bad
  | .frz i, σ => match σ.at i with
    | some (.dat, d) => .ok ((.dat, d), σ)
    | some (.own, d) => .ok ((.dat, d), σ.set i (some (.dat, d)))
    | _ => .bad
  | .io i, σ => match σ.at i with
    | some (.own, _) => .ok ((.ino, .non), σ)
    | some (.ino, _) => .ok ((.ino, .non), σ)
    | _ => .bad
  | .glb g, σ => .ok ((.dat, T.G g), σ)
  | .tup es, σ => do
    let (xs, σ1) ← evs T es σ
    let ds ← keeps xs
    guard (decide (ds.length ≤ 16777216))
    .ok ((.dat, .tup ds), σ1)
  | .lst es, σ => do
    let (xs, σ1) ← evs T es σ
    let ds ← keeps xs
    guard (decide (ds.length ≤ 16777216))
    .ok ((.own, .lst ds), σ1)
  | .dct ps, σ => do
    let (kvs, σ1) ← evK T ps σ
    guard (decide (kvs.length ≤ 15))
    .ok ((.own, .dct (mergeD [] kvs)), σ1)
  | .ite c x y, σ => do
    let (b, σ1) ← ev T c σ
    let b ← boolD b
    let (v, σ2) ← (if b then ev T x σ1 else ev T y σ1)
    guard (v.1 != .brw && v.1 != .ino)
    .ok (v, σ2)
  | .and es, σ => evAnd T es σ
  | .or es, σ => evOr T es σ
  | .not x, σ => do
    let (b, σ1) ← ev T x σ
    let b ← boolD b
    .ok ((.dat, .bl (!b)), σ1)
  | .bin o x y, σ => do
    let (v, σ1) ← ev T x σ
    guard (!(v.1 == .brw && imp y))
    let (w, σ2) ← ev T y σ1
    let v ← look v
    let w ← look w
    let r ← binD o v w
    .ok (r, σ2)
  | .neg x, σ => do
    let (v, σ1) ← ev T x σ
    match v.2 with
    | .int i => .ok ((.dat, .int (-i)), σ1)
    | _ => .bad
  | .cmp o x y, σ => do
    let (v, σ1) ← ev T x σ
    guard (!(v.1 == .brw && imp y))
    let (w, σ2) ← ev T y σ1
    let v ← look v
    let w ← look w
    let r ← cmpD o v w
    .ok ((.dat, .bl r), σ2)
  | .chn o p x y z, σ => do
    let (v, σ1) ← ev T x σ
    guard (!(v.1 == .brw && imp y))
    let (w, σ2) ← ev T y σ1
    guard (!(w.1 == .brw && imp z))
    let v ← look v
    let w ← look w
    let r ← cmpD o v w
    if r then do
      let (u, σ3) ← ev T z σ2
      let u ← look u
      let r ← cmpD p w u
      .ok ((.dat, .bl r), σ3)
    else .ok ((.dat, .bl false), σ2)
  | .idx x y, σ => do
    let (v, σ1) ← ev T x σ
    guard (!(v.1 == .brw && imp y))
    let (w, σ2) ← ev T y σ1
    let v ← look v
    let w ← look w
    let r ← idxD v w
    .ok ((.dat, r), σ2)
  | .slc x lo hi, σ => do
    let (v, σ1) ← ev T x σ
    guard (!(v.1 == .brw && (imps lo || imps hi)))
    let (l, σ2) ← evs T lo σ1
    let l ← hiLo l
    let (h, σ3) ← evs T hi σ2
    let h ← hiLo h
    let v ← look v
    let r ← slcD v l h
    .ok (r, σ3)
  | .rev x, σ => do
    let (v, σ1) ← ev T x σ
    match v.2 with
    | .lst ds => .ok ((.own, .lst ds.reverse), σ1)
    | .tup ds => .ok ((.dat, .tup ds.reverse), σ1)
    | _ => .bad
  | .fld x f, σ => do
    let (v, σ1) ← ev T x σ
    let d ← objF v.2 f
    match v.1 with
    | .brw => do
      guard (isVar x)
      .ok ((if isOdc d then .brw else .dat, nrmD d), σ1)
    | .ino => .bad
    | .own => .ok ((if isOdc d then .own else .dat, nrmD d), σ1)
    | .dat => .ok ((.dat, nrmD d), σ1)
  | .isi t x, σ => do
    let (v, σ1) ← ev T x σ
    let d ← look v
    let b ← ofO (isiD t d)
    .ok ((.dat, .bl b), σ1)
  | .upp x, σ => do
    let (v, σ1) ← ev T x σ
    let d ← look v
    let r ← uppD d
    .ok ((.dat, r), σ1)
  | .idv i y, σ => do
    guard (σ.at i).isSome
    let (w, σ1) ← ev T y σ
    let d ← slD (σ1.at i)
    let e ← look w
    let r ← idxD d e
    .ok ((.dat, r), σ1)
  | .get _ x y z, σ => do
    let (v, σ1) ← ev T x σ
    guard (!(v.1 == .brw && (imp y || imp z)))
    let d ← look v
    guard (isDct d)
    let (w, σ2) ← ev T y σ1
    guard (!(w.1 == .brw && imp z))
    let (u, σ3) ← ev T z σ2
    let e ← look w
    guard (u.1 == .dat)
    let r ← getD d e u.2
    .ok ((.dat, r), σ3)
  | .sset x, σ => do
    let (v, σ1) ← ev T x σ
    let d ← look v
    let ns ← setI d
    .ok ((.own, .lst ((sortZ (dedZ ns)).map .int)), σ1)
  | .lvs x, σ => do
    let (v, σ1) ← ev T x σ
    let d ← look v
    let r ← valsD d
    .ok ((.own, .lst r), σ1)
  | .shr x, σ => do
    let (v, σ1) ← ev T x σ
    let d ← keep v
    .ok ((.dat, d), σ1)
  | .lnt i x, σ => do
    guard (!(imp x))
    match σ.at i with
    | some (.own, d) => do
      let (r, _) ← ev T x (σ.set i (some (.dat, d)))
      guard (flatR r)
      .ok (r, σ)
    | _ => .bad
  | .srk x, σ => do
    let (v, σ1) ← ev T x σ
    let d ← look v
    let r ← srkD d
    .ok ((.own, .lst r), σ1)
  | .lrng es, σ => do
    let (xs, σ1) ← evs T es σ
    let ds ← looks xs
    let its ← wkD .rng ds
    .ok ((.own, .lst its), σ1)
  | .orl x y, σ => do
    let (v, σ1) ← ev T x σ
    let b ← truL v
    if b then .ok (v, σ1) else do
      let (w, σ2) ← ev T y σ1
      let r ← rsl w
      .ok (r, σ2)
  | .mtd m x es, σ => do
    let (v, σ1) ← ev T x σ
    guard (!(v.1 == .brw && imps es))
    let d ← look v
    guard (mtTy m d)
    let (xs, σ2) ← evs T es σ1
    let ds ← looks xs
    let r ← mtdD m d ds
    .ok (r, σ2)
  | .ask _ hs dn x, σ => do
    guard (!(imp x))
    match ev T x σ with
    | .ok _ => .ok ((.dat, dn), σ)
    | .exc e => (match hs.find? fun q => decide (q.1 = e.c) with
      | some q => (do let d ← askD q.2 e; .ok ((.dat, d), σ))
      | none => .bad)
    | .bad => .bad
  | .call f es, σ => do
    let (xs, σ1) ← evs T es σ
    guard (decide (iosE es).Nodup && decide (∀ i ∈ iosE es, i ∉ srcs es))
    let as ← fillA σ1 es xs
    let (r, outs) ← T.C f as
    let σ2 ← backA σ1 es outs
    .ok (r, σ2)
  | .mth m f es, σ => do
    guard (noFld σ m es)
    let (xs, σ1) ← evs T es σ
    guard (decide (iosE es).Nodup && decide (∀ i ∈ iosE es, i ∉ srcs es))
    let as ← fillA σ1 es xs
    let (r, outs) ← T.C f as
    let σ2 ← backA σ1 es outs
    .ok (r, σ2)
  | .mk c f es, σ => do
    let (xs, σ1) ← evs T es σ
    guard (iosE es).isEmpty
    let as ← fillA σ1 es xs
    let r ← T.I c f as
    .ok ((.own, r), σ1)
  | .bif b es, σ => do
    let (xs, σ1) ← evs T es σ
    let ds ← looks xs
    let r ← bifD b ds
    .ok (r, σ1)
  | .mut m i es, σ => do
    guard (lstAt σ i)
    let (xs, σ1) ← evs T es σ
    let ds ← keeps xs
    match σ1.at i with
    | some (.own, d) => do let (y, d') ← mutD m d ds; .ok ((.dat, y), σ1.set i (some (.own, d')))
    | some (.ino, d) => do let (y, d') ← mutD m d ds; .ok ((.dat, y), σ1.set i (some (.ino, d')))
    | _ => .bad
  | .comp w src tg cs x vs, σ => do
    let (xs, σ1) ← evs T src σ
    guard (dctSrc src xs && (vs.all (freeAt σ1) && !(xs.any (fun v => v.1 == .brw) && (imps cs || imp x))))
    let ds ← looks xs
    let its ← wkD w ds
    let (acc, σ2) ← calm (compGo (fun d τ => do
      let τ1 ← setT τ tg d
      let (b, τ2) ← evAnd T cs τ1
      let b ← boolD b
      if b then do
        let (v, τ3) ← ev T x τ2
        let v ← keep v
        .ok (some v, wipeD τ3 vs)
      else .ok (none, wipeD τ2 vs)) its (wipeD σ1 vs) [])
    .ok ((.own, .lst acc), putBack σ2 σ1 vs)
def evs (T : Tb) : Es → Sg → R (List (Fl × D) × Sg)
  | .nil, σ => .ok ([], σ)
  | .cons e r, σ => do
    let (v, σ1) ← ev T e σ
    guard (!(v.1 == .brw && imps r))
    let (vs, σ2) ← evs T r σ1
    .ok (v :: vs, σ2)
def evK (T : Tb) : Es → Sg → R (List (L2.Key × D) × Sg)
  | .nil, σ => .ok ([], σ)
  | .cons _ .nil, _ => .bad
  | .cons e (.cons f r), σ => do
    let (x, σ1) ← ev T e σ
    let (y, σ2) ← ev T f σ1
    guard (x.1 == .dat)
    let k ← ofO (keyD x.2)
    let d ← keep y
    let (kvs, σ3) ← evK T r σ2
    .ok ((k, d) :: kvs, σ3)
def evAnd (T : Tb) : Es → Sg → R ((Fl × D) × Sg)
  | .nil, σ => .ok ((.dat, .bl true), σ)
  | .cons e r, σ => do
    let (b, σ1) ← ev T e σ
    let b ← boolD b
    if b then evAnd T r σ1 else .ok ((.dat, .bl false), σ1)
def evOr (T : Tb) : Es → Sg → R ((Fl × D) × Sg)
  | .nil, σ => .ok ((.dat, .bl false), σ)
  | .cons e r, σ => do
    let (b, σ1) ← ev T e σ
    let b ← boolD b
    if b then .ok ((.dat, .bl true), σ1) else evOr T r σ1
end
end DD
namespace DD
open L2 PyProof.Rows PySem PySem.Spec
abbrev AS := Addr → Prop
abbrev noA : AS := fun _ => False
def TupAt (K : PySem.W.Frag) (A : AS) (H : Hp) (a : Addr) (xs : List V) : Prop :=
  (Rd H a (.tup xs) ∧ ¬ A a) ∨
    ∃ (o : Obj) (its : Array Value) (n : Nat), K.lookup a = some o ∧ o.cls = .type "tuple" ∧ o.data = .seq its n ∧ its.size ≤ sizeLine ∧ Vals xs its.toList
def DctAt (K : PySem.W.Frag) (A : AS) (H : Hp) (a : Addr) (ks : List (Key × V)) : Prop := Rd H a (.dK ks) ∧ ¬ A a
def ScrAt (K : PySem.W.Frag) (A : AS) (H : Hp) (a : Addr) (ns : List Int) : Prop :=
  (Rd H a (.lst (ns.map V.int)) ∧ ¬ A a) ∨
    ∃ (o : Obj) (its : Array Value) (n : Nat), K.lookup a = some o ∧ o.cls = .type "list" ∧ o.dict = none ∧ o.data = .seq its n ∧ its.size ≤ sizeLine ∧ Vals (ns.map V.int) its.toList
section
variable (K : PySem.W.Frag) (cl : Nat → Addr) (A : AS) (H : Hp)
mutual
/-- v is the datum d; no cell of it lies in A -/
inductive Rep : D → V → Prop
  | non : Rep .non .non
  | bl (b : Bool) : Rep (.bl b) (.bl b)
  | int (i : Int) : Rep (.int i) (.int i)
  | str (s : Str) : Rep (.str s) (.str s)
  | tup {ds : List D} {a : Addr} {vs : List V} : TupAt K A H a vs → Reps ds vs → ds.length ≤ 16777216 → Rep (.tup ds) (.ref a)
  | lst {ds : List D} {a : Addr} {vs : List V} : H a = some (.lst vs) → ¬ A a → Reps ds vs → ds.length ≤ 16777216 → Rep (.lst ds) (.ref a)
  | dct {kvs : List (Key × D)} {a : Addr} {ks : List (Key × V)} : DctAt K A H a ks → RepK kvs ks → kvs.length ≤ 16777216 → Rep (.dct kvs) (.ref a)
  | obj {c : Nat} {fs : List (Str × D)} {a dx : Addr} {gs : List (Str × V)} : H a = some (.ins (cl c) dx gs) → ¬ A a → RepF fs gs → Rep (.obj c fs) (.ref a)
  | scr {ns : List Int} {a : Addr} : ScrAt K A H a ns → Rep (.scr ns) (.ref a)
inductive Reps : List D → List V → Prop
  | nil : Reps [] []
  | cons {d : D} {v : V} {ds : List D} {vs : List V} : Rep d v → Reps ds vs → Reps (d :: ds) (v :: vs)
inductive RepK : List (Key × D) → List (Key × V) → Prop
  | nil : RepK [] []
  | cons {k : Key} {d : D} {v : V} {ds : List (Key × D)} {vs : List (Key × V)} : Rep d v → RepK ds vs → RepK ((k, d) :: ds) ((k, v) :: vs)
inductive RepF : List (Str × D) → List (Str × V) → Prop
  | nil : RepF [] []
  | cons {k : Str} {d : D} {v : V} {ds : List (Str × D)} {vs : List (Str × V)} : Rep d v → RepF ds vs → RepF ((k, d) :: ds) ((k, v) :: vs)
  | odc {k : Str} {kvs : List (Key × D)} {a : Addr} {ks : List (Key × V)} {ds : List (Str × D)} {vs : List (Str × V)} : DctAt K A H a ks → RepK kvs ks → kvs.length ≤ 16777216 → RepF ds vs → RepF ((k, .odc kvs) :: ds) ((k, .ref a) :: vs)
end
end
/-- the tables of code objects: where, and which name each of their code objects bears -/
class TabT where
  T : List (Addr × Str)
/-- no table of code objects -/
def NT (o : HO) : Prop := ∀ ps, o ≠ .tbl ps
variable [TabT]
def TabsK (H : Hp) : Prop := LamX.Tabs TabT.T H
/-- what stood outside of O stands, but tables, which may have grown -/
structure Fr (H : Hp) (O : AS) (H' : Hp) : Prop where
  keep : ∀ b o, H b = some o → NT o → ¬ O b → H' b = some o
  there : ∀ b, H b ≠ none → ¬ O b → H' b ≠ none
  tabs : TabsK H → TabsK H'
structure Ext (H H' : Hp) : Prop where
  keep : ∀ b o, H b = some o → NT o → H' b = some o
  there : ∀ b, H b ≠ none → H' b ≠ none
  tabs : TabsK H → TabsK H'
theorem nt_lst {vs : List V} : NT (.lst vs) := fun _ z => nomatch z
theorem nt_dK {vs : List (Key × V)} : NT (.dK vs) := fun _ z => nomatch z
theorem nt_tup {vs : List V} : NT (.tup vs) := fun _ z => nomatch z
theorem nt_frz {o : Obj} {u : HO} : NT (.frz o u) := fun _ z => nomatch z
theorem nt_ins {c d : Addr} {gs : List (Str × V)} : NT (.ins c d gs) := fun _ z => nomatch z
theorem nt_xd {gs : List (Str × V)} : NT (.xd gs) := fun _ z => nomatch z
theorem Fr.refl (H : Hp) (O : AS) : Fr H O H := ⟨fun _ _ h _ _ => h, fun _ h _ => h, id⟩
theorem Fr.of {H H' : Hp} {O : AS} (e : Ext H H') : Fr H O H' := ⟨fun b o h n _ => e.keep b o h n, fun b h _ => e.there b h, e.tabs⟩
theorem Fr.ext {H H' : Hp} (e : Fr H noA H') : Ext H H' := ⟨fun b o h n => e.keep b o h n id, fun b h => e.there b h id, e.tabs⟩
theorem Fr.trans {H H1 H2 : Hp} {O O1 : AS} (a : Fr H O H1) (b : Fr H1 O1 H2) (s : ∀ x, O1 x → O x ∨ H x = none) : Fr H O H2 := by
  refine ⟨fun c o h nt n => b.keep c o (a.keep c o h nt n) nt fun z => ?_, fun c h n => b.there c (a.there c h n) fun z => (s c z).elim n h, fun z => b.tabs (a.tabs z)⟩
  rcases s c z with z | z
  · exact n z
  · rw [h] at z; cases z
theorem Fr.mono {H H1 : Hp} {O O1 : AS} (a : Fr H O H1) (s : ∀ x, O x → O1 x) : Fr H O1 H1 := ⟨fun c o h nt n => a.keep c o h nt fun z => n (s c z), fun c h n => a.there c h fun z => n (s c z), a.tabs⟩
theorem Ext.refl (H : Hp) : Ext H H := ⟨fun _ _ h _ => h, fun _ h => h, id⟩
theorem Ext.trans {H H1 H2 : Hp} (a : Ext H H1) (b : Ext H1 H2) : Ext H H2 := ⟨fun c o h n => b.keep c o (a.keep c o h n) n, fun c h => b.there c (a.there c h), fun z => b.tabs (a.tabs z)⟩
/-- nothing at all is changed -/
theorem Ext.full {H H' : Hp} (e : ∀ b o, H b = some o → H' b = some o) : Ext H H' := ⟨fun b o h _ => e b o h, fun b h => (by
  cases q : H b with
  | none => exact absurd q h
  | some o => rw [e b o q]; exact fun z => nomatch z), fun t => LamX.Tabs.ext t e⟩
theorem Ext.new {H : Hp} {p : Addr} {o : HO} (h : H p = none) : Ext H (upd H p o) := .full fun b x e => by
  rw [upd_ne (ne_of_none e h)]; exact e
theorem Fr.back {H H' : Hp} {O : AS} (e : Fr H O H') {p : Addr} (n : ¬ O p) (h : H' p = none) : H p = none := by
  cases q : H p with
  | none => rfl
  | some o => exact absurd h (e.there p (by rw [q]; exact fun z => nomatch z) n)
theorem Ext.back {H H' : Hp} (e : Ext H H') {p : Addr} (h : H' p = none) : H p = none := Fr.back (Fr.of (O := noA) e) id h
/-- a cell that is no table, no code object may be written -/
theorem tabs_upd {H : Hp} {a : Addr} {o o' : HO} (e : H a = some o) (nt : NT o) (nx : ∀ f, o ≠ HO.ext f) (t : TabsK H) : TabsK (upd H a o') := fun p hp => by
  obtain ⟨ps, h1, h2, h3⟩ := t p hp
  have n1 : p.1 ≠ a := fun z => by
    rw [z, e] at h1
    exact nt ps (Option.some.inj h1)
  refine ⟨ps, by rw [upd_ne n1]; exact h1, h2, fun pos cv hc => ?_⟩
  obtain ⟨c, e1, e2⟩ := h3 pos cv hc
  have n2 : c ≠ a := fun z => by
    rw [z, e] at e2
    exact nx _ (Option.some.inj e2)
  exact ⟨c, e1, by rw [upd_ne n2]; exact e2⟩
theorem there_upd {H : Hp} {a b : Addr} {o : HO} (h : H b ≠ none) : upd H a o b ≠ none := by
  by_cases z : b = a
  · rw [z, upd_same]; exact fun q => nomatch q
  · rw [upd_ne z]; exact h
theorem Fr.upd {H H1 : Hp} {O : AS} (f : Fr H O H1) {p : Addr} {o o' : HO} (e : H1 p = some o) (nt : NT o) (nx : ∀ f, o ≠ HO.ext f) (n : ∀ u, H p = some u → O p) : Fr H O (upd H1 p o') :=
  ⟨fun b u hb nu nb => by rw [upd_ne (fun z => nb (by rw [z]; exact n u (by rw [← z]; exact hb)))]; exact f.keep b u hb nu nb, fun b h nb => there_upd (f.there b h nb), fun t => tabs_upd e nt nx (f.tabs t)⟩
theorem Ext.upd {H H1 : Hp} (f : Ext H H1) {p : Addr} {o o' : HO} (e : H1 p = some o) (nt : NT o) (nx : ∀ f, o ≠ HO.ext f) (n : H p = none) : Ext H (upd H1 p o') :=
  ⟨fun b u hb nu => by rw [upd_ne (ne_of_none hb n)]; exact f.keep b u hb nu, fun b h => there_upd (f.there b h), fun t => tabs_upd e nt nx (f.tabs t)⟩
theorem nx_lst {vs : List V} : ∀ f, HO.lst vs ≠ HO.ext f := fun _ z => nomatch z
theorem nx_dK {vs : List (Key × V)} : ∀ f, HO.dK vs ≠ HO.ext f := fun _ z => nomatch z
theorem fr_rd {H H' : Hp} {O : AS} {a : Addr} {u : HO} (e : Fr H O H') (nt : NT u) (n : ¬ O a) (h : Rd H a u) : Rd H' a u := by
  rcases h with h | ⟨o, h⟩
  · exact .inl (e.keep a _ h nt n)
  · exact .inr ⟨o, e.keep a _ h nt_frz n⟩
theorem rd_there {H : Hp} {a : Addr} {u : HO} (h : Rd H a u) : H a ≠ none := by
  rcases h with h | ⟨o, h⟩ <;> rw [h] <;> exact fun z => nomatch z
section
variable {K : PySem.W.Frag} {cl : Nat → Addr} {A A' O : AS} {H H' : Hp}
/-- the passage from A, H to A', H' -/
structure Mv (A : AS) (H : Hp) (A' : AS) (H' : Hp) : Prop where
  fr : ∀ b o, H b = some o → NT o → ¬ A b → H' b = some o
  av : ∀ a, A' a → A a ∨ H a = none
theorem Mv.of (f : Fr H O H') (s : ∀ a, O a → A a) (v : ∀ a, A' a → A a ∨ H a = none) : Mv A H A' H' := ⟨fun b o h nt n => f.keep b o h nt fun z => n (s b z), v⟩
theorem Mv.refl : Mv A H A H := ⟨fun _ _ h _ _ => h, fun _ h => .inl h⟩
theorem Mv.ext (e : Ext H H') : Mv A H A H' := ⟨fun b o h nt _ => e.keep b o h nt, fun _ h => .inl h⟩
theorem Mv.less (s : ∀ a, A' a → A a) : Mv A H A' H := ⟨fun _ _ h _ _ => h, fun a h => .inl (s a h)⟩
theorem TupAt.mv {a : Addr} {xs : List V} (m : Mv A H A' H') (h : TupAt K A H a xs) : TupAt K A' H' a xs := by
  rcases h with ⟨h, n⟩ | h
  · refine .inl ⟨?_, fun z => (m.av a z).elim n (rd_there h)⟩
    rcases h with h | ⟨o, h⟩
    · exact .inl (m.fr a _ h (fun _ z => nomatch z) n)
    · exact .inr ⟨o, m.fr a _ h nt_frz n⟩
  · exact .inr h
theorem DctAt.mv {a : Addr} {ks : List (Key × V)} (m : Mv A H A' H') (h : DctAt K A H a ks) : DctAt K A' H' a ks := by
  obtain ⟨h, n⟩ := h
  refine ⟨?_, fun z => (m.av a z).elim n (rd_there h)⟩
  rcases h with h | ⟨o, h⟩
  · exact .inl (m.fr a _ h (fun _ z => nomatch z) n)
  · exact .inr ⟨o, m.fr a _ h nt_frz n⟩
theorem ScrAt.mv {a : Addr} {ns : List Int} (m : Mv A H A' H') (h : ScrAt K A H a ns) : ScrAt K A' H' a ns := by
  rcases h with ⟨h, n⟩ | h
  · refine .inl ⟨?_, fun z => (m.av a z).elim n (rd_there h)⟩
    rcases h with h | ⟨o, h⟩
    · exact .inl (m.fr a _ h (fun _ z => nomatch z) n)
    · exact .inr ⟨o, m.fr a _ h nt_frz n⟩
  · exact .inr h
theorem at_mv {a : Addr} {o : HO} (m : Mv A H A' H') (h : H a = some o) (nt : NT o) (n : ¬ A a) : H' a = some o ∧ ¬ A' a :=
  ⟨m.fr a _ h nt n, fun z => (m.av a z).elim n (by rw [h]; exact fun q => nomatch q)⟩
mutual
theorem Rep.mv (m : Mv A H A' H') : ∀ {d : D} {v : V}, Rep K cl A H d v → Rep K cl A' H' d v
  | _, _, .non => .non
  | _, _, .bl b => .bl b
  | _, _, .int i => .int i
  | _, _, .str s => .str s
  | _, _, .tup t r l => .tup (t.mv m) (Reps.mv m r) l
  | _, _, .lst h n r l => .lst (at_mv m h nt_lst n).1 (at_mv m h nt_lst n).2 (Reps.mv m r) l
  | _, _, .dct t r l => .dct (t.mv m) (RepK.mv m r) l
  | _, _, .obj h n r => .obj (at_mv m h nt_ins n).1 (at_mv m h nt_ins n).2 (RepF.mv m r)
  | _, _, .scr t => .scr (t.mv m)
theorem Reps.mv (m : Mv A H A' H') : ∀ {ds : List D} {vs : List V}, Reps K cl A H ds vs → Reps K cl A' H' ds vs
  | _, _, .nil => .nil
  | _, _, .cons h r => .cons (Rep.mv m h) (Reps.mv m r)
theorem RepK.mv (m : Mv A H A' H') : ∀ {ds : List (Key × D)} {vs : List (Key × V)}, RepK K cl A H ds vs → RepK K cl A' H' ds vs
  | _, _, .nil => .nil
  | _, _, .cons h r => .cons (Rep.mv m h) (RepK.mv m r)
theorem RepF.mv (m : Mv A H A' H') : ∀ {ds : List (Str × D)} {vs : List (Str × V)}, RepF K cl A H ds vs → RepF K cl A' H' ds vs
  | _, _, .nil => .nil
  | _, _, .cons h r => .cons (Rep.mv m h) (RepF.mv m r)
  | _, _, .odc t r l q => .odc (t.mv m) (RepK.mv m r) l (RepF.mv m q)
end
theorem Reps.length : ∀ {ds : List D} {vs : List V}, Reps K cl A H ds vs → ds.length = vs.length
  | _, _, .nil => rfl
  | _, _, .cons _ r => congrArg (· + 1) r.length
theorem RepK.length : ∀ {ds : List (Key × D)} {vs : List (Key × V)}, RepK K cl A H ds vs → ds.length = vs.length
  | _, _, .nil => rfl
  | _, _, .cons _ r => congrArg (· + 1) r.length
theorem Reps.get : ∀ {ds : List D} {vs : List V} {i : Nat} {d : D}, Reps K cl A H ds vs → ds[i]? = some d → ∃ v, vs[i]? = some v ∧ Rep K cl A H d v
  | _, _, _, _, .nil, e => by simp at e
  | _, _, 0, _, .cons h r, e => by simp at e; subst e; exact ⟨_, rfl, h⟩
  | _, _, i + 1, _, .cons h r, e => by
    obtain ⟨v, e1, h1⟩ := Reps.get (i := i) r (by simpa using e)
    exact ⟨v, by simpa using e1, h1⟩
theorem Reps.getV {ds : List D} {vs : List V} {i : Nat} {v : V} (r : Reps K cl A H ds vs) (e : vs[i]? = some v) : ∃ d, ds[i]? = some d ∧ Rep K cl A H d v := by
  have hi : i < ds.length := by
    rw [r.length]
    exact (List.getElem?_eq_some_iff.mp e).1
  obtain ⟨w, e1, h⟩ := r.get (List.getElem?_eq_getElem hi)
  rw [e] at e1; cases e1
  exact ⟨_, List.getElem?_eq_getElem hi, h⟩
theorem Reps.append : ∀ {ds es : List D} {vs ws : List V}, Reps K cl A H ds vs → Reps K cl A H es ws → Reps K cl A H (ds ++ es) (vs ++ ws)
  | _, _, _, _, .nil, s => s
  | _, _, _, _, .cons h r, s => .cons h (Reps.append r s)
theorem Reps.set {d : D} {v : V} (h : Rep K cl A H d v) : ∀ {ds : List D} {vs : List V} (i : Nat), Reps K cl A H ds vs → Reps K cl A H (ds.set i d) (vs.set i v)
  | _, _, _, .nil => .nil
  | _, _, 0, .cons _ r => .cons h r
  | _, _, i + 1, .cons g r => .cons g (Reps.set h i r)
theorem Reps.take : ∀ {ds : List D} {vs : List V} (n : Nat), Reps K cl A H ds vs → Reps K cl A H (ds.take n) (vs.take n)
  | _, _, 0, _ => .nil
  | _, _, _ + 1, .nil => .nil
  | _, _, n + 1, .cons h r => .cons h (Reps.take n r)
theorem Reps.drop : ∀ {ds : List D} {vs : List V} (n : Nat), Reps K cl A H ds vs → Reps K cl A H (ds.drop n) (vs.drop n)
  | _, _, 0, r => r
  | _, _, _ + 1, .nil => .nil
  | _, _, n + 1, .cons h r => Reps.drop n r
theorem Reps.snoc {ds : List D} {vs : List V} {d : D} {v : V} (r : Reps K cl A H ds vs) (h : Rep K cl A H d v) : Reps K cl A H (ds ++ [d]) (vs ++ [v]) := r.append (.cons h .nil)
theorem Reps.rev {ds : List D} {vs : List V} (r : Reps K cl A H ds vs) : Reps K cl A H ds.reverse vs.reverse := by
  induction ds generalizing vs with
  | nil => cases r; exact .nil
  | cons d ds ih =>
    cases r with
    | cons h r =>
      rw [List.reverse_cons, List.reverse_cons]
      exact (ih r).snoc h
theorem Reps.erase : ∀ {ds : List D} {vs : List V} (n : Nat), Reps K cl A H ds vs → Reps K cl A H (ds.eraseIdx n) (vs.eraseIdx n)
  | _, _, _, .nil => .nil
  | _, _, 0, .cons _ r => r
  | _, _, n + 1, .cons h r => .cons h (Reps.erase n r)
theorem Reps.ints : ∀ {ns : List Int}, Reps K cl A H (ns.map .int) (ns.map V.int)
  | [] => .nil
  | i :: r => .cons (.int i) Reps.ints
theorem Reps.ofInts : ∀ {ds : List D} {ns : List Int} {vs : List V}, intsD ds = some ns → Reps K cl A H ds vs → vs = ns.map V.int
  | [], ns, _, e, .nil => by cases e; rfl
  | d :: ds, ns, _, e, .cons h r => by
    cases d with
    | int i =>
      have e : (intsD ds).map (i :: ·) = some ns := e
      cases q : intsD ds with
      | none => rw [q] at e; cases e
      | some ms =>
        rw [q] at e; cases e
        cases h
        rw [Reps.ofInts q r]; rfl
    | _ => cases e
theorem Reps.ofBls : ∀ {ds : List D} {ns : List Bool} {vs : List V}, blsD ds = some ns → Reps K cl A H ds vs → vs = ns.map V.bl
  | [], ns, _, e, .nil => by cases e; rfl
  | d :: ds, ns, _, e, .cons h r => by
    cases d with
    | bl i =>
      have e : (blsD ds).map (i :: ·) = some ns := e
      cases q : blsD ds with
      | none => rw [q] at e; cases e
      | some ms =>
        rw [q] at e; cases e
        cases h
        rw [Reps.ofBls q r]; rfl
    | _ => cases e
variable (K cl) in
/-- the fields of an instance that is owned: its dicts are owned too -/
inductive CellF (A : AS) (H : Hp) : List (Str × D) → List (Str × V) → List Addr → Prop
  | nil : CellF A H [] [] []
  | dat {k : Str} {d : D} {v : V} {fs : List (Str × D)} {gs : List (Str × V)} {fr : List Addr} : Rep K cl A H d v → CellF A H fs gs fr → CellF A H ((k, d) :: fs) ((k, v) :: gs) fr
  | own {k : Str} {kvs : List (Key × D)} {a : Addr} {ks : List (Key × V)} {fs : List (Str × D)} {gs : List (Str × V)} {fr : List Addr} : H a = some (.dK ks) → RepK K cl A H kvs ks → kvs.length ≤ 16777216 → a ∉ fr → CellF A H fs gs fr →
      CellF A H ((k, .odc kvs) :: fs) ((k, .ref a) :: gs) (a :: fr)
theorem CellF.there {fs : List (Str × D)} {gs : List (Str × V)} {fr : List Addr} (h : CellF K cl A H fs gs fr) : ∀ a ∈ fr, H a ≠ none := by
  induction h with
  | nil => exact fun _ z => nomatch z
  | dat _ _ ih => exact ih
  | own h _ _ _ _ ih =>
    intro b hb
    rcases List.mem_cons.mp hb with e | hb
    · rw [e, h]; exact fun z => nomatch z
    · exact ih b hb
theorem CellF.rep {fs : List (Str × D)} {gs : List (Str × V)} {fr : List Addr} (h : CellF K cl A H fs gs fr) (m : Mv A H A' H) (n : ∀ a ∈ fr, ¬ A' a) : RepF K cl A' H fs gs := by
  induction h with
  | nil => exact .nil
  | dat r _ ih => exact .cons (r.mv m) (ih n)
  | own h r l _ _ ih => exact .odc ⟨.inl h, n _ List.mem_cons_self⟩ (r.mv m) l (ih fun a ha => n a (List.mem_cons_of_mem _ ha))
theorem CellF.mv {fs : List (Str × D)} {gs : List (Str × V)} {fr : List Addr} (h : CellF K cl A H fs gs fr) (m : Mv A H A' H') (n : ∀ a ∈ fr, ∀ o, H a = some o → NT o → H' a = some o) : CellF K cl A' H' fs gs fr := by
  induction h with
  | nil => exact .nil
  | dat r _ ih => exact .dat (r.mv m) (ih n)
  | own h r l z _ ih => exact .own (n _ List.mem_cons_self _ h nt_dK) (r.mv m) l z (ih fun a ha => n a (List.mem_cons_of_mem _ ha))
variable (K cl) in
/-- d lies at v, its own cells are fr, what is in them avoids A -/
inductive Cell (A : AS) (H : Hp) : D → V → List Addr → Prop
  | lst {ds : List D} {a : Addr} {vs : List V} : H a = some (.lst vs) → Reps K cl A H ds vs → ds.length ≤ 16777216 → Cell A H (.lst ds) (.ref a) [a]
  | dct {kvs : List (Key × D)} {a : Addr} {ks : List (Key × V)} : H a = some (.dK ks) → RepK K cl A H kvs ks → kvs.length ≤ 16777216 → Cell A H (.dct kvs) (.ref a) [a]
  | obj {c : Nat} {fs : List (Str × D)} {a dx : Addr} {gs : List (Str × V)} {fr : List Addr} : H a = some (.ins (cl c) dx gs) → CellF K cl A H fs gs fr → a ∉ fr → Cell A H (.obj c fs) (.ref a) (a :: fr)
variable (K cl) in
/-- d is read at v: its first cell anywhere, what is in it avoids A -/
inductive Lk (A : AS) (H : Hp) : D → V → Prop
  | non : Lk A H .non .non
  | bl (b : Bool) : Lk A H (.bl b) (.bl b)
  | int (i : Int) : Lk A H (.int i) (.int i)
  | str (s : Str) : Lk A H (.str s) (.str s)
  | tup {ds : List D} {a : Addr} {vs : List V} : TupAt K A H a vs → Reps K cl A H ds vs → ds.length ≤ 16777216 → Lk A H (.tup ds) (.ref a)
  | lst {ds : List D} {a : Addr} {vs : List V} : H a = some (.lst vs) → Reps K cl A H ds vs → ds.length ≤ 16777216 → Lk A H (.lst ds) (.ref a)
  | dct {kvs : List (Key × D)} {a : Addr} {ks : List (Key × V)} : Rd H a (.dK ks) → RepK K cl A H kvs ks → kvs.length ≤ 16777216 → Lk A H (.dct kvs) (.ref a)
  | obj {c : Nat} {fs : List (Str × D)} {a dx : Addr} {gs : List (Str × V)} : H a = some (.ins (cl c) dx gs) → Lk A H (.obj c fs) (.ref a)
  | scr {ns : List Int} {a : Addr} : ScrAt K A H a ns → Lk A H (.scr ns) (.ref a)
theorem Rep.lk {d : D} {v : V} (h : Rep K cl A H d v) : Lk K cl A H d v := by
  cases h with
  | non => exact .non
  | bl b => exact .bl b
  | int i => exact .int i
  | str s => exact .str s
  | tup t r l => exact .tup t r l
  | lst h n r l => exact .lst h r l
  | dct t r l => exact .dct t.1 r l
  | obj h n r => exact .obj h
  | scr t => exact .scr t
theorem Cell.lk {d : D} {v : V} {fr : List Addr} (h : Cell K cl A H d v fr) : Lk K cl A H d v := by
  cases h with
  | lst h r l => exact .lst h r l
  | dct h r l => exact .dct (.inl h) r l
  | obj h _ _ => exact .obj h
theorem Cell.there {d : D} {v : V} {fr : List Addr} (h : Cell K cl A H d v fr) : ∀ a ∈ fr, H a ≠ none := by
  intro b hb
  cases h with
  | lst h r l =>
    cases List.mem_singleton.mp hb
    rw [h]; exact fun z => nomatch z
  | dct h r l =>
    cases List.mem_singleton.mp hb
    rw [h]; exact fun z => nomatch z
  | obj h q _ =>
    rcases List.mem_cons.mp hb with e | hb
    · rw [e, h]; exact fun z => nomatch z
    · exact q.there b hb
/-- given up: shared from now on -/
theorem Cell.rep {d : D} {v : V} {fr : List Addr} (h : Cell K cl A H d v fr) (m : Mv A H A' H) (n : ∀ a ∈ fr, ¬ A' a) : Rep K cl A' H d v := by
  cases h with
  | lst h r l => exact .lst h (n _ (List.mem_singleton.mpr rfl)) (r.mv m) l
  | dct h r l => exact .dct ⟨.inl h, n _ (List.mem_singleton.mpr rfl)⟩ (r.mv m) l
  | obj h q _ => exact .obj h (n _ List.mem_cons_self) (q.rep m fun a ha => n a (List.mem_cons_of_mem _ ha))
theorem Cell.mv {d : D} {v : V} {fr : List Addr} (h : Cell K cl A H d v fr) (m : Mv A H A' H') (n : ∀ a ∈ fr, ∀ o, H a = some o → NT o → H' a = some o) : Cell K cl A' H' d v fr := by
  cases h with
  | lst h r l => exact .lst (n _ (List.mem_singleton.mpr rfl) _ h nt_lst) (r.mv m) l
  | dct h r l => exact .dct (n _ (List.mem_singleton.mpr rfl) _ h nt_dK) (r.mv m) l
  | obj h q z => exact .obj (n _ List.mem_cons_self _ h nt_ins) (q.mv m fun a ha => n a (List.mem_cons_of_mem _ ha)) z
variable (K cl) in
/-- a result: shared, or new (its cells in Z) and owned by nobody yet -/
def Rs (Z A : AS) (H : Hp) : Fl × D → V → Prop
  | (.dat, d), v => Rep K cl A H d v
  | (.own, d), v => ∃ fr, Cell K cl (fun a => A a ∨ a ∈ fr) H d v fr ∧ (∀ a ∈ fr, ¬ A a) ∧ ∀ a ∈ fr, Z a
  | _, _ => False
variable {Z Z' : AS}
theorem Rs.rep {x : Fl × D} {v : V} (h : Rs K cl Z A H x v) : Rep K cl A H x.2 v := by
  obtain ⟨f, d⟩ := x
  cases f with
  | dat => exact h
  | own =>
    obtain ⟨fr, c, n, _⟩ := h
    exact c.rep (Mv.less fun a z => .inl z) n
  | ino => exact h.elim
  | brw => exact h.elim
theorem Rs.mv {x : Fl × D} {v : V} (h : Rs K cl Z A H x v) (m : Mv A H A' H') : Rs K cl Z A' H' x v := by
  obtain ⟨f, d⟩ := x
  cases f with
  | dat => exact Rep.mv m h
  | own =>
    obtain ⟨fr, c, n, nz⟩ := h
    have t := c.there
    have n' : ∀ a ∈ fr, ¬ A' a := fun a ha z => (m.av a z).elim (n a ha) (t a ha)
    refine ⟨fr, ?_, n', nz⟩
    -- its own cells stand, what is in them avoids A and fr
    refine c.mv ⟨fun b o hb nt nb => m.fr b o hb nt fun z => nb (.inl z), fun a z => ?_⟩ fun a ha o e nt => m.fr a o e nt (n a ha)
    rcases z with z | z
    · rcases m.av a z with y | y
      · exact .inl (.inl y)
      · exact .inr y
    · exact .inl (.inr z)
  | ino => exact h.elim
  | brw => exact h.elim
theorem Rs.z {x : Fl × D} {v : V} (h : Rs K cl Z A H x v) (i : ∀ a, Z a → Z' a) : Rs K cl Z' A H x v := by
  obtain ⟨f, d⟩ := x
  cases f with
  | dat => exact h
  | own =>
    obtain ⟨fr, c, n, nz⟩ := h
    exact ⟨fr, c, n, fun a ha => i a (nz a ha)⟩
  | ino => exact h.elim
  | brw => exact h.elim
/-- a new list -/
theorem Rs.newL {ds : List D} {vs : List V} {p : Addr} (n : H p = none) (t : ∀ a, A a → H a ≠ none) (r : Reps K cl A H ds vs) (l : ds.length ≤ 16777216) : Rs K cl (fun a => H a = none) A (upd H p (.lst vs)) (.own, .lst ds) (.ref p) := by
  have np : ¬ A p := fun z => t p z n
  have e := Ext.new (o := HO.lst vs) n
  refine ⟨[p], .lst upd_same (r.mv ⟨fun b o h nt _ => e.keep b o h nt, fun a z => ?_⟩) l, fun a h => by cases List.mem_singleton.mp h; exact np, fun a h => by cases List.mem_singleton.mp h; exact n⟩
  rcases z with z | z
  · exact .inl z
  · cases List.mem_singleton.mp z; exact .inr n
theorem Rs.newD {ds : List (Key × D)} {vs : List (Key × V)} {p : Addr} (n : H p = none) (t : ∀ a, A a → H a ≠ none) (r : RepK K cl A H ds vs) (l : ds.length ≤ 16777216) : Rs K cl (fun a => H a = none) A (upd H p (.dK vs)) (.own, .dct ds) (.ref p) := by
  have np : ¬ A p := fun z => t p z n
  have e := Ext.new (o := HO.dK vs) n
  refine ⟨[p], .dct upd_same (r.mv ⟨fun b o h nt _ => e.keep b o h nt, fun a z => ?_⟩) l, fun a h => by cases List.mem_singleton.mp h; exact np, fun a h => by cases List.mem_singleton.mp h; exact n⟩
  rcases z with z | z
  · exact .inl z
  · cases List.mem_singleton.mp z; exact .inr n
theorem Rs.newT {ds : List D} {vs : List V} {p : Addr} (n : H p = none) (t : ∀ a, A a → H a ≠ none) (r : Reps K cl A H ds vs) (l : ds.length ≤ 16777216) : Rs K cl Z A (upd H p (.tup vs)) (.dat, .tup ds) (.ref p) := by
  have e := Ext.new (o := HO.tup vs) n
  exact Rep.tup (.inl ⟨.inl upd_same, fun z => t p z n⟩) (r.mv (Mv.ext e)) l
theorem TupAt.sq {a : Addr} {xs : List V} (h : TupAt K A H a xs) : SqT K H a xs := by
  rcases h with h | h
  · exact .inl h.1
  · exact .inr h
theorem ScrAt.sq {a : Addr} {ns : List Int} (h : ScrAt K A H a ns) : SqL K H a (ns.map V.int) := by
  rcases h with h | h
  · exact .inl h.1
  · exact .inr h
end
end DD
namespace DD
open PySem PySem.Calls PyProof.Rows PySem.W
variable [TabT]
section
variable {prog : Program} {w : World} {s : Shared}
/-- x's items are vs, whoever asks -/
def Coll (prog : Program) (w : World) (s : Shared) (x : Value) (vs : List Value) : Prop := ∀ (B : Around) (E : Value → Shared → Prop) (R : List Value → Shared → Prop),
  R vs { s with heap := (s.heap.push (seqObj "list" #[] 0)).update s.heap.objs.size (Obj.mapSeq (· ++ vs.toArray)) } → wpAny (model prog w) B (collect x) R E s
theorem coll_list {l : Addr} {vs : List Value} (hl : s.heap.IsList l vs.toArray) (hz : vs.length ≤ sizeLine) : Coll prog w s (.ref l) vs := fun B E R h => collect_list hl h hz
theorem coll_tup {t : Addr} {vs : List Value} (ht : IsTup s.heap t vs.toArray) (hz : vs.length ≤ sizeLine) : Coll prog w s (.ref t) vs := fun B E R h => by
  obtain ⟨ot, e0, c0, m, d0⟩ := id ht
  unfold collect
  refine wpAny_bind (wpAny_runValue (codeAny_builtin entry_proto_collect' ?_))
  show wpAny _ _ (do again (.builtin "list.__iadd__" ⟨[← newList [], .ref t], []⟩)) _ _ s
  refine wpAny_bind (wpAny_newList (wpAny_pure ⟨Code.quiet_builtin _ (by decide +kernel), codeAny_builtin entry_list_iadd' ?_⟩))
  show wpAny _ _ (Builtin.List.listExtendWith (.ref s.heap.objs.size) (.ref t) (.ref s.heap.objs.size)) _ _ { s with heap := s.heap.push (seqObj "list" #[] 0) }
  unfold Builtin.List.listExtendWith
  have e1 : (s.heap.push (seqObj "list" #[] 0)).get? t = some ot := Heap.get?_push_of_some _ e0
  refine wpAny_bind (wpAny_typeOf (T := "tuple") ⟨ot, e1, c0⟩ ?_)
  have q : (Value.type "tuple" == Value.type "tuple") = true := by rfl
  rw [if_pos (by rw [q]; simp)]
  refine wpAny_bind (listItems_at e1 d0 ?_)
  refine wpAny_bind (listItems_at (xs := #[]) (n := 0) (Heap.get?_push_size _ rfl) rfl ?_)
  rw [if_neg (by simp)]
  refine wpAny_bind (listUpdate_at (xs := #[]) (n := 0) (Heap.get?_push_size _ rfl) rfl ?_ (Nat.zero_le _) (by show (#[] ++ vs.toArray).size ≤ sizeLine + 1; simp only [Array.size_append, List.size_toArray, List.length_nil]; omega))
  refine wpAny_pure ?_
  show wpAny (model prog w) B (do
      let o ← load s.heap.objs.size
      match o.data with
      | .seq xs _ => pure xs.toList
      | _ => unsupported "internal:collect") R E { s with heap := (s.heap.push (seqObj "list" #[] 0)).update s.heap.objs.size (Obj.mapSeq (· ++ vs.toArray)) }
  refine wpAny_bind (wpAny_load (get?_update_seq (Heap.get?_push_size _ rfl) _) ?_)
  show wpAny _ _ (pure ((#[] : Array Value) ++ vs.toArray).toList) R E _
  rw [show ((#[] : Array Value) ++ vs.toArray).toList = vs by simp]
  exact wpAny_pure h
theorem sorted_coll {A : Around} {E : Value → Shared → Prop} {x : Value} {vs : List Value} {kw : List (Str × Value)} {R : Value → Shared → Prop} (hc : Coll prog w s x vs) (hz : vs.length ≤ sizeLine) (k1 : argsOk "sorted" ⟨[x], kw⟩) (k2 : ∀ y, argsOk "list.sort" ⟨[.ref y], kw⟩)
    (go : ∀ E2 : Value → Shared → Prop, wpAny (model prog w) A.in1.in1 (Builtin.«list.sort» ⟨[.ref (s.heap.objs.size + 1)], kw⟩) (fun f t => f = .done (.ret .none) ∧ R (.ref (s.heap.objs.size + 1)) t) E2 { s with heap := copyHeap s.heap vs }) :
    wpAny (model prog w) A (call (.builtin "sorted") [x] kw) R E s := by
  refine call_function_entry_kw kind_sorted plain_sorted entry_sorted k1 ?_
  unfold Builtin.«sorted»
  refine wpAny_bind (m := checkCount "sorted" 1 1 _) (wpAny_pure ?_)
  refine wpAny_bind (hc _ _ _ ?_)
  refine wpAny_bind (wpAny_newList ?_ hz)
  have esz : ((s.heap.push (seqObj "list" #[] 0)).update s.heap.objs.size (Obj.mapSeq (· ++ vs.toArray))).objs.size = s.heap.objs.size + 1 := by
    rw [Heap.size_update, size_push']
  show wpAny _ _ _ _ _ { s with heap := copyHeap s.heap vs }
  rw [esz]
  refine wpAny_bind (wpAny_holding (wpAny_call_entry_kw slot_list_sort ⟨_, copyHeap_at s.heap vs, rfl⟩ entry_list_sort ?inner (k2 _)))
  case inner =>
    show wpAny (model prog w) A.in1.in1 (Builtin.«list.sort» ⟨[.ref (s.heap.objs.size + 1)], kw⟩) _ _ _
    refine wpAny_mono (go _) (fun f t hf => ?_) fun _ _ e => e
    obtain ⟨rfl, hr⟩ := hf
    exact ⟨_, rfl, wpAny_pure ⟨_, rfl, hr⟩⟩
/-- the sort by key, the items from anywhere -/
theorem sorted_keyC {A : Around} {E : Value → Shared → Prop} {β : Type} {x : Value} {vs : List Value} {bs : List β} {R : Value → β → Prop} {f : Addr} {Q : Value → Shared → Prop} (k : β → PyData) (hc : Coll prog w s x vs) (e : EachIs R vs bs)
    (hal : AllAlike (bs.map k)) (hk : Sortable (bs.map k)) (hL : bs.length ≤ sizeLine) (hu : ∀ x, x ∈ bs → A.units + 2 + (k x).depth < cLine)
    (turn : ∀ (v : Value) (b : β), R v b → b ∈ bs → ∀ (h : Heap) (tk : Nat), (∀ c o, s.heap.get? c = some o → h.get? c = some o) →
      wpAny (model prog w) A.in1.in1 (call (.ref f) [v]) (KeyPure (k b) { s with heap := h, toks := tk }) (fun _ _ => False) { s with heap := h, toks := tk })
    (fin : ∀ out c h' tk, (∀ b o, s.heap.get? b = some o → h'.get? b = some o) → s.heap.get? (s.heap.objs.size + 1) = none → h'.get? (s.heap.objs.size + 1) = some (seqObj "list" (List.toArray out) c) → EachIs R out (bs.mergeSort (dataLe false k)) →
      Q (.ref (s.heap.objs.size + 1)) { s with heap := h', toks := tk }) :
    wpAny (model prog w) A (call (.builtin "sorted") [x] [(Str.ofString "key", .ref f)]) Q E s := by
  have nw : s.heap.get? (s.heap.objs.size + 1) = none := Heap.get?_none_of_le (Nat.le_succ _)
  have el := e.length
  have up : ∀ {g : Heap}, KeepsBut (s.heap.objs.size + 1) (copyHeap s.heap vs) g → ∀ b o, s.heap.get? b = some o → g.get? b = some o := fun {g} kp b o z =>
    kp b o (Nat.ne_of_lt (Nat.lt_succ_of_lt (Heap.lt_size z))) (copyHeap_old z)
  refine sorted_coll hc (by rw [el]; exact hL) (ksk_s1 _ _) (fun _ => ksk_l1 _ _) fun E2 => ?_
  rw [ksk_t1]
  refine keyH_tree (kz := bs.map k) (s := { s with heap := copyHeap s.heap vs }) (copyHeap_at s.heap vs) (by rw [List.length_map]; exact el.symm) (by rw [el]; exact hL) hal hk (fun d hd => ?_)
    (keyH_turns (s := { s with heap := copyHeap s.heap vs }) e fun v b hR hb h tk kp => turn v b hR hb h tk (up kp)) fun h' tk out c kp hD ko => ⟨rfl, ?_⟩
  · obtain ⟨b, hb, rfl⟩ := List.mem_map.mp hd
    exact hu b hb
  · exact fin out c h' tk (up kp) nw hD (keyedOut_each k ko e)
end
/-- the parameters of lambda y: .. -/
def par1 (a : Arg) : Arguments := ⟨[], [a], none, [], [], none, []⟩
theorem bind_par1 {nm q : Str} {a : Arg} {body : Expr} {scope : Scope} {cl : List (Str × Addr)} {pm cdv ct v : Value} : bindArgs (kla_fn nm q (par1 a) body scope cl pm cdv ct) ⟨[v], []⟩ = pure [(a.arg, v)] := by
  unfold bindArgs
  simp [par1, seqItems?, notAStandIn]
section
variable {prog : Program} {w : World} {A : Around} {s : Shared}
/-- y[0] -/
theorem lam_first {t f c' : Addr} {nm q : Str} {a : Arg} {scope : Scope} {cl : List (Str × Addr)} {pm ctv : Value} {items : Array Value} {n : Int} {u : Tok} {j : Nat} {p1 p2 p3 : Pos} {y : Str}
    (ey : a.arg = y) (yd : (y == ("__debug__" : Str)) = false) (sk : scope.kind = .function) (sc : scope.isCoroutine = false) (sg : scope.isGenerator = false) (nc : ∀ x ∈ scope.names, x.2 ≠ .cell) (yl : scope.names.lookup y = some .local)
    (room : A.depth < recursionLimit) (lim : s.heap.NoLimit) (ho : s.heap.get? f = some (kla_obj nm q (par1 a) (.Subscript (.Name y p1) (.Constant (.int 0) j p2) p3) scope cl pm c' ctv)) (hcd : s.heap.CodeRec (.ref c') q)
    (ht : IsTup s.heap t items) (hi : items[0]? = some (.int n u)) :
    wpAny (model prog w) A (call (.ref f) [.ref t]) (KeyPure (.int n) s) (fun _ _ => False) s := by
  refine wpAny_call (kla_callFunE room ho rfl sc sg rfl hcd ?_)
  rw [bind_par1]
  refine wpAny_pure (wpAny_newFunctionEnv nc (fun x hx => ?_) (fun h1 hns hsb => ⟨lim.fresh _ hsb, ?_⟩) sk)
  · rw [List.mem_singleton.mp hx, ey]; exact yl
  · have kp : ∀ b o, s.heap.get? b = some o → h1.get? b = some o := fun b o e => hsb.extBut b o (Nat.ne_of_lt (Heap.lt_size e)) (Heap.get?_push_of_some _ e)
    show codeAny _ _ (.expr _ (envX q scope s.heap.objs.size f (.ref c') cl)) _ _
    refine kla_codeExpr (wpAny_Subscript_Constant_late (wpAny_Name (wpAny_loadName_local sk yl hns (v := .ref t) (by rw [ey]; simp) ?_) yd))
    have t1 : IsTup h1 t items := by
      obtain ⟨o, e, r⟩ := ht
      exact ⟨o, kp _ _ e, r⟩
    have hs : 0 < items.size := (Array.getElem?_eq_some_iff.mp hi).1
    refine wpAny_Constant_int ⟨"tuple", _, slot_tuple_getitem.lookup, IsTup.typeIs t1, getItem_tuple (j := 0) (x := .int n u) t1 (by omega) (by omega) (by unfold seqIndex?; simp [hs]) hi ?_⟩
    exact ⟨h1, _, rfl, kp, .int n u⟩
end
section
open L2 LamX
variable {X : Cx} {pins : List (Addr × Obj)} {σ : L2.St} {H : Hp} {s : Shared}
/-- no name of its own but its parameter, none captured -/
structure LamC (scope : Scope) (y : Str) : Prop where
  kind : scope.kind = .function
  co : scope.isCoroutine = false
  gen : scope.isGenerator = false
  own : ∀ z ∈ scope.names, z.2 ≠ .cell
  free : ∀ z ∈ scope.names, z.2 ≠ .free
  loc : scope.names.lookup y = some .local
/-- what the maker's code object at c and its table at t are in T -/
structure TabC (T : List (Addr × Str)) (X : Cx) (c t : Addr) : Prop where
  b : TabB X.base X.mg c t
  code : X.env.code = .ref c
  mem : (t, X.env.qual ++ "<lambda>") ∈ T
  uni : ∀ p ∈ T, p.1 = t → p.2 = X.env.qual ++ "<lambda>"
theorem upd2_there {a b d : Addr} {o u : HO} (h : H d ≠ none) : upd (upd H a o) b u d ≠ none := there_upd (there_upd h)
theorem lam_make {T : List (Addr × Str)} {c t : Addr} {a : Arg} {body : Expr} {scope : Scope} {pos : Pos} {y : Str} {E : Value → Shared → Prop} {R : Value → Shared → Prop} (J : Inv X pins σ H s) (tc : TabC T X c t) (ok : LamC scope y) (tt : Tabs T H)
    (done : ∀ (f c2 : Addr) (pm ctv : Value) (G : Hp) (z : Shared), Inv X pins σ G z → ExtN H G → (∀ b, H b ≠ none → G b ≠ none) → Tabs T G →
      z.heap.get? f = some (kla_obj "<lambda>" (X.env.qual ++ "<lambda>") (par1 a) body scope (cloFrom X.env.cells scope.names []) pm c2 ctv) → z.heap.CodeRec (.ref c2) (X.env.qual ++ "<lambda>") → R (.ref f) z) :
    wpAny (model X.prog X.w) X.A (eval (.Lambda (par1 a) body scope pos) X.env) R E s := by
  obtain ⟨ps, eP, tr, each⟩ := tt _ tc.mem
  have fr : ∀ z ∈ scope.names, z.2 = .free → ∃ d, X.env.cells.lookup z.1 = some d := fun z hz e => absurd e (ok.free z hz)
  have rec_of : ∀ {d : Addr} {G : Hp} {z : Shared}, Inv X pins σ G z → G d = some (CodeO d (X.env.qual ++ "<lambda>")) → z.heap.CodeRec (.ref d) (X.env.qual ++ "<lambda>") := fun {d G z} I e => by
    obtain ⟨⟨oc, us, k, q1, q2, q3⟩, _, _⟩ := I.hok d _ e
    exact ⟨d, oc, us, k, rfl, q1, q2, q3⟩
  refine kla_eval rfl ?_
  have bP : s.heap.BuiltinsAt X.mg t := tc.b.bm.keeps J.bk
  have oP : s.heap.get? t = some { cls := .none, data := .fields ps } := J.hok t _ eP
  cases hc : codeAmong pos ps.toList with
  | some cv =>
    obtain ⟨d, e, ed⟩ := each pos cv hc
    subst e
    refine kla_makeFunctionHit (mg := X.mg) (c := c) (P := t) (ps := ps) (closure_ok fr) J.ok.glob (J.mod.glob.keeps J.bk) tc.code (tc.b.code.keeps J.bk) oP tr hc bP fun ctv g tk kx hsz => ?_
    have I1 : Inv X pins σ H { s with heap := g.push (kla_obj "<lambda>" (X.env.qual ++ "<lambda>") (par1 a) body scope (cloFrom X.env.cells scope.names []) ((X.mg "__name__").getD .none) d ctv), toks := tk } := J.kept fun b o e => Heap.get?_push_of_some _ (kx b o e)
    exact done g.objs.size d _ ctv H _ I1 (ExtN.refl H) (fun _ z => z) tt (Heap.get?_push_size _ rfl) (rec_of I1 ed)
  | none =>
    refine kla_makeFunction (mg := X.mg) (c := c) (P := t) (ps := ps) (closure_ok fr) J.ok.glob (J.mod.glob.keeps J.bk) tc.code (tc.b.code.keeps J.bk) oP tr hc tc.b.gP bP fun d ctv g tk kx hge hlt hrec htb => ?_
    obtain ⟨d2, oc, us, k, e2, r1, r2, r3⟩ := hrec
    cases e2
    have nD : H d = none := J.hok.fresh hge
    have I1 := inv_table (t' := tk) (more := #[rawInt pos.line, rawInt pos.col, .ref d]) (h' := g.push (kla_obj "<lambda>" (X.env.qual ++ "<lambda>") (par1 a) body scope (cloFrom X.env.cells scope.names []) ((X.mg "__name__").getD .none) d ctv)) J eP
      (fun b o nb e => Heap.get?_push_of_some _ (kx b o nb e)) (Heap.get?_push_of_some _ htb) hge ⟨oc, us, k, Heap.get?_push_of_some _ r1, r2, r3⟩
    have eN : ExtN H (upd (upd H t (.tbl (ps ++ #[rawInt pos.line, rawInt pos.col, .ref d]))) d (CodeO d (X.env.qual ++ "<lambda>"))) := fun b o e nt => by
      have b1 : b ≠ t := fun z => by
        rw [z, eP] at e
        exact nt ps (Option.some.inj e).symm
      rw [upd_ne (ne_of_none e nD), upd_ne b1]
      exact e
    have eD : upd (upd H t (.tbl (ps ++ #[rawInt pos.line, rawInt pos.col, .ref d]))) d (CodeO d (X.env.qual ++ "<lambda>")) d = some (CodeO d (X.env.qual ++ "<lambda>")) := upd_same
    have eL : (ps ++ #[rawInt pos.line, rawInt pos.col, .ref d]).toList = ps.toList ++ [rawInt pos.line, rawInt pos.col, .ref d] := by simp
    have td : t ≠ d := ne_of_none eP nD
    refine done g.objs.size d _ ctv _ _ I1 eN (fun b z => upd2_there z) (fun p hp => ?_) (Heap.get?_push_size _ rfl) (rec_of I1 eD)
    by_cases hb : p.1 = t
    · rw [tc.uni p hp hb, hb]
      refine ⟨_, by rw [upd_ne td, upd_same], by rw [eL]; exact PySem.TriplesOk_snoc _ _ _ _ tr, fun p2 cv z => ?_⟩
      rw [eL] at z
      rcases among_app _ tr z with z | z
      · obtain ⟨d0, e1, e2⟩ := each p2 cv z
        exact ⟨d0, e1, eN _ _ e2 codeO_ne⟩
      · exact ⟨d, z, eD⟩
    · obtain ⟨ps2, a1, a2, a3⟩ := tt p hp
      refine ⟨ps2, by rw [upd_ne (ne_of_none a1 nD), upd_ne hb]; exact a1, a2, fun p2 cv z => ?_⟩
      obtain ⟨d0, e1, e2⟩ := a3 p2 cv z
      exact ⟨d0, e1, eN _ _ e2 codeO_ne⟩
end
section
open L2 LamX
def Head1 (K : PySem.W.Frag) (H : Hp) (x : V) (n : Int) : Prop := ∃ t ys, x = .ref t ∧ SqT K H t (.int n :: ys)
theorem dataLe_int {α : Type} : dataLe false (fun b : α × Int => PyData.int b.2) = fun x y => decide (x.2 ≤ y.2) := by
  funext x y
  show (!(PyProof.Rows.lexLt itemOrd [Sum.inl y.2] [Sum.inl x.2])) = _
  have e0 : PyProof.Rows.lexLt itemOrd [] [] = false := by rfl
  have e : PyProof.Rows.lexLt itemOrd [Sum.inl y.2] [Sum.inl x.2] = decide (y.2 < x.2) := by
    simp [PyProof.Rows.lexLt, itemLt]
  rw [e]
  by_cases h : x.2 ≤ y.2
  · rw [decide_eq_true h, decide_eq_false (by omega)]; rfl
  · rw [decide_eq_false h, decide_eq_true (by omega)]; rfl
def tSortK (K : PySem.W.Frag) (T : List (Addr × Str)) (te : TE) : TE := fun σ H Q => te σ H fun v H1 => Tabs T H1 ∧ ∃ (a : Addr) (bs : List (V × Int)), v = .ref a ∧ (SqL K H1 a (bs.map Prod.fst) ∨ SqT K H1 a (bs.map Prod.fst)) ∧ (∀ b ∈ bs, Head1 K H1 b.1 b.2) ∧
  ∀ (H2 : Hp) (p : Addr), ExtN H1 H2 → (∀ b, H1 b ≠ none → H2 b ≠ none) → Tabs T H2 → H2 p = none → Q (.ref p) (upd H2 p (.lst ((sortB bs).map Prod.fst)))
theorem each_of {X : Cx} {pins : List (Addr × Obj)} {σ : L2.St} {H : Hp} {s : Shared} (I : Inv X pins σ H s) : ∀ {bs : List (V × Int)} {vs : List Value}, Vals (bs.map Prod.fst) vs → (∀ b ∈ bs, Head1 X.K H b.1 b.2) →
    EachIs (fun v (b : V × Int) => ∃ t items u, v = .ref t ∧ b.1 = .ref t ∧ IsTup s.heap t items ∧ items[0]? = some (.int b.2 u)) vs bs := by
  intro bs
  induction bs with
  | nil => intro vs r _; cases r; exact .nil
  | cons b bs ih =>
    intro vs r hd
    cases r with
    | cons r0 r =>
      refine .cons ?_ (ih r fun c hc => hd c (List.mem_cons_of_mem _ hc))
      obtain ⟨t, ys, e, hs⟩ := hd b List.mem_cons_self
      rw [e] at r0
      obtain ⟨its, rv, ht, _⟩ := I.tuple hs
      cases rv with
      | cons r1 r2 =>
        obtain ⟨u, e1⟩ := r1
        subst e1
        exact ⟨t, _, u, r0, e, ht, by simp⟩
theorem vals_of_each {h : Heap} : ∀ {bs : List (V × Int)} {vs : List Value}, EachIs (fun v (b : V × Int) => ∃ t items u, v = .ref t ∧ b.1 = .ref t ∧ IsTup h t items ∧ items[0]? = some (.int b.2 u)) vs bs → Vals (bs.map Prod.fst) vs := by
  intro bs
  induction bs with
  | nil => intro vs r; cases r; exact .nil
  | cons b bs ih =>
    intro vs r
    cases r with
    | cons r0 r =>
      obtain ⟨t, items, u, e1, e2, _⟩ := r0
      refine .cons ?_ (ih r)
      rw [e1, e2]
      rfl
theorem sqT_ext {K : PySem.W.Frag} {H G : Hp} {a : Addr} {xs : List V} (e : ExtN H G) (h : SqT K H a xs) : SqT K G a xs := by
  rcases h with (h | ⟨o, h⟩) | h
  · exact .inl (.inl (e _ _ h fun _ z => nomatch z))
  · exact .inl (.inr ⟨o, e _ _ h fun _ z => nomatch z⟩)
  · exact .inr h
theorem sqL_ext {K : PySem.W.Frag} {H G : Hp} {a : Addr} {xs : List V} (e : ExtN H G) (h : SqL K H a xs) : SqL K G a xs := by
  rcases h with (h | ⟨o, h⟩) | h
  · exact .inl (.inl (e _ _ h fun _ z => nomatch z))
  · exact .inl (.inr ⟨o, e _ _ h fun _ z => nomatch z⟩)
  · exact .inr h
theorem pe_sortKey {X : Cx} {k : Nat} {T : List (Addr × Str)} {c t : Addr} {f : Str} {e : Expr} {te : TE} {a : Arg} {y : Str} {scope : Scope} {j : Nat} {p p1 p2 p3 p4 p5 pos : Pos} (hr : Room k X.A) (tc : TabC T X c t) (ok : LamC scope y) (ey : a.arg = y) (yd : (y == ("__debug__" : Str)) = false)
    (ef : f = "sorted") (hg : Gl X f) (hm : X.mg f = none) (he : PE X e te) (hp : starEach [e] X.env = (false, eval e X.env) :: starEach [] X.env) :
    PE X (.Call (.Name f p) [e] [⟨some "key", .Lambda (par1 a) (.Subscript (.Name y p1) (.Constant (.int 0) j p2) p3) scope p4, p5⟩] pos) (tSortK X.K T te) := by
  subst ef
  refine ⟨fun pins s σ H Q I h => ?_⟩
  have pa : PA X [e] (tCons te tNil) := pa_cons he pa_nil hp
  refine wpAny_Call_Name_kw (ld_blt I hg hm (by rfl) ?_ (by decide) (by decide))
  refine PyProof.Rows.callWith_kw (thn (pa.run pos pins s σ H (fun vs H1 => match vs with
    | [v] => Tabs T H1 ∧ ∃ (a : Addr) (bs : List (V × Int)), v = .ref a ∧ (SqL X.K H1 a (bs.map Prod.fst) ∨ SqT X.K H1 a (bs.map Prod.fst)) ∧ (∀ b ∈ bs, Head1 X.K H1 b.1 b.2) ∧
        ∀ (H2 : Hp) (p : Addr), ExtN H1 H2 → (∀ b, H1 b ≠ none → H2 b ≠ none) → Tabs T H2 → H2 p = none → Q (.ref p) (upd H2 p (.lst ((sortB bs).map Prod.fst)))
    | _ => False) I h) fun us s1 ⟨vs, H1, I1, r1, q1⟩ => ?_) (by rw [hp]; rfl) (by rw [hp]; rfl) (by rfl) (by rfl)
  match vs, q1, r1 with
  | [v], ⟨tt, l, bs, e1, sq, hd, q⟩, r1 =>
    subst e1
    obtain rfl := Vals.ref1 r1
    show wpAny _ _ (evalAll ((do let v ← eval (.Lambda (par1 a) (.Subscript (.Name y p1) (.Constant (.int 0) j p2) p3) scope p4) X.env; standAt pos; pure v) :: [])) _ _ s1
    refine wpAny_evalAll_cons (wpAny_bind (lam_make I1 tc ok tt fun f c2 pm ctv G z I2 eN th t2 of oc => wpAny_bind (wpAny_standAt (wpAny_pure (wpAny_evalAll_nil ?_)))))
    show wpAny (model X.prog X.w) X.A (call (.builtin "sorted") [.ref l] [(Str.ofString "key", .ref f)]) _ _ z
    have hd2 : ∀ b ∈ bs, Head1 X.K G b.1 b.2 := fun b hb => by
      obtain ⟨t0, ys, e0, hs⟩ := hd b hb
      exact ⟨t0, ys, e0, sqT_ext eN hs⟩
    obtain ⟨its, rv, co, len⟩ : ∃ its : List Value, Vals (bs.map Prod.fst) its ∧ Coll X.prog X.w z (.ref l) its ∧ bs.length ≤ sizeLine := by
      rcases sq with sq | sq
      · obtain ⟨its, rv, pl, hz⟩ := I2.list (sqL_ext eN sq)
        exact ⟨its, rv, coll_list pl.isList (by rw [← rv.length]; exact hz), by rw [List.length_map] at hz; exact hz⟩
      · obtain ⟨its, rv, pl, hz⟩ := I2.tuple (sqT_ext eN sq)
        exact ⟨its, rv, coll_tup pl (by rw [← rv.length]; exact hz), by rw [List.length_map] at hz; exact hz⟩
    have un := hr.un
    refine sorted_keyC (β := V × Int) (fun b => PyData.int b.2) co (each_of I2 rv hd2) (fun d hd d' hd' => ?_) (.inr fun d hd => ?_) len (fun x _ => by show X.A.units + 2 + (PyData.int x.2).depth < _; simp only [PyData.depth]; omega) (fun v b hR hb h tk kp => ?_) fun out c h2 tk kp fresh hD ho => ?_
    · obtain ⟨b1, _, rfl⟩ := List.mem_map.mp hd
      obtain ⟨b2, _, rfl⟩ := List.mem_map.mp hd'
      rfl
    · obtain ⟨b1, _, rfl⟩ := List.mem_map.mp hd
      exact ⟨(fun z => nomatch z), (fun _ z => nomatch z)⟩
    · obtain ⟨t0, items, u, rfl, _, ht, hi⟩ := hR
      refine lam_first ey yd ok.kind ok.co ok.gen ok.own ok.loc ?_ ?_ (kp _ _ of) ?_ ?_ hi
      · exact hr.depth
      · exact I2.nolimit.keeps kp
      · obtain ⟨c3, o3, vs3, t3, z1, z2, z3, z4⟩ := oc
        exact ⟨c3, o3, vs3, t3, z1, kp _ _ z2, z3, z4⟩
      · obtain ⟨o, z1, z2⟩ := ht
        exact ⟨o, kp _ _ z1, z2⟩
    · rw [dataLe_int] at ho
      have rv2 : Vals ((sortB bs).map Prod.fst) out := vals_of_each ho
      have len2 : ((sortB bs).map Prod.fst).length ≤ sizeLine := by
        rw [List.length_map]
        unfold sortB
        rw [List.length_mergeSort]
        exact len
      exact ⟨.ref _, upd G (z.heap.objs.size + 1) (.lst ((sortB bs).map Prod.fst)), I2.laid (t' := tk) kp (Nat.le_succ _) ⟨len2, _, c, rv2, hD⟩, rfl, q _ _ eN th t2 (I2.hok.fresh (Nat.le_succ _))⟩
end
end DD
namespace DD
open L2 PyProof.Rows PySem PySem.Spec
/-- an empty set, new -/
abbrev newS (wo : World) : Obj := { cls := .type "set", dict := none, data := .set #[] 0 (.fresh 0 0 (!wo.params.followText "set-order")) }
section
variable {Pz : Program} {wz : World} {Az : Around} {Ez : Value → Shared → Prop} {sz : Shared}
/-- ints put to a set one by one; the bound is asked of the set, not of the walk -/
theorem set_up {It : Addr} {fz wrz : List Addr} {Gz : Array GenState → Array GenState → Prop} {m : Nat} {Pv : Nat → Value → Prop} {At : Nat → Shared → Prop} {Rz : Result → Shared → Prop}
    (Wk : WalksS Pz wz Az.in1 It fz wrz Gz m Pv At) (a : Addr) (hf : a ∉ fz) (zs : List Int) (hm : m = zs.length)
    (few : ∀ (h : Heap) (i c : Nat), SetR wz h a (fun j => decide (j ∈ zs.take i)) c → c + 1 < scanBound) (hv : ∀ i v, Pv i v → ∃ k t, zs[i]? = some k ∧ v = .int k t) :
    ∀ (left i : Nat) (u : Shared), m - i = left → i ≤ m → At i u → (∃ c, SetR wz u.heap a (fun j => decide (j ∈ zs.take i)) c) →
      (∀ u' c, Moved (a :: wrz) Gz u u' → SetR wz u'.heap a (fun j => decide (j ∈ zs)) c → Rz (.ok (.ret .none)) u') →
      codeAny (model Pz wz) Az (.builtin "set.update.loop" ⟨[.ref a, .ref It], []⟩) Rz u := by
  have out1 : a ∉ wrz := fun z => hf (Wk.sub _ z)
  have sub1 : ∀ b ∈ wrz, b ∈ a :: wrz := fun b z => .tail _ z
  intro left
  induction left with
  | zero =>
    intro i u hz hi at0 ⟨c, hR⟩ fin
    obtain rfl : i = m := by omega
    refine codeAny_builtin F.entry_set_update_loop ?_
    rw [Around.under_plainId F.plain_set_update_loop _]
    show wpAny _ Az.in1 (pyNext (.ref It) >>= _) _ _ u
    refine wpAny_bind (Wk.done u _ _ at0 fun u1 mv => ?_)
    show wpAny _ Az.in1 (ret Value.none) _ _ u1
    have all : zs.take i = zs := List.take_of_length_le (by omega)
    rw [all] at hR
    exact wpAny_pure (fin u1 c (mv.mono sub1) (hR.at fun o z => mv.heap a o out1 z))
  | succ left ih =>
    intro i u hz hi at0 ⟨c, hR⟩ fin
    have lt1 : i < m := by omega
    refine codeAny_builtin F.entry_set_update_loop ?_
    rw [Around.under_plainId F.plain_set_update_loop _]
    show wpAny _ Az.in1 (pyNext (.ref It) >>= _) _ _ u
    refine wpAny_bind (Wk.item i u _ _ lt1 at0 fun v u1 hp at1 mv => ?_)
    obtain ⟨k, tk, hk, rfl⟩ := hv i v hp
    have hR1 : SetR wz u1.heap a (fun j => decide (j ∈ zs.take i)) c := hR.at fun o z => mv.heap a o out1 z
    show wpAny _ Az.in1 (holding [Value.int k tk] (setAdd a (.int k tk)) >>= _) _ _ u1
    refine wpAny_bind (wpAny_holding ?_)
    unfold setAdd
    refine wpAny_holding ?_
    refine wpAny_bind ((intKind Pz wz).pyHash (k := k) (intKind_is _ _ _ _) ?_)
    refine setR_add_hashed (s := { u1 with toks := u1.toks + 1 }) hR1 (few _ i c hR1) fun h2 but hR2 => ?_
    have hR3 : SetR wz h2 a (fun j => decide (j ∈ zs.take (i + 1))) (if decide (k ∈ zs.take i) = true then c else c + 1) := hR2.congr fun j => by
      rw [List.take_add_one, hk]
      simp [List.mem_append]
    refine wpAny_pure ⟨plainId_quiet F.plain_set_update_loop _, ih (i + 1) _ (by omega) lt1 (Wk.frame _ u1 _ _ at1 (Nat.le_succ _) fun b hb o z => ?_) ⟨_, hR3⟩ fun u2 c2 mv2 hR4 => ?_⟩
    · rw [but.2 b (fun q : b = a => hf (by rw [← q]; exact hb))]; exact z
    · refine fin u2 c2 (Moved.trans Wk.gtrans ((mv.mono sub1).then_heap (Nat.le_succ _) fun b o hb z => ?_) mv2) hR4
      rw [but.2 b (fun q : b = a => hb (by rw [q]; exact List.mem_cons_self))]; exact z
end
section
variable {Pr : Program} {wo : World} {Ar : Around} {Er : Value → Shared → Prop} {st : Shared}
set_option maxHeartbeats 3200000 in
theorem set_of_list {q : Addr} {itz : Array Value} (zs : List Int) {Qe : Value → Shared → Prop} (quiet : Ar.handled = none) (isl : st.heap.IsList q itz) (are : IntsAre itz.toList zs) (few : ∀ (h : Heap) (i c : Nat), SetR wo h st.heap.objs.size (fun j => decide (j ∈ zs.take i)) c → c + 1 < scanBound)
    (fin : ∀ (w1 : Heap) (t1 c1 : Nat), SetR wo w1 st.heap.objs.size (fun j => decide (j ∈ zs)) c1 → (∀ b o, st.heap.get? b = some o → w1.get? b = some o) → Qe (.ref st.heap.objs.size) { st with heap := w1, toks := t1 }) :
    wpAny (model Pr wo) Ar (call (.type "set") [.ref q]) Qe Er st := by
  have lenz : itz.size = zs.length := by rw [← Array.length_toList, IntsAre.length are]
  obtain ⟨cm, tm, mroS⟩ := F.called_set.mro
  have made1 := F.called_set.made
  have sub1 := F.called_set.sub
  refine wpAny_call (codeAny_of_tree ?_)
  show wpAny _ _ (callAny (.type "set") _) _ _ _
  refine wpAny_pure ⟨Code.quiet_builtin _ (by decide +kernel), codeAny_builtin F.entry_type_call ?_⟩
  rw [Around.under_plain (weight_type_call_type "set" [.ref q] []) rfl]
  have x1 := F.called_set.notType
  have x2 := F.called_set.canCreate
  have x3 := F.typeCall_set_1 (.ref q)
  repeat (any_goals (first | assumption | wp_step))
  refine codeAny_mono (code_set_led1 (.ref q) (E := Er) (Q₁ := fun ob s1 => ob = .ref st.heap.objs.size ∧ s1 = { st with heap := st.heap.push (newS wo) }) ⟨rfl, rfl⟩) fun r1 s1 hr1 => ?_
  cases r1 with
  | error e => exact hr1
  | ok fl =>
    cases fl with
    | ret ob =>
      obtain ⟨rfl, rfl⟩ := hr1
      have getS : (st.heap.push (newS wo)).get? st.heap.objs.size = some (newS wo) := Heap.get?_push_size _ rfl
      have tyS : Shared.TypeIs { st with heap := st.heap.push (newS wo) } (.ref st.heap.objs.size) "set" := ⟨_, getS, rfl⟩
      have look1 := F.called_set.init.lookup
      have bind1 := F.called_set.init.bind (.ref st.heap.objs.size)
      repeat (any_goals (first | assumption | wp_step))
      refine codeAny_mono (codeAny_call_builtin (R := wants (fun r2 s2 => r2 = .none ∧ ∃ w1 t1 c1, s2 = { st with heap := w1, toks := t1 } ∧ SetR wo w1 st.heap.objs.size (fun j => decide (j ∈ zs)) c1 ∧
          (∀ b o, st.heap.get? b = some o → w1.get? b = some o)) Er) F.called_set.init.plain F.entry_set_init (check_set_init_1 tyS ?_)) fun r2 s2 hr2 => ?_
      · obtain ⟨ol, hol, hcl, nl, hdl⟩ := isl
        obtain ⟨k1, k2, k3, k4⟩ := ol
        simp only at hcl hdl
        subst hcl; subst hdl
        have holS : (st.heap.push (newS wo)).get? q = some { cls := .type "list", dict := k2, data := .seq itz nl, slots := k4 } := Heap.get?_push_of_some _ hol
        have y1 := F.sub_list_set
        have y2 := F.sub_list_frozenset
        have y3 : (Value.type "list" == Value.type "dict") = false := by decide
        have islS : (st.heap.push (newS wo)).IsList q itz := ⟨_, holS, rfl, nl, rfl⟩
        unfold Builtin.«set.__init__» noKeywords Builtin.Frozenset.updateFrom
        generalize hPI : pyIter = PI
        wp_walk
        subst hPI
        refine wpAny_pyIter_list islS ?_
        refine wpAny_bind (wpAny_runValue ?_)
        have ltq : q < st.heap.objs.size := Heap.lt_size hol
        have quiet3 : Ar.in1.in1.in1.handled = none := by simp [quiet]
        have sz1 : (st.heap.push (newS wo)).objs.size = st.heap.objs.size + 1 := Heap.size_push ..
        have neq : q ≠ (st.heap.push (newS wo)).objs.size := by rw [sz1]; exact Nat.ne_of_lt (Nat.lt_succ_of_lt ltq)
        have notin : st.heap.objs.size ∉ [(st.heap.push (newS wo)).objs.size, q] := by
          rw [sz1]
          intro hm
          rcases List.mem_cons.mp hm with z | z
          · exact absurd z (Nat.ne_of_lt (Nat.lt_succ_self _))
          · exact absurd (List.mem_singleton.mp z) (Nat.ne_of_gt ltq)
        have vals : ∀ (i : Nat) (v : Value), itz[i]? = some v → ∃ k t, zs[i]? = some k ∧ v = .int k t := fun i v hv => by
          have hi : i < zs.length := by rw [← lenz]; exact (Array.getElem?_eq_some_iff.mp hv).1
          obtain ⟨t, e⟩ := PyProof.Rows.IntsAre.int_at are i v (by rw [Array.getElem?_toList]; exact hv)
          refine ⟨zs[i], t, List.getElem?_eq_getElem hi, ?_⟩
          rw [e, List.getD_eq_getElem?_getD, List.getElem?_eq_getElem hi] <;> rfl
        refine set_up ((Walks.list quiet3 _ q neq itz).toS) st.heap.objs.size notin zs lenz few vals (itz.size - 0) 0 _ (by omega) (Nat.zero_le _) ⟨⟨_, Heap.get?_push_size _ rfl, rfl, rfl⟩, (islS.push _)⟩ ?beg ?fnl
        case beg =>
          exact ⟨0, setR_new_at (Heap.get?_push_of_some _ getS)⟩
        case fnl =>
          intro s3 c3 mv3 hS3
          obtain ⟨w3, g3, d3, t3, o3⟩ := s3
          have eg : g3 = st.gens := mv3.gens
          have ed : d3 = st.drawn := mv3.drawn
          have eo : o3 = st.os := mv3.os
          subst eg; subst ed; subst eo
          show wpAny _ _ _ _ _ _
          refine wpAny_pure ?_
          show wpAny _ _ (ret Value.none) _ _ _
          refine wpAny_pure ⟨rfl, w3, t3, c3, rfl, hS3, fun b o e => ?_⟩
          have lt0 : b < st.heap.objs.size := Heap.lt_size e
          refine mv3.heap b o (fun hm => ?_) (Heap.get?_push_of_some _ (Heap.get?_push_of_some _ e))
          rcases List.mem_cons.mp hm with z | z
          · exact absurd z (Nat.ne_of_lt lt0)
          · have z := List.mem_singleton.mp z
            rw [sz1] at z
            exact absurd z (Nat.ne_of_lt (Nat.lt_succ_of_lt lt0))
      · cases r2 with
        | error e => exact hr2
        | ok f2 =>
          cases f2 with
          | ret r =>
            obtain ⟨rfl, w1, t1, c1, rfl, hS1, hk1⟩ := hr2
            repeat (any_goals (first | assumption | wp_step))
            exact fin _ _ _ hS1 hk1
          | _ => exact hr2.elim
    | _ => exact hr1.elim
set_option maxHeartbeats 3200000 in
theorem set_of_tup {q : Addr} {itz : Array Value} (zs : List Int) {Qe : Value → Shared → Prop} (quiet : Ar.handled = none) (isl : st.heap.IsTuple q itz) (are : IntsAre itz.toList zs) (few : ∀ (h : Heap) (i c : Nat), SetR wo h st.heap.objs.size (fun j => decide (j ∈ zs.take i)) c → c + 1 < scanBound)
    (fin : ∀ (w1 : Heap) (t1 c1 : Nat), SetR wo w1 st.heap.objs.size (fun j => decide (j ∈ zs)) c1 → (∀ b o, st.heap.get? b = some o → w1.get? b = some o) → Qe (.ref st.heap.objs.size) { st with heap := w1, toks := t1 }) :
    wpAny (model Pr wo) Ar (call (.type "set") [.ref q]) Qe Er st := by
  have lenz : itz.size = zs.length := by rw [← Array.length_toList, IntsAre.length are]
  obtain ⟨cm, tm, mroS⟩ := F.called_set.mro
  have made1 := F.called_set.made
  have sub1 := F.called_set.sub
  refine wpAny_call (codeAny_of_tree ?_)
  show wpAny _ _ (callAny (.type "set") _) _ _ _
  refine wpAny_pure ⟨Code.quiet_builtin _ (by decide +kernel), codeAny_builtin F.entry_type_call ?_⟩
  rw [Around.under_plain (weight_type_call_type "set" [.ref q] []) rfl]
  have x1 := F.called_set.notType
  have x2 := F.called_set.canCreate
  have x3 := F.typeCall_set_1 (.ref q)
  repeat (any_goals (first | assumption | wp_step))
  refine codeAny_mono (code_set_led1 (.ref q) (E := Er) (Q₁ := fun ob s1 => ob = .ref st.heap.objs.size ∧ s1 = { st with heap := st.heap.push (newS wo) }) ⟨rfl, rfl⟩) fun r1 s1 hr1 => ?_
  cases r1 with
  | error e => exact hr1
  | ok fl =>
    cases fl with
    | ret ob =>
      obtain ⟨rfl, rfl⟩ := hr1
      have getS : (st.heap.push (newS wo)).get? st.heap.objs.size = some (newS wo) := Heap.get?_push_size _ rfl
      have tyS : Shared.TypeIs { st with heap := st.heap.push (newS wo) } (.ref st.heap.objs.size) "set" := ⟨_, getS, rfl⟩
      have look1 := F.called_set.init.lookup
      have bind1 := F.called_set.init.bind (.ref st.heap.objs.size)
      repeat (any_goals (first | assumption | wp_step))
      refine codeAny_mono (codeAny_call_builtin (R := wants (fun r2 s2 => r2 = .none ∧ ∃ w1 t1 c1, s2 = { st with heap := w1, toks := t1 } ∧ SetR wo w1 st.heap.objs.size (fun j => decide (j ∈ zs)) c1 ∧
          (∀ b o, st.heap.get? b = some o → w1.get? b = some o)) Er) F.called_set.init.plain F.entry_set_init (check_set_init_1 tyS ?_)) fun r2 s2 hr2 => ?_
      · obtain ⟨ol, hol, hcl, nl, hdl⟩ := isl
        obtain ⟨k1, k2, k3, k4⟩ := ol
        simp only at hcl hdl
        subst hcl; subst hdl
        have holS : (st.heap.push (newS wo)).get? q = some { cls := .type "tuple", dict := k2, data := .seq itz nl, slots := k4 } := Heap.get?_push_of_some _ hol
        have y1 := F.sub_tuple_set
        have y2 := F.sub_tuple_frozenset
        have y3 : (Value.type "tuple" == Value.type "dict") = false := by decide
        have islS : (st.heap.push (newS wo)).IsTuple q itz := ⟨_, holS, rfl, nl, rfl⟩
        unfold Builtin.«set.__init__» noKeywords Builtin.Frozenset.updateFrom
        generalize hPI : pyIter = PI
        wp_walk
        subst hPI
        refine wpAny_pyIter_tuple islS ?_
        refine wpAny_bind (wpAny_runValue ?_)
        have ltq : q < st.heap.objs.size := Heap.lt_size hol
        have quiet3 : Ar.in1.in1.in1.handled = none := by simp [quiet]
        have sz1 : (st.heap.push (newS wo)).objs.size = st.heap.objs.size + 1 := Heap.size_push ..
        have neq : q ≠ (st.heap.push (newS wo)).objs.size := by rw [sz1]; exact Nat.ne_of_lt (Nat.lt_succ_of_lt ltq)
        have notin : st.heap.objs.size ∉ [(st.heap.push (newS wo)).objs.size, q] := by
          rw [sz1]
          intro hm
          rcases List.mem_cons.mp hm with z | z
          · exact absurd z (Nat.ne_of_lt (Nat.lt_succ_self _))
          · exact absurd (List.mem_singleton.mp z) (Nat.ne_of_gt ltq)
        have vals : ∀ (i : Nat) (v : Value), itz[i]? = some v → ∃ k t, zs[i]? = some k ∧ v = .int k t := fun i v hv => by
          have hi : i < zs.length := by rw [← lenz]; exact (Array.getElem?_eq_some_iff.mp hv).1
          obtain ⟨t, e⟩ := PyProof.Rows.IntsAre.int_at are i v (by rw [Array.getElem?_toList]; exact hv)
          refine ⟨zs[i], t, List.getElem?_eq_getElem hi, ?_⟩
          rw [e, List.getD_eq_getElem?_getD, List.getElem?_eq_getElem hi] <;> rfl
        refine set_up ((Walks.tuple quiet3 _ q neq itz).toS) st.heap.objs.size notin zs lenz few vals (itz.size - 0) 0 _ (by omega) (Nat.zero_le _) ⟨⟨_, Heap.get?_push_size _ rfl, rfl, rfl⟩, (islS.push _)⟩ ?beg ?fnl
        case beg =>
          exact ⟨0, setR_new_at (Heap.get?_push_of_some _ getS)⟩
        case fnl =>
          intro s3 c3 mv3 hS3
          obtain ⟨w3, g3, d3, t3, o3⟩ := s3
          have eg : g3 = st.gens := mv3.gens
          have ed : d3 = st.drawn := mv3.drawn
          have eo : o3 = st.os := mv3.os
          subst eg; subst ed; subst eo
          show wpAny _ _ _ _ _ _
          refine wpAny_pure ?_
          show wpAny _ _ (ret Value.none) _ _ _
          refine wpAny_pure ⟨rfl, w3, t3, c3, rfl, hS3, fun b o e => ?_⟩
          have lt0 : b < st.heap.objs.size := Heap.lt_size e
          refine mv3.heap b o (fun hm => ?_) (Heap.get?_push_of_some _ (Heap.get?_push_of_some _ e))
          rcases List.mem_cons.mp hm with z | z
          · exact absurd z (Nat.ne_of_lt lt0)
          · have z := List.mem_singleton.mp z
            rw [sz1] at z
            exact absurd z (Nat.ne_of_lt (Nat.lt_succ_of_lt lt0))
      · cases r2 with
        | error e => exact hr2
        | ok f2 =>
          cases f2 with
          | ret r =>
            obtain ⟨rfl, w1, t1, c1, rfl, hS1, hk1⟩ := hr2
            repeat (any_goals (first | assumption | wp_step))
            exact fin _ _ _ hS1 hk1
          | _ => exact hr2.elim
    | _ => exact hr1.elim
end
end DD
namespace DD
open L2 PyProof.Rows PySem PySem.Spec
theorem dedZ_go : ∀ (ns acc : List Int), acc.Nodup → (ns.foldl (fun acc x => if x ∈ acc then acc else acc ++ [x]) acc).Nodup ∧ ∀ k, k ∈ ns.foldl (fun acc x => if x ∈ acc then acc else acc ++ [x]) acc ↔ k ∈ acc ∨ k ∈ ns
  | [], acc, h => ⟨h, fun k => ⟨.inl, fun z => z.elim id fun z => nomatch z⟩⟩
  | x :: ns, acc, h => by
    rw [List.foldl_cons]
    by_cases hx : x ∈ acc
    · rw [if_pos hx]
      obtain ⟨a, b⟩ := dedZ_go ns acc h
      refine ⟨a, fun k => ?_⟩
      rw [b k, List.mem_cons]
      exact ⟨fun z => z.elim .inl fun z => .inr (.inr z), fun z => z.elim .inl fun z => z.elim (fun e => .inl (e ▸ hx)) .inr⟩
    · rw [if_neg hx]
      have hn : (acc ++ [x]).Nodup := by
        refine List.nodup_append.mpr ⟨h, List.nodup_cons.mpr ⟨(fun z => nomatch z), List.nodup_nil⟩, fun a ha b hb e => ?_⟩
        cases List.mem_singleton.mp hb
        exact hx (e ▸ ha)
      obtain ⟨a, b⟩ := dedZ_go ns (acc ++ [x]) hn
      refine ⟨a, fun k => ?_⟩
      rw [b k, List.mem_append, List.mem_singleton, List.mem_cons, or_assoc]
theorem dedZ_ok (ns : List Int) : (dedZ ns).Nodup ∧ ∀ k, k ∈ dedZ ns ↔ k ∈ ns := by
  obtain ⟨a, b⟩ := dedZ_go ns [] List.nodup_nil
  exact ⟨a, fun k => (b k).trans ⟨fun z => z.elim (fun z => nomatch z) id, .inr⟩⟩
theorem nd_lenZ : ∀ (l L : List Int), l.Nodup → (∀ x ∈ l, x ∈ L) → l.length ≤ L.length
  | [], _, _, _ => Nat.zero_le _
  | x :: l, L, nd, sub => by
    have nd := List.nodup_cons.mp nd
    have hx : x ∈ L := sub x List.mem_cons_self
    have h := nd_lenZ l (L.erase x) nd.2 fun y hy => (List.mem_erase_of_ne (fun (e : y = x) => nd.1 (e ▸ hy))).mpr (sub y (List.mem_cons_of_mem _ hy))
    rw [List.length_erase_of_mem hx] at h
    have := List.length_pos_of_mem hx
    rw [List.length_cons]
    omega
theorem sortSet_eq {ns ms : List Int} (hs : ms.Pairwise (· < ·)) (hm : ∀ k, k ∈ ms ↔ k ∈ ns) : ms = sortZ (dedZ ns) := by
  obtain ⟨a, b⟩ := dedZ_ok ns
  have nd : ms.Nodup := hs.imp fun h => Int.ne_of_lt h
  have pm : ms.Perm (dedZ ns) := (List.perm_ext_iff_of_nodup nd a).mpr fun k => (hm k).trans (b k).symm
  have p2 : ms.Perm (sortZ (dedZ ns)) := pm.trans (List.mergeSort_perm _ _).symm
  have w2 : (sortZ (dedZ ns)).Pairwise (fun x y => decide (x ≤ y) = true) := List.pairwise_mergeSort (le := fun (x y : Int) => decide (x ≤ y)) (fun a b c h1 h2 => by simp at *; omega) (fun a b => by simp; omega) _
  refine List.Perm.eq_of_pairwise (le := fun (x y : Int) => x ≤ y) (fun a b _ _ h1 h2 => Int.le_antisymm h1 h2) (hs.imp fun h => Int.le_of_lt h) (w2.imp fun h => by simpa using h) p2
section
variable {X : Cx}
/-- sorted(set(xs)), xs a list of ints, fewer than 64 of them apart -/
def tSS (K : PySem.W.Frag) (ta : TE) : TE := fun σ H Q => ta σ H fun x H1 => ∃ (l : Addr) (ns : List Int), x = V.ref l ∧ (SqL K H1 l (ns.map V.int) ∨ SqT K H1 l (ns.map V.int)) ∧ (dedZ ns).length < 64 ∧ ∀ p, H1 p = none → Q (.ref p) (upd H1 p (.lst ((sortZ (dedZ ns)).map V.int)))
theorem pe_ss {a : Expr} {ta : TE} {p p2 q pos : Pos} (hc : X.calm = true) (hg : Gl X "sorted") (hm : X.mg "sorted" = none) (hg2 : Gl X "set") (hm2 : X.mg "set" = none) (ha : PE X a ta)
    (na : starEach [a] X.env = (false, eval a X.env) :: starEach [] X.env := by rfl) : PE X (.Call (.Name "sorted" p) [.Call (.Name "set" p2) [a] [] q] [] pos) (tSS X.K ta) := by
  refine ⟨fun pins s σ H Q I h => ?_⟩
  refine Call_ (ld_blt I hg hm boot_sorted ?_)
  refine PyProof.Rows.callWith_builtin1 (PyProof.Rows.args_cons ?_ rfl) rfl rfl
  refine Call_ (ld_blt I hg2 hm2 PyProof.Rows.boot_set ?_)
  refine PyProof.Rows.callWith_type1 (PyProof.Rows.args_cons (thn (ha.run pins s σ H _ I h) fun v s1 ⟨x, H1, I1, r1, q1⟩ => PyProof.Rows.args_nil ?_) na) na rfl
  obtain ⟨l, ns, rfl, hq, h64, q1⟩ := q1
  cases r1
  have few : ∀ (w : World) (h : Heap) (a : Addr) (i c : Nat), SetR w h a (fun j => decide (j ∈ ns.take i)) c → c < 64 := fun w h a i c R => by
    obtain ⟨o, es, ep, t, _, _, _, _, nd, hm, _, _, hn, _⟩ := R
    obtain ⟨x, y⟩ := dedZ_ok ns
    have := nd_lenZ _ (dedZ ns) nd fun k hk => (y k).mpr (List.mem_of_mem_take (of_decide_eq_true ((hm k).mpr hk)))
    rw [List.length_map, Array.length_toList] at this
    omega
  rcases hq with hq | hq
  · obtain ⟨its, r, pl, hz⟩ := I1.list hq
    refine set_of_list ns (I1.ok.hd hc) pl.isList (by simpa using RZ.intsAre_vals r) (fun h i c R => by have := few _ h _ i c R; unfold scanBound; omega) fun w1 t1 c1 R k => ?_
    refine PyProof.Rows.args_nil ?_
    have I2 : Inv X pins σ H1 { s1 with heap := w1, toks := t1 } := I1.kept k
    have c64 : c1 < 64 := few _ _ _ ns.length c1 (by rw [List.take_length]; exact R)
    refine sorted_set R (I2.ok.hd hc) c64 fun s2 p out c ms k2 g o hp hg hi hs hm hl => ?_
    have em : ms = sortZ (dedZ ns) := sortSet_eq hs fun k => by rw [hm k]; simp
    have hlen : (ms.map V.int).length ≤ sizeLine := by rw [List.length_map, hl, sizeLine_eq]; omega
    have hn : H1 p = none := I2.hok.fresh hp
    have J : Inv X pins σ (upd H1 p (.lst (ms.map V.int))) { s1 with heap := s2.heap, gens := s2.gens, drawn := s2.drawn, toks := s2.toks } :=
      L2.Inv.call (s := { s1 with heap := w1, toks := t1 }) (ch := []) I2 (Un.laid k2 hp hn) (I2.hok.laid k2 hp ⟨hlen, out.toList, c, vals_of_ints hi, hg⟩) (by rw [g]; exact I1.bare) (fun _ z => nomatch z)
    have e : s2 = { s1 with heap := s2.heap, gens := s2.gens, drawn := s2.drawn, toks := s2.toks } := by
      cases s2
      cases s1
      cases o
      rfl
    rw [e]
    refine ⟨.ref p, _, J, rfl, ?_⟩
    rw [em]
    exact q1 p hn
  · obtain ⟨its, r, pl, hz⟩ := I1.tuple hq
    refine set_of_tup ns (I1.ok.hd hc) pl (by simpa using RZ.intsAre_vals r) (fun h i c R => by have := few _ h _ i c R; unfold scanBound; omega) fun w1 t1 c1 R k => ?_
    refine PyProof.Rows.args_nil ?_
    have I2 : Inv X pins σ H1 { s1 with heap := w1, toks := t1 } := I1.kept k
    have c64 : c1 < 64 := few _ _ _ ns.length c1 (by rw [List.take_length]; exact R)
    refine sorted_set R (I2.ok.hd hc) c64 fun s2 p out c ms k2 g o hp hg hi hs hm hl => ?_
    have em : ms = sortZ (dedZ ns) := sortSet_eq hs fun k => by rw [hm k]; simp
    have hlen : (ms.map V.int).length ≤ sizeLine := by rw [List.length_map, hl, sizeLine_eq]; omega
    have hn : H1 p = none := I2.hok.fresh hp
    have J : Inv X pins σ (upd H1 p (.lst (ms.map V.int))) { s1 with heap := s2.heap, gens := s2.gens, drawn := s2.drawn, toks := s2.toks } :=
      L2.Inv.call (s := { s1 with heap := w1, toks := t1 }) (ch := []) I2 (Un.laid k2 hp hn) (I2.hok.laid k2 hp ⟨hlen, out.toList, c, vals_of_ints hi, hg⟩) (by rw [g]; exact I1.bare) (fun _ z => nomatch z)
    have e : s2 = { s1 with heap := s2.heap, gens := s2.gens, drawn := s2.drawn, toks := s2.toks } := by
      cases s2
      cases s1
      cases o
      rfl
    rw [e]
    refine ⟨.ref p, _, J, rfl, ?_⟩
    rw [em]
    exact q1 p hn
/-- sum(xs), xs a tuple of ints -/
def rSumT (K : PySem.W.Frag) : List V → Hp → VK → Prop := fun vs H Q => ∃ (a : Addr) (ns : List Int), vs = [V.ref a] ∧ SqT K H a (ns.map V.int) ∧ Q (.int ns.sum) H
theorem preSum_all (ns : List Int) : ∀ i, i ≤ ns.length → PySem.preSum (fun j => ns.getD j 0) i = (ns.take i).sum
  | 0, _ => by simp [PySem.preSum]
  | i + 1, h => by
    have e : ns.getD i 0 = ns[i] := by rw [List.getD_eq_getElem?_getD, List.getElem?_eq_getElem h]; rfl
    show PySem.preSum (fun j => ns.getD j 0) i + ns.getD i 0 = _
    have e2 : ns.take (i + 1) = ns.take i ++ [ns[i]] := by rw [List.take_add_one, List.getElem?_eq_getElem h]; rfl
    rw [preSum_all ns i (Nat.le_of_succ_le h), e2, e, List.sum_append]
    show _ = _ + (ns[i] + 0)
    rw [Int.add_zero]
theorem cr_sumT (hc : X.calm = true) : CallR X (.builtin "sum") (rSumT X.K) := by
  intro pins s σ H vs us Q I r h
  obtain ⟨a, ns, rfl, hs, q⟩ := h
  obtain ⟨its, rv, tu, _⟩ := I.tuple hs
  rw [Vals.ref1 r]
  have ar := RZ.intsAre_vals rv
  have len : its.toArray.size = ns.length := by rw [List.size_toArray, ← rv.length, List.length_map]
  have lta : a < s.heap.objs.size := by obtain ⟨o, e, _⟩ := tu; exact Heap.lt_size e
  refine PySem.call_sum_walkG (wpAny_pyIter_tuple tu ⟨_, _, _, _, _, _, fun j => ns.getD j 0, rfl, Walks.tuple (by simp [I.ok.hd hc]) _ a (Nat.ne_of_lt lta) its.toArray, ⟨⟨_, Heap.get?_push_size _ rfl, rfl, rfl⟩, tu.push _⟩, fun b hb => ?_, fun i v hv => ?_, fun h' tk t' k => ?_⟩)
  · rcases List.mem_cons.mp hb with z | z
    · rw [z]; exact Nat.lt_of_lt_of_eq (Nat.lt_succ_self _) (Heap.size_push ..).symm
    · rw [List.mem_singleton.mp z]; exact Nat.lt_of_lt_of_eq (Nat.lt_succ_of_lt lta) (Heap.size_push ..).symm
  · exact PyProof.Rows.IntsAre.int_at ar i v (by rw [← Array.getElem?_toList] at hv; exact hv)
  · rw [len, preSum_all ns ns.length (Nat.le_refl _), List.take_length]
    refine ⟨.int ns.sum, H, I.kept fun b o e => ?_, ⟨_, rfl⟩, q⟩
    exact k b o (fun z => absurd (List.mem_singleton.mp z) (Nat.ne_of_lt (Heap.lt_size e))) (Heap.get?_push_of_some _ e)
end
end DD
namespace DD
open L2 PyProof.Rows PySem PySem.Spec
variable [TabT]
abbrev Trk (A : AS) (H : Hp) : Prop := ∀ a, A a → H a ≠ none
/-- what follows a result -/
abbrev Aft (K : PySem.W.Frag) (cl : Nat → Addr) (A : AS) (H : Hp) (r : Fl × D) (Q : VK) : Prop := ∀ v H', Ext H H' → Rs K cl (fun a => H a = none) A H' r v → Q v H'
section
variable {X : Cx} {K : PySem.W.Frag} {cl : Nat → Addr} {A : AS} {H : Hp}
theorem OpR.imp {f : Value → Value → Sem Value} {r r' : R2} (h : OpR X f r) (i : ∀ x y H Q, r' x y H Q → r x y H Q) : OpR X f r' :=
  fun pins s σ H x y v u Q I rx ry q => h pins s σ H x y v u Q I rx ry (i x y H Q q)
theorem CallR.imp {f : Value} {r r' : List V → Hp → VK → Prop} (h : CallR X f r) (i : ∀ xs H Q, r' xs H Q → r xs H Q) : CallR X f r' :=
  fun pins s σ H xs us Q I rs q => h pins s σ H xs us Q I rs (i xs H Q q)
theorem IxR.imp {r r' : R2} (h : IxR X r) (i : ∀ x y H Q, r' x y H Q → r x y H Q) : IxR X r' :=
  fun value slice pins s σ H x y v u Q I rx ry q hs => h value slice pins s σ H x y v u Q I rx ry (i x y H Q q) hs
def opA : Op → Operator
  | .add => .Add | .sub => .Sub | .mul => .Mult | .fdiv => .FloorDiv | .mod => .Mod | .pow => .Pow
def coA : CO → CmpOp
  | .eq => .Eq | .ne => .NotEq | .lt => .Lt | .le => .LtE | .gt => .Gt | .ge => .GtE | .isin => .In | .notin => .NotIn | .iss => .Is | .isnot => .IsNot
def rBin (K : PySem.W.Frag) (cl : Nat → Addr) (o : Op) : R2 := fun x y H Q =>
  ∃ A d e r, Lk K cl A H d x ∧ Lk K cl A H e y ∧ Trk A H ∧ binD o d e = .ok r ∧ Aft K cl A H r Q
def rCmp (K : PySem.W.Frag) (cl : Nat → Addr) (o : CO) : R2 := fun x y H Q =>
  ∃ A d e b, Lk K cl A H d x ∧ Lk K cl A H e y ∧ Trk A H ∧ cmpD o d e = .ok b ∧ Q (.bl b) H
theorem small_iff {i : Int} : small i = true ↔ -(2 ^ 64) < i ∧ i < 2 ^ 64 := by
  unfold small
  rw [Bool.and_eq_true, decide_eq_true_eq, decide_eq_true_eq]
  constructor
  · rintro ⟨a, b⟩; exact ⟨by omega, by omega⟩
  · rintro ⟨a, b⟩; exact ⟨by omega, by omega⟩
theorem line_eq : sizeLine = 16777216 := sizeLine_eq
theorem ifok {a : Type} {c : Prop} [Decidable c] {x : R a} {r : a} (h : (if c then x else R.bad) = .ok r) : c ∧ x = .ok r := by
  by_cases hc : c
  · rw [if_pos hc] at h; exact ⟨hc, h⟩
  · rw [if_neg hc] at h; cases h
theorem ofO_ok {a : Type} {x : Option a} {r : a} (h : ofO x = .ok r) : x = some r := by
  cases x with
  | none => cases h
  | some y => cases h; rfl
theorem bin_add : OpR X (binaryOp .Add) (rBin X.K cl .add) := by
  refine OpR.imp (OpR.or op_add (OpR.or op_add_str (OpR.or op_catA op_cat))) fun x y H Q h => ?_
  obtain ⟨A, d, e, r, hd, he, ht, hb, q⟩ := h
  cases hd with
  | int i =>
    cases he with
    | int j => cases hb; exact .inl ⟨i, j, rfl, rfl, q _ H (Ext.refl H) (.int _)⟩
    | _ => cases hb
  | str i =>
    cases he with
    | str j =>
      obtain ⟨hl, hb⟩ := ifok hb
      cases hb
      exact .inr (.inl ⟨i, j, rfl, rfl, by rw [line_eq]; exact hl, q _ H (Ext.refl H) (.str _)⟩)
    | _ => cases hb
  | @tup ds1 a1 vs1 t1 r1 l1 =>
    cases he with
    | @tup ds2 a2 vs2 t2 r2 l2 =>
      obtain ⟨hl, hb⟩ := ifok hb
      cases hb
      refine .inr (.inr (.inl ⟨a1, a2, vs1, vs2, rfl, rfl, t1.sq, t2.sq, by rw [line_eq, ← r1.length, ← r2.length]; exact hl, fun e => ?_, fun n e => ?_, fun n1 n2 p hp => ?_⟩))
      · subst e
        cases r1
        exact q _ H (Ext.refl H) (.tup t2 r2 l2)
      · subst e
        cases r2
        exact q _ H (Ext.refl H) (.tup t1 (by rw [List.append_nil]; exact r1) (by rw [List.append_nil]; exact l1))
      · exact q _ _ (Ext.new hp) (Rs.newT hp ht (r1.append r2) (by rw [List.length_append]; exact hl))
    | _ => cases hb
  | @lst ds1 a1 vs1 h1 r1 l1 =>
    cases he with
    | @lst ds2 a2 vs2 h2 r2 l2 =>
      obtain ⟨hl, hb⟩ := ifok hb
      cases hb
      refine .inr (.inr (.inr ⟨a1, a2, vs1, vs2, rfl, rfl, h1, h2, by rw [line_eq, ← r1.length, ← r2.length]; exact hl, fun p hp => ?_⟩))
      exact q _ _ (Ext.new hp) (Rs.newL hp ht (r1.append r2) (by rw [List.length_append]; exact hl))
    | _ => cases hb
  | _ => cases he <;> cases hb
theorem bin_int {o : Op} {f : Value → Value → Sem Value} {C : Int → Int → Prop} {g : Int → Int → Int} (h : OpR X f (rI C fun i j => .int (g i j)))
    (b : ∀ d e r, binD o d e = .ok r → ∃ i j, d = .int i ∧ e = .int j ∧ C i j ∧ r = (.dat, .int (g i j))) : OpR X f (rBin X.K cl o) := by
  refine OpR.imp h fun x y H Q h => ?_
  obtain ⟨A, d, e, r, hd, he, ht, hb, q⟩ := h
  obtain ⟨i, j, rfl, rfl, c, rfl⟩ := b d e r hb
  cases hd
  cases he
  exact ⟨i, j, rfl, rfl, c, q _ H (Ext.refl H) (.int _)⟩
theorem op_sub' : OpR X (binaryOp .Sub) (rI (fun _ _ => True) fun i j => .int (i - j)) := OpR.imp op_sub fun _ _ _ _ ⟨i, j, a, b, _, q⟩ => ⟨i, j, a, b, q⟩
theorem reps_rep {K : PySem.W.Frag} {cl : Nat → Addr} {A : AS} {H : Hp} {ds : List D} {vs : List V} (r : Reps K cl A H ds vs) : ∀ n : Nat, Reps K cl A H (List.replicate n ds).flatten (List.replicate n vs).flatten
  | 0 => .nil
  | n + 1 => by
    rw [List.replicate_succ, List.replicate_succ, List.flatten_cons, List.flatten_cons]
    exact r.append (reps_rep r n)
theorem bin_mul : OpR X (binaryOp .Mult) (rBin X.K cl .mul) := by
  refine OpR.imp (OpR.or op_mul (OpR.or op_repT op_rep)) fun x y H Q h => ?_
  obtain ⟨A, d, e, r, hd, he, ht, hb, q⟩ := h
  cases hd with
  | int i =>
    cases he with
    | int j =>
      obtain ⟨hc, hb⟩ := ifok hb
      cases hb
      refine .inl ⟨i, j, rfl, rfl, ?_, q _ H (Ext.refl H) (.int _)⟩
      rcases Bool.or_eq_true _ _ |>.mp hc with z | z
      · exact .inl (small_iff.mp z)
      · exact .inr (small_iff.mp z)
    | _ => cases hb
  | @tup ds1 a1 vs1 t1 r1 l1 =>
    cases he with
    | int k =>
      obtain ⟨hc, hb⟩ := ifok hb
      cases hb
      rw [Bool.and_eq_true, decide_eq_true_eq, Bool.not_eq_true'] at hc
      obtain ⟨h0, h2, h3, h4⟩ := hc
      have hl := r1.length
      refine .inr (.inl ⟨a1, k, vs1, rfl, rfl, t1.sq, fun z => ?_, h2, h3, by omega, fun p hp => ?_⟩)
      · subst z
        cases r1
        cases h0
      · refine q _ _ (Ext.new hp) (Rs.newT hp ht (reps_rep r1 _) ?_)
        have : (List.replicate k.toNat ds1).flatten.length = k.toNat * ds1.length := by simp
        rw [this]
        have h5 : k.toNat ≤ 1000 := by omega
        exact Nat.le_trans (Nat.mul_le_mul h5 h4) (by decide)
    | _ => cases hb
  | @lst ds1 a1 vs1 h1 r1 l1 =>
    cases he with
    | int k =>
      obtain ⟨hc, hb⟩ := ifok hb
      cases hb
      obtain ⟨h3, h2, h4⟩ := of_decide_eq_true hc
      have hl := r1.length
      have h5 : k.toNat ≤ 1000 := by omega
      have h6 : k.toNat * ds1.length ≤ 1000 * 1000 := Nat.mul_le_mul h5 h4
      refine .inr (.inr ⟨a1, k, vs1, rfl, rfl, h1, by omega, by omega, ?_, fun p hp => ?_⟩)
      · rw [line_eq, ← hl, Nat.mul_comm]; omega
      · refine q _ _ (Ext.new hp) (Rs.newL hp ht (reps_rep r1 _) ?_)
        have : (List.replicate k.toNat ds1).flatten.length = k.toNat * ds1.length := by simp
        rw [this]; omega
    | _ => cases hb
  | _ => cases he <;> cases hb
theorem op_bin (o : Op) : OpR X (binaryOp (opA o)) (rBin X.K cl o) := by
  cases o with
  | add => exact bin_add
  | sub =>
    refine bin_int op_sub' fun d e r h => ?_
    cases d <;> cases e <;> first | (cases h; exact ⟨_, _, rfl, rfl, trivial, rfl⟩) | cases h
  | mul => exact bin_mul
  | fdiv =>
    refine bin_int op_fdiv fun d e r h => ?_
    cases d with
    | int i =>
      cases e with
      | int j =>
        obtain ⟨hc, h⟩ := ifok h
        cases h
        rw [Bool.and_eq_true, decide_eq_true_eq, decide_eq_true_eq] at hc
        exact ⟨i, j, rfl, rfl, hc, rfl⟩
      | _ => cases h
    | _ => cases e <;> cases h
  | mod =>
    refine bin_int op_mod fun d e r h => ?_
    cases d with
    | int i =>
      cases e with
      | int j =>
        obtain ⟨hc, h⟩ := ifok h
        cases h
        exact ⟨i, j, rfl, rfl, hc, rfl⟩
      | _ => cases h
    | _ => cases e <;> cases h
  | pow =>
    refine bin_int op_pow fun d e r h => ?_
    cases d with
    | int i =>
      cases e with
      | int j =>
        obtain ⟨hc, h⟩ := ifok h
        cases h
        rw [Bool.and_eq_true, Bool.and_eq_true, decide_eq_true_eq, decide_eq_true_eq] at hc
        have := small_iff.mp hc.2
        exact ⟨i, j, rfl, rfl, ⟨hc.1.1, hc.1.2, by omega⟩, rfl⟩
      | _ => cases h
    | _ => cases e <;> cases h
mutual
theorem Rep.dp : ∀ {d : D} {p : PyData} {v : V}, toP d = some p → Rep K cl A H d v → Dp K H v p
  | .non, _, _, e, .non => by cases e; exact .non
  | .bl b, _, _, e, .bl _ => by cases e; exact .bl b
  | .int i, _, _, e, .int _ => by cases e; exact .int i
  | .str s, _, _, e, .str _ => by cases e; exact .str s
  | .tup ds, p, _, e, .tup t r l => by
    have e : (toPs ds).map PyData.tuple = some p := e
    cases q : toPs ds with
    | none => rw [q] at e; cases e
    | some ps =>
      rw [q] at e; cases e
      exact .tup t.sq (Reps.dp q r)
  | .lst ds, p, _, e, .lst h n r l => by
    have e : (toPs ds).map PyData.list = some p := e
    cases q : toPs ds with
    | none => rw [q] at e; cases e
    | some ps =>
      rw [q] at e; cases e
      exact .lst (SqL.of h) (Reps.dp q r)
  | .dct _, _, _, e, _ => by cases e
  | .obj _ _, _, _, e, _ => by cases e
  | .scr _, _, _, e, _ => by cases e
theorem Reps.dp : ∀ {ds : List D} {ps : List PyData} {vs : List V}, toPs ds = some ps → Reps K cl A H ds vs → DpAll K H vs ps
  | [], _, _, e, .nil => by cases e; exact .nil
  | d :: ds, ps, _, e, .cons h r => by
    have e : (match toP d, toPs ds with
      | some p, some ps => some (p :: ps)
      | _, _ => none) = some ps := e
    cases q1 : toP d with
    | none => rw [q1] at e; cases e
    | some p =>
      cases q2 : toPs ds with
      | none => rw [q1, q2] at e; cases e
      | some ps' =>
        rw [q1, q2] at e
        cases e
        exact .cons (Rep.dp q1 h) (Reps.dp q2 r)
end
theorem Lk.dp {d : D} {p : PyData} {v : V} (e : toP d = some p) (h : Lk K cl A H d v) : Dp K H v p := by
  cases h with
  | non => exact Rep.dp (A := A) (cl := cl) e .non
  | bl b => exact Rep.dp (A := A) (cl := cl) e (.bl b)
  | int i => exact Rep.dp (A := A) (cl := cl) e (.int i)
  | str s => exact Rep.dp (A := A) (cl := cl) e (.str s)
  | tup t r l => exact Rep.dp e (.tup t r l)
  | lst h r l => exact Rep.dp (A := noA) e (.lst h (fun z => z) (r.mv (Mv.less fun a z => z.elim)) l)
  | dct t r l => cases e
  | obj h => cases e
  | scr t => cases e
theorem eqvD_ok {x y : D} {b : Bool} (h : eqvD x y = .ok b) : (∃ p q, toP x = some p ∧ toP y = some q ∧ SeqAt.shaped p = true ∧ SeqAt.shaped q = true ∧ b = PyData.eqv p q) ∨ ∃ ks ls, x = .dct ks ∧ y = .dct ls ∧ sameK ks ls = true ∧ b = true := by
  unfold eqvD at h
  have dict : eqvK x y = .ok b → ∃ ks ls, x = .dct ks ∧ y = .dct ls ∧ sameK ks ls = true ∧ b = true := by
    intro h
    unfold eqvK at h
    split at h
    · obtain ⟨c, h⟩ := ifok h
      cases h
      exact ⟨_, _, rfl, rfl, c, rfl⟩
    · cases h
  cases hx : toP x with
  | none => rw [hx] at h; exact .inr (dict h)
  | some p =>
    cases hy : toP y with
    | none => rw [hx, hy] at h; exact .inr (dict h)
    | some q =>
      rw [hx, hy] at h
      obtain ⟨hc, h⟩ := ifok h
      cases h
      rw [Bool.and_eq_true] at hc
      exact .inl ⟨p, q, rfl, rfl, hc.1, hc.2, rfl⟩
theorem sameF_ok {d e : D} {v w : V} (h : sameF d e = true) (rv : Rep K cl A H d v) (rw_ : Rep K cl A H e w) : w = v ∧ flatB v = true := by
  cases rv with
  | non => cases rw_ <;> first | exact ⟨rfl, rfl⟩ | cases h
  | bl a =>
    cases rw_ with
    | bl b => cases beq_iff_eq.mp h; exact ⟨rfl, rfl⟩
    | _ => cases h
  | int a =>
    cases rw_ with
    | int b => cases beq_iff_eq.mp h; exact ⟨rfl, rfl⟩
    | _ => cases h
  | str a =>
    cases rw_ with
    | str b => cases of_decide_eq_true h; exact ⟨rfl, rfl⟩
    | _ => cases h
  | _ => cases rw_ <;> cases h
theorem op_eq_dictR (hu : X.A.units < cLine) : OpR X (compareOp .Eq) (fun x y H Q => ∃ a b ks ls, x = .ref a ∧ y = .ref b ∧ Rd H a (.dK ks) ∧ Rd H b (.dK ls) ∧ ks.length = ls.length ∧ (∀ p ∈ ks, valV ls p.1 = some p.2 ∧ flatB p.2 = true) ∧ Q (.bl true) H) := by
  intro pins s σ H x y v u Q I rx ry h
  obtain ⟨a, b, ks, ls, rfl, rfl, ea, eb, hlen, hp, q⟩ := h
  obtain rfl : v = Value.ref a := rx
  obtain rfl : u = Value.ref b := ry
  obtain ⟨_, ya, va, ra, da⟩ := dk_rd I.hok ea
  obtain ⟨_, yb, vb, rb, db⟩ := dk_rd I.hok eb
  have hl : va.length = vb.length := by rw [← ra.length, ← rb.length]; exact hlen
  exact PySem.W.keq_eq (knd := mixKind X.prog X.w) (r := true) ya yb da db hu (fun _ => hits_all rb ra hp) (fin_bl I q (by simp [hl]))
theorem op_ne_dictR (hu : X.A.units < cLine) : OpR X (compareOp .NotEq) (fun x y H Q => ∃ a b ks ls, x = .ref a ∧ y = .ref b ∧ Rd H a (.dK ks) ∧ Rd H b (.dK ls) ∧ ks.length = ls.length ∧ (∀ p ∈ ks, valV ls p.1 = some p.2 ∧ flatB p.2 = true) ∧ Q (.bl false) H) := by
  intro pins s σ H x y v u Q I rx ry h
  obtain ⟨a, b, ks, ls, rfl, rfl, ea, eb, hlen, hp, q⟩ := h
  obtain rfl : v = Value.ref a := rx
  obtain rfl : u = Value.ref b := ry
  obtain ⟨_, ya, va, ra, da⟩ := dk_rd I.hok ea
  obtain ⟨_, yb, vb, rb, db⟩ := dk_rd I.hok eb
  have hl : va.length = vb.length := by rw [← ra.length, ← rb.length]; exact hlen
  exact PySem.W.keq_ne (knd := mixKind X.prog X.w) (r := true) ya yb da db hu (fun _ => hits_all rb ra hp) (fin_bl I q (by simp [hl]))
theorem RepK.val0 {k : Key} : ∀ {ds : List (Key × D)} {vs : List (Key × V)}, RepK K cl A H ds vs → ∀ d, valD ds k = some d → ∃ v, valV vs k = some v ∧ Rep K cl A H d v
  | _, _, .nil, _, h => by cases h
  | _, _, .cons (k := k') (d := d) (v := v) h r, e0, h0 => by
    by_cases e : k' = k
    · unfold valD at h0
      rw [List.find?_cons, decide_eq_true e] at h0
      cases h0
      exact ⟨v, valV_pos (p := (k', v)) e, h⟩
    · unfold valD at h0
      rw [List.find?_cons, decide_eq_false e] at h0
      rw [valV_neg (p := (k', v)) e]
      exact r.val0 e0 h0
theorem sameK_ok {ls : List (Key × D)} {ws : List (Key × V)} (rl : RepK K cl A H ls ws) : ∀ {ks : List (Key × D)} {vs : List (Key × V)}, RepK K cl A H ks vs → (ks.all fun p => match valD ls p.1 with
      | some y => sameF p.2 y
      | none => false) = true → ∀ p ∈ vs, valV ws p.1 = some p.2 ∧ flatB p.2 = true
  | _, _, .nil, _, p, hp => by cases hp
  | _, _, .cons (k := k') (d := d) (v := v) h r, a, p, hp => by
    rw [List.all_cons, Bool.and_eq_true] at a
    rcases List.mem_cons.mp hp with e | hp
    · subst e
      have a1 := a.1
      cases e : valD ls k' with
      | none => rw [e] at a1; cases a1
      | some y =>
        rw [e] at a1
        obtain ⟨w, q1, q2⟩ := rl.val0 y e
        obtain ⟨e1, e2⟩ := sameF_ok a1 h q2
        subst e1
        exact ⟨q1, e2⟩
    · exact sameK_ok rl r a.2 p hp
theorem same_lk {ks ls : List (Key × D)} {x y : V} (h : sameK ks ls = true) (hx : Lk K cl A H (.dct ks) x) (hy : Lk K cl A H (.dct ls) y) : ∃ a b vs ws, x = .ref a ∧ y = .ref b ∧ Rd H a (.dK vs) ∧ Rd H b (.dK ws) ∧ vs.length = ws.length ∧ ∀ p ∈ vs, valV ws p.1 = some p.2 ∧ flatB p.2 = true := by
  unfold sameK at h
  rw [Bool.and_eq_true, decide_eq_true_eq] at h
  cases hx with
  | dct h1 r1 _ =>
    cases hy with
    | dct h2 r2 _ => exact ⟨_, _, _, _, rfl, rfl, h1, h2, by rw [← r1.length, ← r2.length]; exact h.1, sameK_ok r2 r1 h.2⟩
theorem cmp_eq (hu : X.A.units + 64 < cLine) : OpR X (compareOp .Eq) (rCmp X.K cl .eq) := by
  refine OpR.imp (OpR.or (op_eqD hu) (op_eq_dictR (by omega))) fun x y H Q h => ?_
  obtain ⟨A, d, e, b, hd, he, ht, hb, q⟩ := h
  rcases eqvD_ok hb with ⟨p1, p2, e1, e2, s1, s2, rfl⟩ | ⟨ks, ls, rfl, rfl, e3, rfl⟩
  · exact .inl ⟨p1, p2, hd.dp e1, he.dp e2, s1, s2, q⟩
  · obtain ⟨a, b, vs, ws, e4, e5, e6, e7, e8, e9⟩ := same_lk e3 hd he
    exact .inr ⟨a, b, vs, ws, e4, e5, e6, e7, e8, e9, q⟩
theorem cmp_ne (hu : X.A.units + 64 < cLine) : OpR X (compareOp .NotEq) (rCmp X.K cl .ne) := by
  refine OpR.imp (OpR.or (op_neD hu) (op_ne_dictR (by omega))) fun x y H Q h => ?_
  obtain ⟨A, d, e, b, hd, he, ht, hb, q⟩ := h
  obtain ⟨c, hb, hc⟩ := R.bind_eq_ok hb
  rcases eqvD_ok hb with ⟨p1, p2, e1, e2, s1, s2, rfl⟩ | ⟨ks, ls, rfl, rfl, e3, rfl⟩
  · cases hc
    exact .inl ⟨p1, p2, hd.dp e1, he.dp e2, s1, s2, q⟩
  · cases hc
    obtain ⟨a, b, vs, ws, e4, e5, e6, e7, e8, e9⟩ := same_lk e3 hd he
    exact .inr ⟨a, b, vs, ws, e4, e5, e6, e7, e8, e9, q⟩
theorem cmp_int {o : CO} {f : Value → Value → Sem Value} {g : Int → Int → Bool} (h : OpR X f (rI0 fun i j => .bl (g i j)))
    (b : ∀ d e r, cmpD o d e = .ok r → ∃ i j, d = .int i ∧ e = .int j ∧ r = g i j) : OpR X f (rCmp X.K cl o) := by
  refine OpR.imp h fun x y H Q h => ?_
  obtain ⟨A, d, e, r, hd, he, ht, hb, q⟩ := h
  obtain ⟨i, j, rfl, rfl, rfl⟩ := b d e r hb
  cases hd
  cases he
  exact ⟨i, j, rfl, rfl, q⟩
theorem Rep.flat {d : D} {v : V} (f : flatD d = true) (h : Rep K cl A H d v) : flatV v = true ∧ ∀ e w, flatD e = true → Rep K cl A H e w → eqV v w = eqF d e := by
  cases h with
  | non => refine ⟨rfl, fun e w g k => ?_⟩; cases k <;> first | rfl | cases g
  | bl b => refine ⟨rfl, fun e w g k => ?_⟩; cases k <;> first | rfl | cases g
  | int i => refine ⟨rfl, fun e w g k => ?_⟩; cases k <;> first | rfl | cases g
  | str s => refine ⟨rfl, fun e w g k => ?_⟩; cases k <;> first | rfl | cases g
  | _ => cases f
theorem Lk.flat {d : D} {v : V} (f : flatD d = true) (h : Lk K cl A H d v) : Rep K cl A H d v := by
  cases h with
  | non => exact .non
  | bl b => exact .bl b
  | int i => exact .int i
  | str s => exact .str s
  | _ => cases f
theorem Reps.flat : ∀ {ds : List D} {vs : List V}, ds.all flatD = true → Reps K cl A H ds vs → vs.all flatV = true
  | _, _, _, .nil => rfl
  | _, _, f, .cons h r => by
    rw [List.all_cons, Bool.and_eq_true] at f ⊢
    exact ⟨(h.flat f.1).1, r.flat f.2⟩
theorem Reps.inD {x : D} {v : V} (fx : flatD x = true) (hx : Rep K cl A H x v) : ∀ {ds : List D} {vs : List V}, ds.all flatD = true → Reps K cl A H ds vs → inV v vs = ds.any fun y => eqF y x
  | _, _, _, .nil => rfl
  | _, _, f, .cons h r => by
    rw [List.all_cons, Bool.and_eq_true] at f
    show ((eqV _ v) || inV v _) = _
    rw [List.any_cons, (h.flat f.1).2 x v fx hx, Reps.inD fx hx f.2 r]
theorem inD_ok {x : D} {ys : List D} {b : Bool} (h : inD x ys = .ok b) : flatD x = true ∧ ys.all flatD = true ∧ b = ys.any fun y => eqF y x := by
  obtain ⟨hc, h⟩ := ifok h
  cases h
  rw [Bool.and_eq_true] at hc
  exact ⟨hc.1, hc.2, rfl⟩
theorem Lk.key {d : D} {v : V} {k : Key} (e : keyD d = some k) (h : Lk K cl A H d v) : v = kV k := by
  cases h with
  | int i => cases e; rfl
  | str s => cases e; rfl
  | _ => cases e
theorem RepK.val {k : Key} : ∀ {ds : List (Key × D)} {vs : List (Key × V)}, RepK K cl A H ds vs →
    (valD ds k = none ∧ valV vs k = none) ∨ ∃ d v, valD ds k = some d ∧ valV vs k = some v ∧ Rep K cl A H d v
  | _, _, .nil => .inl ⟨rfl, rfl⟩
  | _, _, .cons (k := k') (d := d) (v := v) h r => by
    by_cases e : k' = k
    · refine .inr ⟨d, v, ?_, valV_pos (p := (k', v)) e, h⟩
      unfold valD
      rw [List.find?_cons, decide_eq_true e]; rfl
    · have e1 : ∀ ds' : List (Key × D), valD ((k', d) :: ds') k = valD ds' k := fun ds' => by
        unfold valD
        rw [List.find?_cons, decide_eq_false e]
      rw [e1, valV_neg (p := (k', v)) e]
      exact r.val
theorem op_inD (hu : X.A.units + 1 < cLine) : OpR X (compareOp .In) (fun x y H Q => ∃ a o, y = .ref a ∧ DGet H a x o ∧ Q (.bl o.isSome) H) := by
  intro pins s σ H x y v u Q I rx ry h
  obtain ⟨a, o, rfl, g, q⟩ := h
  cases ry
  exact d_in hu I g rx fun s3 I3 => ⟨.bl o.isSome, H, I3, rfl, q⟩
theorem op_notInD (hu : X.A.units + 1 < cLine) : OpR X (compareOp .NotIn) (fun x y H Q => ∃ a o, y = .ref a ∧ DGet H a x o ∧ Q (.bl (!o.isSome)) H) := by
  intro pins s σ H x y v u Q I rx ry h
  obtain ⟨a, o, rfl, g, q⟩ := h
  cases ry
  exact d_notIn hu I g rx fun s3 I3 => ⟨.bl (!o.isSome), H, I3, rfl, q⟩
theorem cmp_in (hu : X.A.units + 1 < cLine) : OpR X (compareOp .In) (rCmp X.K cl .isin) := by
  refine OpR.imp (OpR.or op_in_seq (op_inD hu)) fun x y H Q h => ?_
  obtain ⟨A, d, e, b, hd, he, ht, hb, q⟩ := h
  cases he with
  | @tup ds a vs t r l =>
    obtain ⟨f1, f2, rfl⟩ := inD_ok hb
    have hx := hd.flat f1
    refine .inl ⟨a, vs, rfl, .inr t.sq, (hx.flat f1).1, r.flat f2, ?_⟩
    show Q (.bl (inV x vs)) H
    rw [Reps.inD f1 hx f2 r]; exact q
  | @lst ds a vs h r l =>
    obtain ⟨f1, f2, rfl⟩ := inD_ok hb
    have hx := hd.flat f1
    refine .inl ⟨a, vs, rfl, .inl (SqL.of h), (hx.flat f1).1, r.flat f2, ?_⟩
    show Q (.bl (inV x vs)) H
    rw [Reps.inD f1 hx f2 r]; exact q
  | @dct kvs a ks t r l =>
    have hb : (match keyD d with
      | some k => R.ok (valD kvs k).isSome
      | none => .bad) = .ok b := by cases d <;> exact hb
    cases ek : keyD d with
    | none => rw [ek] at hb; cases hb
    | some k =>
      rw [ek] at hb; cases hb
      have ev := hd.key ek
      subst ev
      refine .inr ⟨a, valV ks k, rfl, .inl ⟨ks, k, t, rfl, rfl⟩, ?_⟩
      rcases r.val (k := k) with ⟨e1, e2⟩ | ⟨d', v', e1, e2, _⟩
      · rw [e2]; rw [e1] at q; exact q
      · rw [e2]; rw [e1] at q; exact q
  | _ => cases hb
theorem cmp_notin (hu : X.A.units + 1 < cLine) : OpR X (compareOp .NotIn) (rCmp X.K cl .notin) := by
  refine OpR.imp (OpR.or op_notIn_seq (op_notInD hu)) fun x y H Q h => ?_
  obtain ⟨A, d, e, b, hd, he, ht, hb, q⟩ := h
  cases he with
  | @tup ds a vs t r l =>
    obtain ⟨c, hb2, hc⟩ := R.bind_eq_ok hb
    cases hc
    obtain ⟨f1, f2, rfl⟩ := inD_ok hb2
    have hx := hd.flat f1
    refine .inl ⟨a, vs, rfl, .inr t.sq, (hx.flat f1).1, r.flat f2, ?_⟩
    show Q (.bl (!inV x vs)) H
    rw [Reps.inD f1 hx f2 r]; exact q
  | @lst ds a vs h r l =>
    obtain ⟨c, hb2, hc⟩ := R.bind_eq_ok hb
    cases hc
    obtain ⟨f1, f2, rfl⟩ := inD_ok hb2
    have hx := hd.flat f1
    refine .inl ⟨a, vs, rfl, .inl (SqL.of h), (hx.flat f1).1, r.flat f2, ?_⟩
    show Q (.bl (!inV x vs)) H
    rw [Reps.inD f1 hx f2 r]; exact q
  | @dct kvs a ks t r l =>
    have hb : (match keyD d with
      | some k => R.ok (!(valD kvs k).isSome)
      | none => .bad) = .ok b := by cases d <;> exact hb
    cases ek : keyD d with
    | none => rw [ek] at hb; cases hb
    | some k =>
      rw [ek] at hb; cases hb
      have ev := hd.key ek
      subst ev
      refine .inr ⟨a, valV ks k, rfl, .inl ⟨ks, k, t, rfl, rfl⟩, ?_⟩
      rcases r.val (k := k) with ⟨e1, e2⟩ | ⟨d', v', e1, e2, _⟩
      · rw [e2]; rw [e1] at q; exact q
      · rw [e2]; rw [e1] at q; exact q
  | _ => cases hb
theorem op_cmp (hu : X.A.units + 64 < cLine) (o : CO) : OpR X (compareOp (coA o)) (rCmp X.K cl o) := by
  have hu1 : X.A.units + 1 < cLine := by omega
  cases o with
  | eq => exact cmp_eq hu
  | ne => exact cmp_ne hu
  | lt =>
    refine OpR.imp (OpR.or op_lt op_lt_str) fun x y H Q h => ?_
    obtain ⟨A, d, e, b, hd, he, ht, hb, q⟩ := h
    cases hd with
    | int i =>
      cases he with
      | int j => cases hb; exact .inl ⟨i, j, rfl, rfl, q⟩
      | _ => cases hb
    | str i =>
      cases he with
      | str j => cases hb; exact .inr ⟨i, j, rfl, rfl, q⟩
      | _ => cases hb
    | _ => cases he <;> cases hb
  | le =>
    refine cmp_int op_le fun d e r h => ?_
    cases d <;> cases e <;> first | (cases h; exact ⟨_, _, rfl, rfl, rfl⟩) | cases h
  | gt =>
    refine cmp_int op_gt fun d e r h => ?_
    cases d <;> cases e <;> first | (cases h; exact ⟨_, _, rfl, rfl, rfl⟩) | cases h
  | ge =>
    refine cmp_int op_ge fun d e r h => ?_
    cases d <;> cases e <;> first | (cases h; exact ⟨_, _, rfl, rfl, rfl⟩) | cases h
  | isin => exact cmp_in hu1
  | notin => exact cmp_notin hu1
  | iss =>
    refine OpR.imp op_isN fun x y H Q h => ?_
    obtain ⟨A, d, e, b, hd, he, ht, hb, q⟩ := h
    cases he with
    | non => cases hd <;> (cases hb; exact ⟨rfl, q⟩)
    | _ => cases hb
  | isnot =>
    refine OpR.imp op_notN fun x y H Q h => ?_
    obtain ⟨A, d, e, b, hd, he, ht, hb, q⟩ := h
    cases he with
    | non => cases hd <;> (cases hb; exact ⟨rfl, q⟩)
    | _ => cases hb
def rIdx (K : PySem.W.Frag) (cl : Nat → Addr) : R2 := fun x y H Q =>
  ∃ A d e r, Lk K cl A H d x ∧ Lk K cl A H e y ∧ Trk A H ∧ idxD d e = .ok r ∧ Aft K cl A H (.dat, r) Q
theorem ix_dct (hu : X.A.units + 1 < cLine) : IxR X (fun x y H Q => ∃ a v, x = .ref a ∧ DGet H a y (some v) ∧ Q v H) := by
  intro value slice pins s σ H x y v u Q I rx ry h hs
  obtain ⟨a, w, rfl, g, q⟩ := h
  cases rx
  have hT := dict_typeIs I g
  have h2 : wpAny (model X.prog X.w) X.A (getItem (.ref a) u) (EP X pins σ Q) X.xe s := d_getItem hu I g ry fun w' s3 I3 rw' => ⟨w, H, I3, rw', q⟩
  exact tail_any hT PySem.F.slot_dict_getitem.lookup h2 hs
theorem Reps.atI {ds : List D} {vs : List V} {i : Int} {d : D} (r : Reps K cl A H ds vs) (e : L2.atI ds i = some d) : ∃ v, L2.atI vs i = some v ∧ Rep K cl A H d v := by
  unfold L2.atI at e ⊢
  rw [r.length] at e
  cases q : ixN vs.length i with
  | none => rw [q] at e; cases e
  | some j =>
    rw [q] at e
    exact r.get (i := j) e
theorem op_idx (hu : X.A.units + 1 < cLine) : IxR X (rIdx X.K cl) := by
  refine IxR.imp (IxR.or ix_seq (ix_dct hu)) fun x y H Q h => ?_
  obtain ⟨A, d, e, r, hd, he, ht, hb, q⟩ := h
  cases hd with
  | @tup ds a vs t rr l =>
    cases he with
    | int i =>
      obtain ⟨v, e1, h1⟩ := rr.atI (ofO_ok hb)
      exact .inl (.inr (.inl ⟨a, vs, i, v, rfl, rfl, t.sq, e1, q v H (Ext.refl H) h1⟩))
    | _ => cases hb
  | @lst ds a vs t rr l =>
    cases he with
    | int i =>
      obtain ⟨v, e1, h1⟩ := rr.atI (ofO_ok hb)
      exact .inl (.inl ⟨a, vs, i, v, rfl, rfl, SqL.of t, e1, q v H (Ext.refl H) h1⟩)
    | _ => cases hb
  | @scr ns a t =>
    cases he with
    | int i =>
      have e1 := ofO_ok hb
      cases q2 : L2.atI ns i with
      | none => rw [q2] at e1; cases e1
      | some n =>
        rw [q2] at e1; cases e1
        obtain ⟨j, e3, e4, _⟩ := atI_get q2
        refine .inl (.inl ⟨a, _, i, .int n, rfl, rfl, t.sq, ?_, q _ H (Ext.refl H) (.int n)⟩)
        unfold L2.atI at q2 ⊢
        rw [List.length_map]
        cases q3 : ixN ns.length i with
        | none => rw [q3] at q2; cases q2
        | some j =>
          rw [q3] at q2
          have q2 : ns[j]? = some n := q2
          show (ns.map V.int)[j]? = some (.int n)
          rw [List.getElem?_map, q2]; rfl
    | _ => cases hb
  | str z =>
    cases he with
    | int i =>
      obtain ⟨hl, hb⟩ := ifok hb
      have e1 := ofO_ok hb
      cases q2 : L2.atI z.cps.toList i with
      | none => rw [q2] at e1; cases e1
      | some c =>
        rw [q2] at e1; cases e1
        exact .inl (.inr (.inr ⟨z, i, c, rfl, rfl, by rw [line_eq]; exact hl, q2, q _ H (Ext.refl H) (.str _)⟩))
    | _ => cases hb
  | @dct kvs a ks t rr l =>
    obtain ⟨k, e1, hb⟩ := R.bind_eq_ok (x := ofO (keyD e)) (by cases he <;> exact hb)
    have e1 := ofO_ok e1
    have e2 := ofO_ok hb
    have ev := he.key e1
    subst ev
    rcases rr.val (k := k) with ⟨e3, _⟩ | ⟨d', v', e3, e4, h4⟩
    · rw [e3] at e2; cases e2
    · rw [e3] at e2; cases e2
      exact .inr ⟨a, v', rfl, .inl ⟨ks, k, t, rfl, e4.symm⟩, q _ H (Ext.refl H) h4⟩
  | _ => cases he <;> cases hb
def rSlc (K : PySem.W.Frag) (cl : Nat → Addr) : V → Option Int → Option Int → Hp → VK → Prop := fun x lo hi H Q =>
  ∃ A d r, Lk K cl A H d x ∧ Trk A H ∧ slcD d lo hi = .ok r ∧ Aft K cl A H r Q
theorem SlR.imp {r r' : V → Option Int → Option Int → Hp → VK → Prop} (h : SlR X r) (i : ∀ x l u H Q, r' x l u H Q → r x l u H Q) : SlR X r' :=
  fun pins s σ H x v vl vu lo hi sl Q I rx hs pl pu q => h pins s σ H x v vl vu lo hi sl Q I rx hs pl pu (i _ _ _ _ _ q)
theorem Reps.cut {ds : List D} {vs : List V} (r : Reps K cl A H ds vs) (lo hi : Option Int) : Reps K cl A H (cutD ds lo hi) (cutV vs lo hi) := by
  unfold cutD cutV
  rw [r.length]
  exact (r.drop _).take _
theorem cutD_length (xs : List D) (lo hi : Option Int) : (cutD xs lo hi).length ≤ xs.length := by
  unfold cutD
  rw [List.length_take, List.length_drop]
  omega
theorem op_slc : SlR X (rSlc X.K cl) := by
  refine SlR.imp (SlR.or sl_list (SlR.or sl_tupA sl_str)) fun x lo hi H Q h => ?_
  obtain ⟨A, d, r, hd, ht, hb, q⟩ := h
  cases hd with
  | @lst ds a vs t rr l =>
    cases hb
    exact .inl ⟨a, vs, rfl, SqL.of t, fun p hp => q _ _ (Ext.new hp) (Rs.newL hp ht (rr.cut lo hi) (Nat.le_trans (cutD_length _ _ _) l))⟩
  | @tup ds a vs t rr l =>
    cases hb
    refine .inr (.inl ⟨a, vs, rfl, t.sq, fun e => ?_, fun _ p hp => q _ _ (Ext.new hp) (Rs.newT hp ht (rr.cut lo hi) (Nat.le_trans (cutD_length _ _ _) l))⟩)
    refine q _ _ (Ext.refl H) ?_
    have e2 : cutD ds lo hi = ds := by
      unfold cutD
      rw [rr.length, e.1, e.2, List.drop_zero, Nat.sub_zero, ← rr.length]
      exact List.take_length
    rw [e2]
    exact Rep.tup t rr l
  | str z =>
    obtain ⟨hl, hb⟩ := ifok hb
    cases hb
    exact .inr (.inr ⟨z, rfl, by rw [line_eq]; exact hl, q _ H (Ext.refl H) (.str _)⟩)
  | _ => cases hb
end
end DD
namespace DD
open PySem PySem.Calls PyProof.Rows PySem.W
variable [TabT]
section
variable {prog : Program} {w : World} {A : Around} {s : Shared} {E : Value → Shared → Prop} {β : Type} {vs : List Value} {bs : List β} {enc : β → PyData} {R : Value → β → Prop}
theorem sorted_dataC {x : Value} {Q : Value → Shared → Prop} (hc : Coll prog w s x vs) (e : EachIs R vs bs) (er : EachIs (fun v b => ∃ as, Reads s.heap v (enc b) as) vs bs) (hal : AllAlike (bs.map enc)) (hk : Sortable (bs.map enc)) (hL : bs.length ≤ sizeLine)
    (hu : ∀ b, b ∈ bs → A.units + 2 + (enc b).depth < cLine)
    (fin : ∀ out c g, (∀ b o, s.heap.get? b = some o → g.get? b = some o) → g.get? (s.heap.objs.size + 1) = some (seqObj "list" (List.toArray out) c) → EachIs R out (bs.mergeSort (dataLe false enc)) → Q (.ref (s.heap.objs.size + 1)) { s with heap := g }) :
    wpAny (model prog w) A (call (.builtin "sorted") [x]) Q E s := by
  have er2 : EachIs (fun v b => ∃ as, Reads (sortingHeap (copyHeap s.heap vs) (s.heap.objs.size + 1) vs) v (enc b) as) vs bs := er.mono fun v b z => by
    obtain ⟨as, r⟩ := z
    exact ⟨as, PyProof.Rows.Reads.keeps (fun _ _ => sorting_copy_old) r⟩
  have hv : vs.length ≤ sizeLine := by rw [e.length]; exact hL
  refine sorted_coll hc hv (args_sorted1 _) (fun _ => args_list_sort _) fun E2 => ?_
  refine list_sort_vals (κ := dataKind (sortingHeap (copyHeap s.heap vs) (s.heap.objs.size + 1) vs) (bs.map enc)) (s := { s with heap := copyHeap s.heap vs }) (copyHeap_at s.heap vs) ?_ hv ⟨rfl, ?_⟩
  · exact SortsAt.data (s := { s with heap := sortingHeap (copyHeap s.heap vs) (s.heap.objs.size + 1) vs }) (each_map (R := fun v d => ∃ as, Reads (sortingHeap (copyHeap s.heap vs) (s.heap.objs.size + 1) vs) v d as) enc er2) hal hk (bound_map (A := A.in1.in1) hu)
  · obtain ⟨c, hc2⟩ := sortedAll_at s.heap vs (sortVals (dataKind (sortingHeap (copyHeap s.heap vs) (s.heap.objs.size + 1) vs) (bs.map enc)) false vs vs).toArray
    exact fin _ c _ (fun _ _ => sortedAll_old) hc2 (sortVals_data false e er2 hal)
end
section
open L2 LamX
variable {X : Cx}
def leA (x y : D × V) : Bool := !(dataLt (pD y.1) (pD x.1))
def rSortA (K : PySem.W.Frag) : List V → Hp → VK → Prop := fun xs H Q => ∃ (a : Addr) (bs : List (D × V)), xs = [.ref a] ∧ (SqL K H a (bs.map Prod.snd) ∨ SqT K H a (bs.map Prod.snd)) ∧ (∀ b ∈ bs, Dp K H b.2 (pD b.1)) ∧ alkB (bs.map Prod.fst) = true ∧ srtB (bs.map Prod.fst) = true ∧
  ∀ p, H p = none → Q (.ref p) (upd H p (.lst ((bs.mergeSort leA).map Prod.snd)))
theorem alk_of {ds : List D} (h : alkB ds = true) : AllAlike (ds.map pD) ∧ ∀ d ∈ ds, (toP d).isSome = true ∧ (pD d).depth ≤ 60 := by
  have h := List.all_eq_true.mp h
  refine ⟨fun d hd d' hd' => ?_, fun d hd => ?_⟩
  · obtain ⟨x, hx, rfl⟩ := List.mem_map.mp hd
    obtain ⟨y, hy, rfl⟩ := List.mem_map.mp hd'
    have := h x hx
    rw [Bool.and_eq_true] at this
    exact List.all_eq_true.mp this.2 y hy
  · have := h d hd
    rw [Bool.and_eq_true, Bool.and_eq_true] at this
    exact ⟨this.1.1, of_decide_eq_true this.1.2⟩
theorem toPs_some : ∀ {ds : List D} {ps : List PyData}, toPs ds = some ps → ∀ d ∈ ds, (toP d).isSome = true
  | [], _, _ => fun _ h => nomatch h
  | d :: ds, ps, e => fun x hx => by
    rw [toPs] at e
    cases q1 : toP d with
    | none => rw [q1] at e; cases e
    | some p =>
      cases q2 : toPs ds with
      | none => rw [q1, q2] at e; cases e
      | some qs =>
        rcases List.mem_cons.mp hx with rfl | hx
        · rw [q1]; rfl
        · exact toPs_some q2 x hx
theorem pD_of {d : D} (h : (toP d).isSome = true) : toP d = some (pD d) := by
  unfold pD
  cases e : toP d with
  | none => rw [e] at h; cases h
  | some p => rfl
theorem srt_of {ds : List D} (h : srtB ds = true) (hs : ∀ d ∈ ds, (toP d).isSome = true) : Sortable (ds.map pD) := by
  rcases Bool.or_eq_true_iff.mp h with h | h
  · refine .inl fun d hd => ?_
    obtain ⟨x, hx, rfl⟩ := List.mem_map.mp hd
    have q := List.all_eq_true.mp h x hx
    have hx := pD_of (hs x hx)
    cases x with
    | tup es =>
      cases es with
      | nil => cases q
      | cons y es =>
        rw [toP] at hx
        cases e : toPs (y :: es) with
        | none => rw [e] at hx; cases hx
        | some ps =>
          rw [e] at hx
          have hx : some (PyData.tuple ps) = some (pD (.tup (y :: es))) := hx
          rw [← Option.some.inj hx]
          rw [toPs] at e
          cases q1 : toP y with
          | none => rw [q1] at e; cases e
          | some p =>
            cases q2 : toPs es with
            | none => rw [q1, q2] at e; cases e
            | some qs => rw [q1, q2] at e; cases e; exact ⟨p, qs, rfl⟩
    | _ => cases q
  · refine .inr fun d hd => ?_
    obtain ⟨x, hx, rfl⟩ := List.mem_map.mp hd
    have q := List.all_eq_true.mp h x hx
    have hx := pD_of (hs x hx)
    cases x with
    | non => cases q
    | tup es => cases q
    | bl b => rw [toP] at hx; rw [← Option.some.inj hx]; exact ⟨nofun, nofun⟩
    | int b => rw [toP] at hx; rw [← Option.some.inj hx]; exact ⟨nofun, nofun⟩
    | str b => rw [toP] at hx; rw [← Option.some.inj hx]; exact ⟨nofun, nofun⟩
    | lst es =>
      rw [toP] at hx
      cases e : toPs es with
      | none => rw [e] at hx; cases hx
      | some ps =>
        rw [e] at hx
        have hx : some (PyData.list ps) = some (pD (.lst es)) := hx
        rw [← Option.some.inj hx]; exact ⟨nofun, nofun⟩
    | dct _ => rw [toP] at hx; cases hx
    | obj _ _ => rw [toP] at hx; cases hx
    | odc _ => rw [toP] at hx; cases hx
    | scr _ => rw [toP] at hx; cases hx
theorem each_dp {pins : List (Addr × Obj)} {σ : L2.St} {H : Hp} {s : Shared} (I : Inv X pins σ H s) : ∀ {bs : List (D × V)} {vs : List Value}, Vals (bs.map Prod.snd) vs → (∀ b ∈ bs, Dp X.K H b.2 (pD b.1)) →
    EachIs (fun v (b : D × V) => RelV b.2 v) vs bs ∧ EachIs (fun v (b : D × V) => ∃ as, Reads s.heap v (pD b.1) as) vs bs := by
  intro bs
  induction bs with
  | nil => intro vs r _; cases r; exact ⟨.nil, .nil⟩
  | cons b bs ih =>
    intro vs r hd
    cases r with
    | cons r0 r =>
      obtain ⟨h1, h2⟩ := ih r fun c hc => hd c (List.mem_cons_of_mem _ hc)
      exact ⟨.cons r0 h1, .cons (Dp.reads I _ _ _ (hd b List.mem_cons_self) r0) h2⟩
theorem vals_each : ∀ {bs : List (D × V)} {vs : List Value}, EachIs (fun v (b : D × V) => RelV b.2 v) vs bs → Vals (bs.map Prod.snd) vs
  | _, _, .nil => .nil
  | _, _, .cons r t => .cons r (vals_each t)
theorem cr_sortA (hu : X.A.units + 64 < cLine) : CallR X (.builtin "sorted") (rSortA X.K) := by
  intro pins s σ H xs us Q I r h
  obtain ⟨a, bs, rfl, sq, hd, hal, hs, q⟩ := h
  obtain ⟨u, rfl, ru⟩ := vals1 r
  cases ru
  obtain ⟨al, each⟩ := alk_of hal
  have hsm : ∀ d ∈ bs.map Prod.fst, (toP d).isSome = true := fun d hd => (each d hd).1
  have sb := srt_of hs hsm
  rw [List.map_map] at al sb
  obtain ⟨its, rv, co, len⟩ : ∃ its : List Value, Vals (bs.map Prod.snd) its ∧ Coll X.prog X.w s (.ref a) its ∧ bs.length ≤ sizeLine := by
    rcases sq with sq | sq
    · obtain ⟨its, rv, pl, hz⟩ := I.list sq
      exact ⟨its, rv, coll_list pl.isList (by rw [← rv.length]; exact hz), by rw [List.length_map] at hz; exact hz⟩
    · obtain ⟨its, rv, pl, hz⟩ := I.tuple sq
      exact ⟨its, rv, coll_tup pl (by rw [← rv.length]; exact hz), by rw [List.length_map] at hz; exact hz⟩
  obtain ⟨e1, e2⟩ := each_dp I rv hd
  refine sorted_dataC (enc := fun b : D × V => pD b.1) co e1 e2 al sb len (fun b hb => ?_) fun out c g kp hD ho => ?_
  · have := (each b.1 (List.mem_map_of_mem hb)).2
    omega
  · have rv2 := vals_each ho
    have len2 : ((bs.mergeSort leA).map Prod.snd).length ≤ sizeLine := by
      rw [List.length_map, List.length_mergeSort]
      exact len
    exact ⟨.ref _, upd H (s.heap.objs.size + 1) (.lst ((bs.mergeSort leA).map Prod.snd)), I.laid (t' := s.toks) kp (Nat.le_succ _) ⟨len2, _, c, rv2, hD⟩, rfl, q _ (I.hok.fresh (Nat.le_succ _))⟩
end
end DD
namespace DD
open L2 PyProof.Rows PySem PySem.Spec
variable [TabT]
section
variable {X : Cx} {K : PySem.W.Frag} {cl : Nat → Addr} {A : AS} {H : Hp}
variable (K cl A H) in
inductive Lks : List D → List V → Prop
  | nil : Lks [] []
  | cons {d : D} {v : V} {ds : List D} {vs : List V} : Lk K cl A H d v → Lks ds vs → Lks (d :: ds) (v :: vs)
def rBif (K : PySem.W.Frag) (cl : Nat → Addr) (b : Bif) : List V → Hp → VK → Prop := fun xs H Q =>
  ∃ A ds r, Lks K cl A H ds xs ∧ Trk A H ∧ bifD b ds = .ok r ∧ Aft K cl A H r Q
theorem one_of {P : D → V → Prop} {ds : List D} {xs : List V} (h : Lks K cl A H ds xs) : (ds = [] ∧ xs = []) ∨ (∃ d x, ds = [d] ∧ xs = [x] ∧ Lk K cl A H d x) ∨ ∃ d e r, ds = d :: e :: r := by
  cases h with
  | nil => exact .inl ⟨rfl, rfl⟩
  | cons h t =>
    cases t with
    | nil => exact .inr (.inl ⟨_, _, rfl, rfl, h⟩)
    | cons _ _ => exact .inr (.inr ⟨_, _, _, rfl⟩)
/-- a built-in of one argument -/
theorem bif_one {b : Bif} {f : Value} {r : List V → Hp → VK → Prop} (h : CallR X f r) (n : ∀ ds r, bifD b ds = .ok r → ds.length = 1)
    (i : ∀ A H d x r' Q, Lk X.K cl A H d x → Trk A H → bifD b [d] = .ok r' → Aft X.K cl A H r' Q → r [x] H Q) : CallR X f (rBif X.K cl b) := by
  refine CallR.imp h fun xs H Q q => ?_
  obtain ⟨A, ds, r', hl, ht, hb, q⟩ := q
  have hn := n _ _ hb
  cases hl with
  | nil => cases hn
  | cons h t =>
    cases t with
    | nil => exact i A H _ _ r' Q h ht hb q
    | cons _ _ => simp at hn
theorem sortZ_perm (ns : List Int) : (sortZ ns).Perm ns := List.mergeSort_perm _ _
theorem sortZ_pw (ns : List Int) : (sortZ ns).Pairwise (· ≤ ·) := by
  have h := List.pairwise_mergeSort (le := fun (x y : Int) => decide (x ≤ y)) (fun a b c h1 h2 => by
    rw [decide_eq_true_eq] at *; omega) (fun a b => by
    rw [Bool.or_eq_true, decide_eq_true_eq, decide_eq_true_eq]; omega) ns
  exact h.imp fun h => by rw [decide_eq_true_eq] at h; exact h
theorem sortZ_eq {ns ms : List Int} (p : ms.Perm ns) (w : ms.Pairwise (· ≤ ·)) : ms = sortZ ns :=
  List.Perm.eq_of_pairwise (fun a b _ _ h1 h2 => Int.le_antisymm h1 h2) w (sortZ_pw ns) (p.trans (sortZ_perm ns).symm)
theorem maxF_mem (x : Int) : ∀ r : List Int, (r.foldl (fun m y => if y > m then y else m) x) ∈ x :: r ∧ ∀ y ∈ x :: r, y ≤ r.foldl (fun m y => if y > m then y else m) x := by
  intro r
  induction r generalizing x with
  | nil => exact ⟨List.mem_singleton.mpr rfl, fun y h => by rw [List.mem_singleton.mp h]; exact Int.le_refl _⟩
  | cons z r ih =>
    rw [List.foldl_cons]
    obtain ⟨h1, h2⟩ := ih (if z > x then z else x)
    have h3 := h2 _ (List.mem_cons_self)
    constructor
    · rcases List.mem_cons.mp h1 with e | e
      · rw [e]
        split
        · exact List.mem_cons_of_mem _ List.mem_cons_self
        · exact List.mem_cons_self
      · exact List.mem_cons_of_mem _ (List.mem_cons_of_mem _ e)
    · intro y hy
      rcases List.mem_cons.mp hy with e | hy
      · subst e
        refine Int.le_trans ?_ h3
        split <;> omega
      · rcases List.mem_cons.mp hy with e | hy
        · subst e
          refine Int.le_trans ?_ h3
          split <;> omega
        · exact h2 y (List.mem_cons_of_mem _ hy)
theorem minF_mem (x : Int) : ∀ r : List Int, (r.foldl (fun m y => if y < m then y else m) x) ∈ x :: r ∧ ∀ y ∈ x :: r, r.foldl (fun m y => if y < m then y else m) x ≤ y := by
  intro r
  induction r generalizing x with
  | nil => exact ⟨List.mem_singleton.mpr rfl, fun y h => by rw [List.mem_singleton.mp h]; exact Int.le_refl _⟩
  | cons z r ih =>
    rw [List.foldl_cons]
    obtain ⟨h1, h2⟩ := ih (if z < x then z else x)
    have h3 := h2 _ (List.mem_cons_self)
    constructor
    · rcases List.mem_cons.mp h1 with e | e
      · rw [e]
        split
        · exact List.mem_cons_of_mem _ List.mem_cons_self
        · exact List.mem_cons_self
      · exact List.mem_cons_of_mem _ (List.mem_cons_of_mem _ e)
    · intro y hy
      rcases List.mem_cons.mp hy with e | hy
      · subst e
        refine Int.le_trans h3 ?_
        split <;> omega
      · rcases List.mem_cons.mp hy with e | hy
        · subst e
          refine Int.le_trans h3 ?_
          split <;> omega
        · exact h2 y (List.mem_cons_of_mem _ hy)
theorem maxZ_ok {ns : List Int} {m : Int} (h : maxZ ns = some m) : 0 < ns.length ∧ ∀ k, k ∈ ns → (∀ y, y ∈ ns → y ≤ k) → k = m := by
  cases ns with
  | nil => cases h
  | cons x r =>
    cases h
    obtain ⟨h1, h2⟩ := maxF_mem x r
    exact ⟨Nat.succ_pos _, fun k hk hy => Int.le_antisymm (h2 k hk) (hy _ h1)⟩
theorem minZ_ok {ns : List Int} {m : Int} (h : minZ ns = some m) : 0 < ns.length ∧ ∀ k, k ∈ ns → (∀ y, y ∈ ns → k ≤ y) → k = m := by
  cases ns with
  | nil => cases h
  | cons x r =>
    cases h
    obtain ⟨h1, h2⟩ := minF_mem x r
    exact ⟨Nat.succ_pos _, fun k hk hy => Int.le_antisymm (hy _ h1) (h2 k hk)⟩
theorem pairs_cons {d : D} {ds : List D} {ps : List (Key × D)} (e : pairsD (d :: ds) = some ps) : ∃ x y k qs, d = .tup [x, y] ∧ keyD x = some k ∧ pairsD ds = some qs ∧ ps = (k, y) :: qs := by
  cases d with
  | tup es =>
    cases es with
    | nil => cases e
    | cons x es =>
      cases es with
      | nil => cases e
      | cons y es =>
        cases es with
        | cons _ _ => cases e
        | nil =>
          have e : (match keyD x, pairsD ds with
            | some k, some ps => some ((k, y) :: ps)
            | _, _ => none) = some ps := e
          cases q1 : keyD x with
          | none => rw [q1] at e; cases e
          | some k =>
            cases q2 : pairsD ds with
            | none => rw [q1, q2] at e; cases e
            | some qs =>
              rw [q1, q2] at e
              cases e
              exact ⟨x, y, k, qs, rfl, q1, rfl, rfl⟩
  | _ => cases e
theorem Reps.ofPairs : ∀ {ds : List D} {ps : List (Key × D)} {vs : List V}, pairsD ds = some ps → Reps K cl A H ds vs →
    ∃ (as : List Addr) (ks : List (Key × V)), vs = as.map V.ref ∧ Paired (fun p kv => SqT K H p [kV kv.1, kv.2]) as ks ∧ RepK K cl A H ps ks := by
  intro ds
  induction ds with
  | nil => intro ps vs e r; cases e; cases r; exact ⟨[], [], rfl, .nil, .nil⟩
  | cons d ds ih =>
    intro ps vs e r
    obtain ⟨x, y, k, qs, rfl, q1, q2, rfl⟩ := pairs_cons e
    cases r with
    | cons h r =>
      cases h with
      | @tup es a vs' t r' l =>
        cases r' with
        | @cons _ v1 _ _ h1 r' =>
          cases r' with
          | @cons _ v2 _ _ h2 r' =>
            cases r'
            obtain ⟨as, ks, e1, e2, e3⟩ := ih q2 r
            have ev := h1.lk.key q1
            subst ev
            exact ⟨a :: as, (k, v2) :: ks, by rw [e1]; rfl, .cons t.sq e2, .cons h2 e3⟩
theorem RepK.put {k : Key} {d : D} {v : V} (h : Rep K cl A H d v) : ∀ {ds : List (Key × D)} {vs : List (Key × V)}, RepK K cl A H ds vs → RepK K cl A H (putD ds k d) (putK vs k v) := by
  intro ds vs r
  have any : ∀ {ds : List (Key × D)} {vs : List (Key × V)}, RepK K cl A H ds vs → (ds.any fun kv => decide (kv.1 = k)) = vs.any fun kv => decide (kv.1 = k) := by
    intro ds
    induction ds with
    | nil => intro vs r; cases r; rfl
    | cons p ds ih =>
      intro vs r
      cases r with
      | cons h r => rw [List.any_cons, List.any_cons, ih r]
  have mp : ∀ {ds : List (Key × D)} {vs : List (Key × V)}, RepK K cl A H ds vs → RepK K cl A H (ds.map fun kv => if kv.1 = k then (kv.1, d) else kv) (vs.map fun kv => if kv.1 = k then (kv.1, v) else kv) := by
    intro ds
    induction ds with
    | nil => intro vs r; cases r; exact .nil
    | cons p ds ih =>
      intro vs r
      cases r with
      | @cons k' d' v' _ _ h' r =>
        rw [List.map_cons, List.map_cons]
        by_cases e : k' = k
        · rw [if_pos e, if_pos e]; exact .cons h (ih r)
        · rw [if_neg e, if_neg e]; exact .cons h' (ih r)
  have sn : ∀ {ds : List (Key × D)} {vs : List (Key × V)}, RepK K cl A H ds vs → RepK K cl A H (ds ++ [(k, d)]) (vs ++ [(k, v)]) := by
    intro ds
    induction ds with
    | nil => intro vs r; cases r; exact .cons h .nil
    | cons p ds ih =>
      intro vs r
      cases r with
      | cons h' r => exact .cons h' (ih r)
  unfold putD putK
  rw [any r]
  split
  · exact mp r
  · exact sn r
theorem RepK.merge : ∀ {more ds : List (Key × D)} {ms vs : List (Key × V)}, RepK K cl A H more ms → RepK K cl A H ds vs → RepK K cl A H (mergeD ds more) (mergeK vs ms) := by
  intro more
  induction more with
  | nil => intro ds ms vs m r; cases m; exact r
  | cons p more ih =>
    intro ds ms vs m r
    cases m with
    | @cons k' d' v' _ _ h t =>
      have h2 := ih t (RepK.put (k := k') h r)
      exact h2
theorem putD_length (ds : List (Key × D)) (k : Key) (d : D) : (putD ds k d).length ≤ ds.length + 1 := by
  unfold putD
  split
  · rw [List.length_map]; omega
  · rw [List.length_append]; exact Nat.le_refl _
theorem mergeD_length : ∀ (more ds : List (Key × D)), (mergeD ds more).length ≤ ds.length + more.length
  | [], ds => Nat.le_refl _
  | p :: more, ds => by
    have h := mergeD_length more (putD ds p.1 p.2)
    have h2 := putD_length ds p.1 p.2
    rw [List.length_cons]
    show (mergeD (putD ds p.1 p.2) more).length ≤ _
    omega
theorem pairsD_length : ∀ {ds : List D} {ps : List (Key × D)}, pairsD ds = some ps → ps.length = ds.length := by
  intro ds
  induction ds with
  | nil => intro ps e; cases e; rfl
  | cons d ds ih =>
    intro ps e
    obtain ⟨x, y, k, qs, rfl, q1, q2, rfl⟩ := pairs_cons e
    rw [List.length_cons, List.length_cons, ih q2]
theorem lenOf {b : Bif} {ds : List D} {r : Fl × D} (h : bifD b ds = .ok r) (hb : b ≠ .min2) (hb2 : b ≠ .max2) : ds.length = 1 := by
  match ds with
  | [] => cases b <;> cases h
  | [d] => rfl
  | d :: e :: r => cases b <;> cases d <;> first | cases h | (exact absurd rfl hb) | (exact absurd rfl hb2)
theorem call_lenR : CallR X (.builtin "len") (fun xs H Q => ∃ a kvs, xs = [V.ref a] ∧ Rd H a (.dK kvs) ∧ Q (.int kvs.length) H) := by
  intro pins s σ H xs us Q I r h
  obtain ⟨a, kvs, rfl, ha, q⟩ := h
  obtain ⟨u, rfl, ru⟩ := vals1 r
  cases ru
  exact d_len I ha fun t s' I' => ⟨.int kvs.length, H, I', ⟨t, rfl⟩, q⟩
theorem bif_len : CallR X (.builtin "len") (rBif X.K cl .len) := by
  refine bif_one (CallR.or call_len call_lenR) (fun ds r h => lenOf h (by decide) (by decide)) fun A H d x r' Q hd ht hb q => ?_
  cases hd with
  | str z =>
    obtain ⟨hl, hb⟩ := ifok hb
    cases hb
    exact .inl ⟨_, _, rfl, ⟨by rw [line_eq]; exact hl, rfl⟩, q _ H (Ext.refl H) (.int _)⟩
  | @tup ds a vs t r l =>
    cases hb
    refine .inl ⟨_, vs.length, rfl, .inr ⟨vs, t.sq, rfl⟩, ?_⟩
    rw [← r.length]
    exact q _ H (Ext.refl H) (.int _)
  | @lst ds a vs t r l =>
    cases hb
    refine .inl ⟨_, vs.length, rfl, .inl ⟨vs, SqL.of t, rfl⟩, ?_⟩
    rw [← r.length]
    exact q _ H (Ext.refl H) (.int _)
  | @scr ns a t =>
    cases hb
    refine .inl ⟨_, (ns.map V.int).length, rfl, .inl ⟨_, t.sq, rfl⟩, ?_⟩
    rw [List.length_map]
    exact q _ H (Ext.refl H) (.int _)
  | @dct kvs a ks t r l =>
    cases hb
    refine .inr ⟨a, ks, rfl, t, ?_⟩
    rw [← r.length]
    exact q _ H (Ext.refl H) (.int _)
  | _ => cases hb
theorem bif_intO : CallR X (.type "int") (rBif X.K cl .intO) := by
  refine bif_one call_int1 (fun ds r h => lenOf h (by decide) (by decide)) fun A H d x r' Q hd ht hb q => ?_
  cases hd with
  | int i => cases hb; exact .inl ⟨i, rfl, q _ H (Ext.refl H) (.int _)⟩
  | bl b => cases hb; exact .inr ⟨b, rfl, q _ H (Ext.refl H) (.int _)⟩
  | _ => cases hb
theorem bif_strO : CallR X (.type "str") (rBif X.K cl .strO) := by
  refine bif_one call_str_int (fun ds r h => lenOf h (by decide) (by decide)) fun A H d x r' Q hd ht hb q => ?_
  cases hd with
  | int i =>
    obtain ⟨hc, hb⟩ := ifok hb
    cases hb
    exact ⟨i, rfl, of_decide_eq_true hc, q _ H (Ext.refl H) (.str _)⟩
  | _ => cases hb
theorem two_ints {b : Bif} {g : Int → Int → Int} (hb : ∀ ds r, bifD b ds = .ok r → ∃ i j, ds = [.int i, .int j] ∧ r = (.dat, .int (g i j))) {f : Value}
    (h : CallR X f (fun xs H Q => ∃ i j, xs = [.int i, .int j] ∧ Q (.int (g i j)) H)) : CallR X f (rBif X.K cl b) := by
  refine CallR.imp h fun xs H Q q => ?_
  obtain ⟨A, ds, r', hl, ht, hr, q⟩ := q
  obtain ⟨i, j, rfl, rfl⟩ := hb _ _ hr
  cases hl with
  | cons h1 t =>
    cases t with
    | cons h2 t =>
      cases t
      cases h1
      cases h2
      exact ⟨i, j, rfl, q _ H (Ext.refl H) (.int _)⟩
theorem bif_min2 (hc : X.calm = true) : CallR X (.builtin "min") (rBif X.K cl .min2) := by
  refine two_ints (fun ds r h => ?_) (call_min2 hc)
  match ds with
  | [] => cases h
  | [d] => cases d <;> cases h
  | [d, e] => cases d <;> cases e <;> first | (cases h; exact ⟨_, _, rfl, rfl⟩) | cases h
  | d :: e :: f :: r => cases d <;> cases e <;> cases h
theorem bif_max2 (hc : X.calm = true) : CallR X (.builtin "max") (rBif X.K cl .max2) := by
  refine two_ints (fun ds r h => ?_) (call_max2 hc)
  match ds with
  | [] => cases h
  | [d] => cases d <;> cases h
  | [d, e] => cases d <;> cases e <;> first | (cases h; exact ⟨_, _, rfl, rfl⟩) | cases h
  | d :: e :: f :: r => cases d <;> cases e <;> cases h
theorem bif_sum (hc : X.calm = true) : CallR X (.builtin "sum") (rBif X.K cl .sum) := by
  refine bif_one (CallR.or (cr_sum hc) (cr_sumT hc)) (fun ds r h => lenOf h (by decide) (by decide)) fun A H d x r' Q hd ht hb q => ?_
  cases hd with
  | @lst ds a vs t r l =>
    obtain ⟨ns, h1, h2⟩ := R.bind_eq_ok hb
    cases h2
    have e := Reps.ofInts (ofO_ok h1) r
    subst e
    exact .inl ⟨a, ns, rfl, SqL.of t, q _ H (Ext.refl H) (.int _)⟩
  | @tup ds a vs t r l =>
    obtain ⟨ns, h1, h2⟩ := R.bind_eq_ok hb
    cases h2
    have e := Reps.ofInts (ofO_ok h1) r
    subst e
    exact .inr ⟨a, ns, rfl, t.sq, q _ H (Ext.refl H) (.int _)⟩
  | _ => cases hb
theorem bif_all (hc : X.calm = true) : CallR X (.builtin "all") (rBif X.K cl .all) := by
  refine bif_one (cr_all hc) (fun ds r h => lenOf h (by decide) (by decide)) fun A H d x r' Q hd ht hb q => ?_
  cases hd with
  | @lst ds a vs t r l =>
    obtain ⟨ns, h1, h2⟩ := R.bind_eq_ok hb
    cases h2
    have e := Reps.ofBls (ofO_ok h1) r
    subst e
    exact ⟨a, ns, rfl, SqL.of t, q _ H (Ext.refl H) (.bl _)⟩
  | _ => cases hb
theorem bif_any (hc : X.calm = true) : CallR X (.builtin "any") (rBif X.K cl .any) := by
  refine bif_one (cr_any hc) (fun ds r h => lenOf h (by decide) (by decide)) fun A H d x r' Q hd ht hb q => ?_
  cases hd with
  | @lst ds a vs t r l =>
    obtain ⟨ns, h1, h2⟩ := R.bind_eq_ok hb
    cases h2
    have e := Reps.ofBls (ofO_ok h1) r
    subst e
    exact ⟨a, ns, rfl, SqL.of t, q _ H (Ext.refl H) (.bl _)⟩
  | _ => cases hb
theorem bif_maxL (hc : X.calm = true) : CallR X (.builtin "max") (rBif X.K cl .maxL) := by
  refine bif_one (cr_max hc) (fun ds r h => lenOf h (by decide) (by decide)) fun A H d x r' Q hd ht hb q => ?_
  cases hd with
  | @lst ds a vs t r l =>
    obtain ⟨ns, h1, h2⟩ := R.bind_eq_ok hb
    obtain ⟨m, h3, h4⟩ := R.bind_eq_ok h2
    cases h4
    have e := Reps.ofInts (ofO_ok h1) r
    subst e
    obtain ⟨n0, hm⟩ := maxZ_ok (ofO_ok h3)
    refine ⟨a, ns, rfl, SqL.of t, n0, fun k hk hy => ?_⟩
    rw [hm k hk hy]
    exact q _ H (Ext.refl H) (.int _)
  | _ => cases hb
theorem bif_minL (hc : X.calm = true) : CallR X (.builtin "min") (rBif X.K cl .minL) := by
  refine bif_one (cr_min hc) (fun ds r h => lenOf h (by decide) (by decide)) fun A H d x r' Q hd ht hb q => ?_
  cases hd with
  | @lst ds a vs t r l =>
    obtain ⟨ns, h1, h2⟩ := R.bind_eq_ok hb
    obtain ⟨m, h3, h4⟩ := R.bind_eq_ok h2
    cases h4
    have e := Reps.ofInts (ofO_ok h1) r
    subst e
    obtain ⟨n0, hm⟩ := minZ_ok (ofO_ok h3)
    refine ⟨a, ns, rfl, SqL.of t, n0, fun k hk hy => ?_⟩
    rw [hm k hk hy]
    exact q _ H (Ext.refl H) (.int _)
  | _ => cases hb
theorem intsD_length : ∀ {ds : List D} {ns : List Int}, intsD ds = some ns → ns.length = ds.length
  | [], _, e => by cases e; rfl
  | d :: ds, ns, e => by
    cases d with
    | int i =>
      have e : (intsD ds).map (i :: ·) = some ns := e
      cases q : intsD ds with
      | none => rw [q] at e; cases e
      | some ms => rw [q] at e; cases e; rw [List.length_cons, List.length_cons, intsD_length q]
    | _ => cases e
theorem RepK.fsts : ∀ {kvs : List (Key × D)} {ks : List (Key × V)}, RepK K cl A H kvs ks → kvs.map (·.1) = ks.map (·.1)
  | _, _, .nil => rfl
  | _, _, .cons _ r => by rw [List.map_cons, List.map_cons, r.fsts]
theorem keys_ints : ∀ {kvs : List (Key × D)} {ns : List Int}, intsD (keysD kvs) = some ns → kvs.map (·.1) = ns.map Sum.inl
  | [], ns, e => by cases e; rfl
  | (k, d) :: kvs, ns, e => by
    cases k with
    | inl i =>
      have e : (intsD (keysD kvs)).map (i :: ·) = some ns := e
      cases q : intsD (keysD kvs) with
      | none => rw [q] at e; cases e
      | some ms =>
        rw [q] at e; cases e
        rw [List.map_cons, List.map_cons, keys_ints q]
    | inr s => cases e
theorem reps_keys : ∀ {kvs : List (Key × D)} {ks : List (Key × V)}, kvs.map (·.1) = ks.map (·.1) → Reps K cl A H (keysD kvs) (ks.map fun kv => kV kv.1)
  | [], [], _ => .nil
  | (k, d) :: kvs, (k2, v) :: ks, e => by
    injection e with e1 e2
    have e1 : k = k2 := e1
    subst e1
    refine .cons ?_ (reps_keys e2)
    cases k with
    | inl i => exact .int i
    | inr s => exact .str s
  | [], _ :: _, e => by cases e
  | _ :: _, [], e => by cases e
theorem CallR.or {f : Value} {r r' : List V → Hp → VK → Prop} (h : CallR X f r) (h' : CallR X f r') : CallR X f (fun xs H Q => r xs H Q ∨ r' xs H Q) := fun pins s σ H xs us Q I rx q => q.elim (h pins s σ H xs us Q I rx) (h' pins s σ H xs us Q I rx)
/-- list(d) -/
theorem call_list_rdK (hc : X.calm = true) : CallR X (.type "list") (fun xs H Q => ∃ (p : Addr) (kvs : List (Key × V)), xs = [.ref p] ∧ Rd H p (.dK kvs) ∧ ∀ q, H q = none → Q (.ref q) (upd H q (.lst (kvs.map fun kv => kV kv.1)))) := by
  intro pins s σ H xs us Q I r h
  obtain ⟨p, kvs, e, hk, q⟩ := h
  subst e
  obtain ⟨u, eu, rx⟩ := vals1 r
  subst eu
  obtain rfl : u = Value.ref p := rx
  obtain ⟨z, lo, vs, rk, hd⟩ := dk_rd I.hok hk
  obtain ⟨ep, hat⟩ := hd.dictAt
  have hl : kvs.length = vs.length := Paired.length rk
  refine PySem.W.kdl_call (PySem.W.kdl_dict (knd := mixKind X.prog X.w) (kvs := vs) (ep := ep) lo) (I.ok.hd hc) hat (by rw [← hl]; exact z) fun g t2 acc n2 kept hS hacc => ?_
  refine ⟨.ref s.heap.objs.size, upd H s.heap.objs.size (.lst (kvs.map fun kv => kV kv.1)), I.laid kept (Nat.le_refl _) (show ObjOk X.prog X.w _ _ _ (.lst (kvs.map fun kv => kV kv.1)) from ⟨?_, acc.toList, n2, ?_, ?_⟩), rfl, q _ (I.hok.fresh (Nat.le_refl _))⟩
  · rw [List.length_map]; exact z
  · have el : acc.toList.length = acc.size := by simp
    refine vals_of_at (by rw [List.length_map, el, hacc.1, hl]) fun j x w a1 a2 => ?_
    obtain ⟨k, y, hky, hi⟩ := hacc.2 j w (by rw [← Array.getElem?_toList]; exact a2)
    have b1 : (kvs.map (·.1))[j]? = some k := by
      rw [KV.keys rk, List.getElem?_map, hky] <;> rfl
    have b2 : (kvs.map fun kv => kV kv.1)[j]? = some (kV k) := by
      have b3 : (kvs.map fun kv => kV kv.1) = (kvs.map (·.1)).map kV := by rw [List.map_map] <;> rfl
      rw [b3, List.getElem?_map, b1] <;> rfl
    rw [b2] at a1
    cases a1
    exact keyIs_rel hi
  · rw [Array.toArray_toList]; exact hS
theorem bif_sortI (hc : X.calm = true) : CallR X (.builtin "sorted") (rBif X.K cl .sortI) := by
  refine bif_one (cr_sortedI.or (call_sortedDI hc)) (fun ds r h => lenOf h (by decide) (by decide)) fun A H d x r' Q hd ht hb q => ?_
  cases hd with
  | @lst ds a vs t r l =>
    obtain ⟨ns, h1, h2⟩ := R.bind_eq_ok hb
    cases h2
    have e := Reps.ofInts (ofO_ok h1) r
    subst e
    refine .inl ⟨a, ns, rfl, SqL.of t, fun ns' p hp hw hn => ?_⟩
    rw [sortZ_eq hp hw]
    refine q _ _ (Ext.new hn) (Rs.newL hn ht Reps.ints ?_)
    rw [List.length_map, (sortZ_perm ns).length_eq, intsD_length (ofO_ok h1)]
    exact l
  | @dct kvs a ks t r l =>
    obtain ⟨ns, h1, h2⟩ := R.bind_eq_ok hb
    obtain ⟨h64, h2⟩ := ifok h2
    cases h2
    have h64 := of_decide_eq_true h64
    refine .inr ⟨a, ks, ns, rfl, t, by rw [← r.fsts]; exact keys_ints (ofO_ok h1), h64, fun ns' p hp hw hn => ?_⟩
    rw [sortZ_eq hp hw]
    refine q _ _ (Ext.new hn) (Rs.newL hn ht Reps.ints ?_)
    rw [List.length_map, (sortZ_perm ns).length_eq]
    omega
  | _ => cases hb
theorem reps_pairs : ∀ {bs : List (D × V)}, (∀ b ∈ bs, Rep K cl A H b.1 b.2) → Reps K cl A H (bs.map Prod.fst) (bs.map Prod.snd)
  | [], _ => .nil
  | b :: bs, h => .cons (h b List.mem_cons_self) (reps_pairs fun c hc => h c (List.mem_cons_of_mem _ hc))
theorem pairs_of : ∀ {ds : List D} {vs : List V}, Reps K cl A H ds vs → ∃ bs : List (D × V), bs.map Prod.fst = ds ∧ bs.map Prod.snd = vs ∧ ∀ b ∈ bs, Rep K cl A H b.1 b.2
  | _, _, .nil => ⟨[], rfl, rfl, nofun⟩
  | d :: ds, v :: vs, .cons h r => by
    obtain ⟨bs, e1, e2, e3⟩ := pairs_of r
    refine ⟨(d, v) :: bs, by rw [List.map_cons, e1], by rw [List.map_cons, e2], fun b hb => ?_⟩
    rcases List.mem_cons.mp hb with rfl | hb
    · exact h
    · exact e3 b hb
theorem sortA_map (bs : List (D × V)) : (bs.mergeSort leA).map Prod.fst = sortAD (bs.map Prod.fst) := List.map_mergeSort fun _ _ _ _ => rfl
theorem sortA_aft {a : Addr} {vs : List V} {ds : List D} {Q : VK} (r : Reps K cl A H ds vs) (l : ds.length ≤ 16777216) (ht : Trk A H) (hc : (alkB ds && srtB ds) = true) (sq : SqL K H a vs ∨ SqT K H a vs) (q : Aft K cl A H (.own, .lst (sortAD ds)) Q) : rSortA K [.ref a] H Q := by
  obtain ⟨bs, rfl, rfl, rb⟩ := pairs_of r
  rw [Bool.and_eq_true] at hc
  obtain ⟨_, each⟩ := alk_of hc.1
  refine ⟨a, bs, rfl, sq, fun b hb => (rb b hb).dp (pD_of (each b.1 (List.mem_map_of_mem hb)).1), hc.1, hc.2, fun p hp => q _ _ (Ext.new hp) ?_⟩
  rw [← sortA_map]
  refine Rs.newL hp ht (reps_pairs fun b hb => rb b (List.mem_mergeSort.mp hb)) ?_
  rw [List.length_map, List.length_mergeSort]
  rw [List.length_map] at l
  exact l
theorem bif_sortA (hu : X.A.units + 64 < cLine) : CallR X (.builtin "sorted") (rBif X.K cl .sortA) := by
  refine bif_one (cr_sortA hu) (fun ds r h => lenOf h (by decide) (by decide)) fun A H d x r' Q hd ht hb q => ?_
  cases hd with
  | @lst ds a vs t r l =>
    obtain ⟨hc, h2⟩ := ifok hb
    cases h2
    exact sortA_aft r l ht hc (.inl (SqL.of t)) q
  | @tup ds a vs t r l =>
    obtain ⟨hc, h2⟩ := ifok hb
    cases h2
    exact sortA_aft r l ht hc (.inr t.sq) q
  | _ => cases hb
theorem bif_tupO : CallR X (.type "tuple") (rBif X.K cl .tupO) := by
  refine bif_one call_tuple_of (fun ds r h => lenOf h (by decide) (by decide)) fun A H d x r' Q hd ht hb q => ?_
  cases hd with
  | @lst ds a vs t r l =>
    cases hb
    exact ⟨a, vs, rfl, .inl ⟨SqL.of t, fun p hp => q _ _ (Ext.new hp) (Rs.newT hp ht r l)⟩⟩
  | @tup ds a vs t r l =>
    cases hb
    exact ⟨a, vs, rfl, .inr ⟨t.sq, q _ H (Ext.refl H) (Rep.tup t r l)⟩⟩
  | _ => cases hb
theorem bif_lstO (hc : X.calm = true) : CallR X (.type "list") (rBif X.K cl .lstO) := by
  refine bif_one (call_list_of.or (call_list_rdK hc)) (fun ds r h => lenOf h (by decide) (by decide)) fun A H d x r' Q hd ht hb q => ?_
  cases hd with
  | @lst ds a vs t r l =>
    cases hb
    exact .inl ⟨a, vs, rfl, .inl (SqL.of t), fun p hp => q _ _ (Ext.new hp) (Rs.newL hp ht r l)⟩
  | @tup ds a vs t r l =>
    cases hb
    exact .inl ⟨a, vs, rfl, .inr t.sq, fun p hp => q _ _ (Ext.new hp) (Rs.newL hp ht r l)⟩
  | @dct kvs a ks t r l =>
    cases hb
    exact .inr ⟨a, ks, rfl, t, fun p hp => q _ _ (Ext.new hp) (Rs.newL hp ht (reps_keys r.fsts) (by unfold keysD; rw [List.length_map]; exact l))⟩
  | _ => cases hb
theorem bif_dicO (hc : X.calm = true) : CallR X (.type "dict") (rBif X.K cl .dicO) := by
  refine bif_one (call_dictP hc) (fun ds r h => lenOf h (by decide) (by decide)) fun A H d x r' Q hd ht hb q => ?_
  cases hd with
  | @lst ds a vs t r l =>
    obtain ⟨ps, h1, h2⟩ := R.bind_eq_ok hb
    cases h2
    obtain ⟨as, ks, e1, e2, e3⟩ := Reps.ofPairs (ofO_ok h1) r
    subst e1
    refine ⟨a, as, ks, rfl, SqL.of t, e2, fun p hp => q _ _ (Ext.new hp) (Rs.newD hp ht (RepK.merge e3 .nil) ?_)⟩
    refine Nat.le_trans (mergeD_length ps []) ?_
    rw [pairsD_length (ofO_ok h1)]
    simpa using l
  | _ => cases hb
/-- where a built-in stands -/
def bifV : Bif → Value
  | .len => .builtin "len" | .intO => .type "int" | .min2 => .builtin "min" | .max2 => .builtin "max" | .sum => .builtin "sum"
  | .all => .builtin "all" | .any => .builtin "any" | .maxL => .builtin "max" | .minL => .builtin "min" | .sortI => .builtin "sorted" | .sortA => .builtin "sorted"
  | .tupO => .type "tuple" | .lstO => .type "list" | .dicO => .type "dict" | .strO => .type "str" | .sortSet => .none | .lenSet => .none | .rngL => .none
def bifN : Bif → Str
  | .len => "len" | .intO => "int" | .min2 => "min" | .max2 => "max" | .sum => "sum"
  | .all => "all" | .any => "any" | .maxL => "max" | .minL => "min" | .sortI => "sorted" | .sortA => "sorted"
  | .tupO => "tuple" | .lstO => "list" | .dicO => "dict" | .strO => "str" | .sortSet => "" | .lenSet => "" | .rngL => ""
theorem bif_ok (hc : X.calm = true) (hu : X.A.units + 64 < cLine) (b : Bif) (h : bifV b ≠ .none) : CallR X (bifV b) (rBif X.K cl b) := by
  cases b with
  | len => exact bif_len
  | intO => exact bif_intO
  | min2 => exact bif_min2 hc
  | max2 => exact bif_max2 hc
  | sum => exact bif_sum hc
  | all => exact bif_all hc
  | any => exact bif_any hc
  | maxL => exact bif_maxL hc
  | minL => exact bif_minL hc
  | sortI => exact bif_sortI hc
  | sortA => exact bif_sortA hu
  | tupO => exact bif_tupO
  | lstO => exact bif_lstO hc
  | dicO => exact bif_dicO hc
  | strO => exact bif_strO
  | sortSet => exact absurd rfl h
  | lenSet => exact absurd rfl h
  | rngL => exact absurd rfl h
theorem bif_boot (b : Bif) (h : bifV b ≠ .none) : bootBuiltins (bifN b) = some (bifV b) := by
  cases b <;> first | exact absurd rfl h | decide +kernel
end
end DD
namespace DD
open L2 PyProof.Rows PySem PySem.Spec
section
variable {X : Cx}
/-- list(o.values()) -/
def tLvals (td : TE) : TE := fun σ H Q => td σ H fun x H1 => ∃ a kvs, x = V.ref a ∧ Rd H1 a (.dK kvs) ∧ ∀ q, H1 q = none → Q (.ref q) (upd H1 q (.lst (kvs.map (·.2))))
variable {o : Expr} {p pos apos mpos : Pos} {td : TE}
theorem pe_lvals (hc : X.calm = true) (hg : Gl X "list") (hm : X.mg "list" = none) (hd : PE X o td) (hbase : attributeBase o "values" X.env (eval o X.env) = eval o X.env := by rfl) (hline : (apos.endLine == mpos.line) = true := by rfl)
    (hse : starEach [Expr.Call (.Attribute o "values" apos) [] [] mpos] X.env = [(false, eval (Expr.Call (.Attribute o "values" apos) [] [] mpos) X.env)] := by rfl) :
    PE X (.Call (.Name "list" p) [.Call (.Attribute o "values" apos) [] [] mpos] [] pos) (tLvals td) := by
  refine ⟨fun pins s σ H Q I h => ?_⟩
  refine wpAny_Call_Name_kw (ld_blt I hg hm (u := .type "list") (by first | rfl | decide +kernel) ?_ (by first | decide +kernel | decide) (by first | decide +kernel | decide))
  rw [hse]
  refine PySem.callWith_type1 (wpAny_Call_method0_late hbase hline (thn (hd.run pins s σ H _ I h) fun v s1 ⟨x, H1, I1, r1, a, kvs, ex, ha, q⟩ => ?_))
  subst ex
  obtain rfl : v = Value.ref a := r1
  obtain ⟨z, hsys, vs, rel, dof⟩ := dk_rd I1.hok ha
  obtain ⟨ep, dat⟩ := dof.dictAt
  have dat' := dat
  obtain ⟨ob, es, ho, ex, hdat, hko, hpr, hnd⟩ := dat'
  refine ⟨"dict", "dict.values", F.plainAttrs_dict, F.slot_dict_values, F.type_dict_values, ⟨ob, ho, ex.1⟩, fun b e => ?_, Calls.callWith_builtin rfl (PySem.evalArgs_none ?_)⟩
  · cases e
    exact ⟨ob, ho, ex.2.1⟩
  refine call_meetsIn F.slot_dict_values ⟨ob, ho, ex.1⟩ F.entry_dict_values (F.args_dict_values_1 _) (meets_dict_values (mixKind X.prog X.w) a hsys) ⟨⟨vs, dof⟩, ?_⟩
  have k1 : ∀ b u, s1.heap.get? b = some u → (s1.heap.push { cls := .type "dict_values", data := .fields #[.ref a] }).get? b = some u := fun b u e => Heap.get?_push_of_some _ e
  have dat1 : (s1.heap.push { cls := .type "dict_values", data := .fields #[.ref a] }).DictAt (mixKind X.prog X.w) a vs ep := dat.keep k1
  have I2 : Inv X pins σ H1 { s1 with heap := s1.heap.push { cls := .type "dict_values", data := .fields #[.ref a] } } := I1.kept (t' := s1.toks) k1
  have hl : kvs.length = vs.length := Paired.length rel
  refine PySem.W.kdl_call (PySem.W.kdl_values (knd := mixKind X.prog X.w) (kvs := vs) (ep := ep)) (I.ok.hd hc) ⟨⟨_, Heap.get?_push_size _ rfl, rfl, rfl⟩, dat1⟩ (by rw [← hl]; exact z) fun g t2 acc n2 kept hS hacc => ?_
  refine ⟨.ref _, upd H1 _ (.lst (kvs.map (·.2))), I2.laid kept (Nat.le_refl _) (show ObjOk X.prog X.w _ _ _ (.lst (kvs.map (·.2))) from ⟨?_, acc.toList, n2, ?_, ?_⟩), rfl, q _ (I2.hok.fresh (Nat.le_refl _))⟩
  · rw [List.length_map]; exact z
  · have el : acc.toList.length = acc.size := by simp
    refine vals_of_at (by rw [List.length_map, el, hacc.1, hl]) fun j x w a1 a2 => ?_
    obtain ⟨k, hk⟩ := hacc.2 j w (by rw [← Array.getElem?_toList]; exact a2)
    obtain ⟨y, h1, h2⟩ := KV.at' rel hk
    rw [List.getElem?_map, h1] at a1
    cases a1
    exact h2
  · rw [Array.toArray_toList]; exact hS
end
end DD
namespace DD
open L2 PyProof.Rows PySem PySem.Spec
variable [TabT]
/-- what is fixed while a def runs: the heap at its entry, what was handed in to be changed, what may not be touched, the values handed in -/
structure Px where
  H0 : Hp
  O0 : AS
  X : AS
  B : AS
  vs : List V
abbrev Fp := Nat → List Addr
def ownS (fp : Fp) : AS := fun a => ∃ i, a ∈ fp i
def newP (P : Px) : AS := fun a => P.O0 a ∨ P.H0 a = none
def avS (P : Px) (fp : Fp) : AS := fun a => P.X a ∨ ownS fp a
section
variable (K : PySem.W.Frag) (cl : Nat → Addr)
inductive SlR (P : Px) (A : AS) (H : Hp) (i : Nat) (f : List Addr) : Sl → Option V → Prop
  | none {ov : Option V} : f = [] → SlR P A H i f none ov
  | dat {d : D} {v : V} : Rep K cl A H d v → f = [] → SlR P A H i f (some (.dat, d)) (some v)
  | own {d : D} {v : V} : Cell K cl A H d v f → SlR P A H i f (some (.own, d)) (some v)
  | ino {d : D} {v : V} : Cell K cl A H d v f → P.vs[i]? = some v → SlR P A H i f (some (.ino, d)) (some v)
  | brw {d : D} {v : V} {fr : List Addr} : Cell K cl A H d v fr → (∀ a ∈ fr, P.B a) → f = [] → SlR P A H i f (some (.brw, d)) (some v)
structure Rel (P : Px) (fp : Fp) (σ : Sg) (σV : L2.St) (H : Hp) : Prop where
  len : σ.length = σV.length
  sl : ∀ i, SlR K cl P (avS P fp) H i (fp i) (σ.at i) (σV[i]?).join
  dis : ∀ i j a, a ∈ fp i → a ∈ fp j → i = j
  noX : ∀ i a, a ∈ fp i → ¬ P.X a
  trX : ∀ a, P.X a → H a ≠ Option.none
  bX : ∀ a, P.B a → P.X a
  fr0 : Fr P.H0 P.O0 H
  new : ∀ a, ownS fp a → P.O0 a ∨ P.H0 a = Option.none
  tb : TabsK P.H0
/-- a result of the expression e -/
inductive Res (P : Px) (fp : Fp) (σV : L2.St) (H : Hp) (e : E) : Fl × D → V → Prop
  | rs {x : Fl × D} {v : V} : Rs K cl (newP P) (avS P fp) H x v → Res P fp σV H e x v
  | brw {d : D} {v : V} {fr : List Addr} : Cell K cl (avS P fp) H d v fr → ((∀ a ∈ fr, P.B a) ∨ ∃ i, srcE e = some i ∧ ∀ a ∈ fr, a ∈ fp i) → Res P fp σV H e (.brw, d) v
  | ino {i : Nat} {v : V} : e = .io i → σV[i]? = some (some v) → Res P fp σV H e (.ino, .non) v
/-- an exception's dict -/
def ExR (x : Ex) (od : Option Addr) (H : Hp) : Prop := match x.f with
  | Option.none => od = Option.none
  | some (n, d) => ∃ a v, od = some a ∧ H a = some (.xd [(n, v)]) ∧ Rep K cl noA H d v
/-- what is to be shown where something has come to rr -/
def Post {a b : Type} (cx : Nat → Addr) (W : XK) (P : Px) (σV : L2.St) (fp : Fp) (H : Hp) (σ : Sg) (pu : Bool) (RS : Fp → Hp → a → b → Prop) (rr : R (a × Sg)) (Q : b → Hp → Prop) : Prop :=
  match rr with
  | .ok (r, σ') => ∀ fp' v H', Rel K cl P fp' σ' σV H' → (∀ i a, a ∈ fp' i → a ∈ fp i) → Fr H (ownS fp) H' → (pu = false → σ' = σ ∧ fp' = fp ∧ Ext H H') → RS fp' H' r v → Q v H'
  | .exc x => ∀ od H', ExR K cl x od H' → Fr H (ownS fp) H' → (pu = false → Ext H H') → W (.ref (cx x.c)) od H'
  | .bad => False
abbrev RSe (P : Px) (σV : L2.St) (e : E) : Fp → Hp → Fl × D → V → Prop := fun fp H r v => Res K cl P fp σV H e r v
def tEv (cx : Nat → Addr) (W : XK) (T : Tb) (e : E) : TE := fun σV H Q => ∃ P fp σ, Rel K cl P fp σ σV H ∧ Post K cl cx W P σV fp H σ (imp e) (RSe K cl P σV e) (ev T e σ) Q
end
section
variable {K : PySem.W.Frag} {cl cx : Nat → Addr} {W : XK} {P : Px} {σV : L2.St} {fp fp1 fp2 : Fp} {H H1 H2 : Hp} {σ σ1 σ2 : Sg} {T : Tb} {pu : Bool} {e : E} {Q : VK}
theorem Rel.trk (R : Rel K cl P fp σ σV H) : Trk (avS P fp) H := fun a h => by
  rcases h with h | ⟨i, h⟩
  · exact R.trX a h
  · have s := R.sl i
    generalize σ.at i = x at s
    generalize (σV[i]?).join = y at s
    cases s with
    | none n => rw [n] at h; cases h
    | dat _ n => rw [n] at h; cases h
    | own c => exact c.there a h
    | ino c _ => exact c.there a h
    | brw _ _ n => rw [n] at h; cases h
/-- more objects, the same slots -/
theorem SlR.ext {A : AS} {i : Nat} {f : List Addr} {x : Sl} {y : Option V} (s : SlR K cl P A H i f x y) (t : Ext H H1) : SlR K cl P A H1 i f x y := by
  cases s with
  | none n => exact .none n
  | dat r n => exact .dat (r.mv (Mv.ext t)) n
  | own c => exact .own (c.mv (Mv.ext t) fun a _ o h nt => t.keep a o h nt)
  | ino c n => exact .ino (c.mv (Mv.ext t) fun a _ o h nt => t.keep a o h nt) n
  | brw c n f => exact .brw (c.mv (Mv.ext t) fun a _ o h nt => t.keep a o h nt) n f
theorem there_ext (t : Ext H H1) {a : Addr} (h : H a ≠ none) : H1 a ≠ none := t.there a h
theorem Rel.tabs (R : Rel K cl P fp σ σV H) : TabsK H := R.fr0.tabs R.tb
theorem Rel.ext (R : Rel K cl P fp σ σV H) (t : Ext H H1) : Rel K cl P fp σ σV H1 :=
  ⟨R.len, fun i => (R.sl i).ext t, R.dis, R.noX, fun a h => there_ext t (R.trX a h), R.bX, R.fr0.trans (Fr.of (O := noA) t) fun _ z => z.elim, R.new, R.tb⟩
abbrev Sub (fp1 fp : Fp) : Prop := ∀ i a, a ∈ fp1 i → a ∈ fp i
theorem sub_own (s : Sub fp1 fp) : ∀ a, ownS fp1 a → ownS fp a := fun a ⟨i, h⟩ => ⟨i, s i a h⟩
theorem sub_av (s : Sub fp1 fp) : ∀ a, avS P fp1 a → avS P fp a := fun a h => h.elim .inl fun z => .inr (sub_own s a z)
theorem mv_sub (s : Sub fp1 fp) (f : Fr H (ownS fp) H1) : Mv (avS P fp) H (avS P fp1) H1 := Mv.of f (fun a h => .inr h) fun a h => .inl (sub_av s a h)
/-- what a result is, looked at behind another expression -/
theorem Res.lk {x : Fl × D} {v : V} {d : D} {b : Bool} (r : Res K cl P fp σV H e x v) (l : look x = .ok d) (g : (x.1 == .brw && b) = false) (s : Sub fp1 fp) (f : Fr H (ownS fp) H1)
    (i : b = false → σ1 = σ ∧ fp1 = fp ∧ Ext H H1) : Lk K cl (avS P fp1) H1 d v := by
  cases r with
  | rs r =>
    obtain ⟨fl, d0⟩ := x
    have r1 := (r.mv (mv_sub s f)).rep
    cases fl with
    | dat => cases l; exact r1.lk
    | own => cases l; exact r1.lk
    | ino => exact (show False from r).elim
    | brw => exact (show False from r).elim
  | brw c h =>
    cases l
    have hb : b = false := by cases b <;> first | rfl | cases g
    obtain ⟨_, e2, t⟩ := i hb
    subst e2
    exact (c.mv (Mv.ext t) fun a _ o h nt => t.keep a o h nt).lk
  | ino => cases l
theorem Res.lk0 {x : Fl × D} {v : V} {d : D} (r : Res K cl P fp σV H e x v) (l : look x = .ok d) : Lk K cl (avS P fp) H d v :=
  r.lk (b := false) (σ1 := []) (σ := []) l (by rw [Bool.and_false]) (fun _ _ h => h) (Fr.refl _ _) fun _ => ⟨rfl, rfl, Ext.refl H⟩
theorem Res.keep {x : Fl × D} {v : V} {d : D} (r : Res K cl P fp σV H e x v) (l : keep x = .ok d) (s : Sub fp1 fp) (f : Fr H (ownS fp) H1) : Rep K cl (avS P fp1) H1 d v := by
  cases r with
  | rs r =>
    obtain ⟨fl, d0⟩ := x
    have r1 := (r.mv (mv_sub s f)).rep
    cases fl with
    | dat => cases l; exact r1
    | own => cases l; exact r1
    | ino => exact (show False from r).elim
    | brw => exact (show False from r).elim
  | brw c h => cases l
  | ino => cases l
section
variable {a b a1 b1 : Type} {RS : Fp → Hp → a → b → Prop} {RS1 : Fp → Hp → a1 → b1 → Prop} {Qb : b → Hp → Prop}
theorem Post.move {rr : R (a × Sg)} (h : Post K cl cx W P σV fp H σ pu RS rr Qb) (s : Sub fp1 fp) (f : Fr H (ownS fp) H1) (i : pu = false → σ1 = σ ∧ fp1 = fp ∧ Ext H H1) : Post K cl cx W P σV fp1 H1 σ1 pu RS rr Qb := by
  cases rr with
  | ok p =>
    obtain ⟨r, σ'⟩ := p
    refine fun fp' v H' R s' f' i' r' => h fp' v H' R (fun i a z => s i a (s' i a z)) (f.trans f' fun a z => .inl (sub_own s a z)) (fun z => ?_) r'
    obtain ⟨a1, a2, a3⟩ := i z
    obtain ⟨b1, b2, b3⟩ := i' z
    exact ⟨b1.trans a1, b2.trans a2, a3.trans b3⟩
  | exc x => exact fun od H' x' f' i' => h od H' x' (f.trans f' fun a z => .inl (sub_own s a z)) fun z => (i z).2.2.trans (i' z)
  | bad => exact h
/-- the first of several: x, then what hangs on it -/
theorem Post.bind {m : R (a1 × Sg)} {k : a1 × Sg → R (a × Sg)} {Q1 : b1 → Hp → Prop} {pu1 : Bool} (h : Post K cl cx W P σV fp H σ pu RS (m >>= k) Qb) (hp : pu = false → pu1 = false)
    (n : ∀ v σ1 fp1 v1 H1, m = .ok (v, σ1) → Rel K cl P fp1 σ1 σV H1 → Sub fp1 fp → Fr H (ownS fp) H1 → (pu1 = false → σ1 = σ ∧ fp1 = fp ∧ Ext H H1) → RS1 fp1 H1 v v1 →
      Post K cl cx W P σV fp1 H1 σ1 pu RS (k (v, σ1)) Qb → Q1 v1 H1) : Post K cl cx W P σV fp H σ pu1 RS1 m Q1 := by
  cases m with
  | ok p =>
    obtain ⟨v, σ1⟩ := p
    exact fun fp1 v1 H1 R1 s1 f1 i1 r1 => n v σ1 fp1 v1 H1 rfl R1 s1 f1 i1 r1 (Post.move h s1 f1 fun z => i1 (hp z))
  | exc y => exact fun od H' x' f' e => h od H' x' f' fun z => e (hp z)
  | bad => exact h
end
def NoX {a : Type} (m : R a) : Prop := ∀ x, m ≠ .exc x
section
variable {a b : Type} {RS : Fp → Hp → a → b → Prop} {Qb : b → Hp → Prop}
theorem Post.pur {c : Type} {m : R c} {k : c → R (a × Sg)} (h : Post K cl cx W P σV fp H σ pu RS (m >>= k) Qb) (n : NoX m) : ∃ y, m = .ok y ∧ Post K cl cx W P σV fp H σ pu RS (k y) Qb := by
  cases m with
  | ok y => exact ⟨y, rfl, h⟩
  | exc y => exact absurd rfl (n y)
  | bad => exact (show False from h).elim
theorem Post.grd {b : Bool} {k : Unit → R (a × Sg)} (h : Post K cl cx W P σV fp H σ pu RS (guard b >>= k) Qb) : b = true ∧ Post K cl cx W P σV fp H σ pu RS (k ()) Qb := by
  cases b with
  | true => exact ⟨rfl, h⟩
  | false => exact (show False from h).elim
end
theorem fresh_H0 (R : Rel K cl P fp σ σV H) {p : Addr} (hp : H p = none) : ∀ u, P.H0 p = some u → P.O0 p := fun u h => by
  by_cases q : P.O0 p
  · exact q
  · exact absurd hp (R.fr0.there p (by rw [h]; exact fun z => nomatch z) q)
theorem fresh_new (R : Rel K cl P fp σ σV H) {p : Addr} (hp : H p = none) : newP P p := by
  cases q : P.H0 p with
  | none => exact .inr q
  | some u => exact .inl (fresh_H0 R hp u q)
theorem Post.done {r : Fl × D} (h : Post K cl cx W P σV fp H σ pu (RSe K cl P σV e) (.ok (r, σ)) Q) (R : Rel K cl P fp σ σV H) : Aft K cl (avS P fp) H r Q :=
  fun v H' t r' => h fp v H' (R.ext t) (fun _ _ z => z) (Fr.of t) (fun _ => ⟨rfl, rfl, t⟩) (.rs (r'.z fun a h => fresh_new R h))
theorem Post.doneD {d : D} {v : V} (h : Post K cl cx W P σV fp H σ pu (RSe K cl P σV e) (.ok ((.dat, d), σ)) Q) (R : Rel K cl P fp σ σV H) (r : Rep K cl (avS P fp) H d v) : Q v H :=
  h.done R v H (Ext.refl H) (show Rs K cl _ (avS P fp) H (.dat, d) v from r)
theorem nox_look (x : Fl × D) : NoX (look x) := fun y h => by
  obtain ⟨f, d⟩ := x
  cases f <;> cases h
theorem nox_keep (x : Fl × D) : NoX (keep x) := fun y h => by
  obtain ⟨f, d⟩ := x
  cases f <;> cases h
theorem nox_bind {a b : Type} {m : R a} {k : a → R b} (h : NoX m) (hk : ∀ y, NoX (k y)) : NoX (m >>= k) := fun x e => by
  cases m with
  | ok y => exact hk y x e
  | exc y => exact h y rfl
  | bad => cases e
theorem nox_ok {a : Type} (y : a) : NoX (.ok y : R a) := fun _ e => nomatch e
theorem nox_bad {a : Type} : NoX (.bad : R a) := fun _ e => nomatch e
theorem nox_if {a : Type} {c : Prop} [Decidable c] {m n : R a} (h : NoX m) (h2 : NoX n) : NoX (if c then m else n) := by
  split
  · exact h
  · exact h2
theorem nox_ofO {a : Type} (x : Option a) : NoX (ofO x) := fun y e => by cases x <;> cases e
theorem nox_keeps : ∀ xs : List (Fl × D), NoX (keeps xs)
  | [] => nox_ok _
  | x :: r => nox_bind (nox_keep x) fun _ => nox_bind (nox_keeps r) fun _ => nox_ok _
theorem nox_looks : ∀ xs : List (Fl × D), NoX (looks xs)
  | [] => nox_ok _
  | x :: r => nox_bind (nox_look x) fun _ => nox_bind (nox_looks r) fun _ => nox_ok _
theorem nox_bool (x : Fl × D) : NoX (boolD x) := fun y e => by
  obtain ⟨f, d⟩ := x
  cases d <;> cases e
theorem nox_guard (b : Bool) : NoX (guard b) := fun y e => by cases b <;> cases e
theorem nox_bin (o : Op) (x y : D) : NoX (binD o x y) := by
  cases o <;> cases x <;> cases y <;> first | exact nox_ok _ | exact nox_bad | exact nox_if (nox_ok _) nox_bad
theorem nox_eqv (x y : D) : NoX (eqvD x y) := by
  unfold eqvD
  split
  · exact nox_if (nox_ok _) nox_bad
  · unfold eqvK
    split
    · exact nox_if (nox_ok _) nox_bad
    · exact nox_bad
theorem nox_in (x : D) (ys : List D) : NoX (inD x ys) := nox_if (nox_ok _) nox_bad
theorem nox_cmp (o : CO) (x y : D) : NoX (cmpD o x y) := by
  cases o with
  | eq => exact nox_eqv x y
  | ne => exact nox_bind (nox_eqv x y) fun _ => nox_ok _
  | isin =>
    cases y with
    | lst ys => exact nox_in x ys
    | tup ys => exact nox_in x ys
    | dct kvs => cases x <;> first | exact nox_ok _ | exact nox_bad
    | _ => exact nox_bad
  | notin =>
    cases y with
    | lst ys => exact nox_bind (nox_in x ys) fun _ => nox_ok _
    | tup ys => exact nox_bind (nox_in x ys) fun _ => nox_ok _
    | dct kvs => cases x <;> first | exact nox_ok _ | exact nox_bad
    | _ => exact nox_bad
  | _ => cases x <;> cases y <;> first | exact nox_ok _ | exact nox_bad
theorem nox_idx (x y : D) : NoX (idxD x y) := by
  cases x with
  | dct kvs => exact nox_bind (nox_ofO _) fun _ => nox_ofO _
  | str s => cases y <;> first | exact nox_if (nox_ofO _) nox_bad | exact nox_bad
  | _ => cases y <;> first | exact nox_ofO _ | exact nox_bad
theorem nox_slc (x : D) (l h : Option Int) : NoX (slcD x l h) := by
  cases x <;> first | exact nox_ok _ | exact nox_bad | exact nox_if (nox_ok _) nox_bad
theorem nox_bif (b : Bif) (ds : List D) : NoX (bifD b ds) := by
  unfold bifD
  split <;> first | exact nox_ok _ | exact nox_bad | exact nox_if (nox_ok _) nox_bad | exact nox_bind (nox_ofO _) fun _ => nox_ok _ | exact nox_bind (nox_ofO _) fun _ => nox_if (nox_ok _) nox_bad | exact nox_bind (nox_ofO _) fun _ => nox_bind (nox_ofO _) fun _ => nox_ok _
theorem nox_hilo (x : List (Fl × D)) : NoX (hiLo x) := fun y e => by
  unfold hiLo at e
  split at e <;> cases e
end
end DD
namespace DD
open L2 PyProof.Rows PySem PySem.Spec HT
variable [TabT]
section
variable {prog : Program} {w : World} {A : Around} {E : Value → Shared → Prop} {s : Shared}
theorem adj_back (n : Nat) : Builtin.Slice.sliceAdjust none none (-1) (n : Int) = ((n : Int) - 1, -1) := by
  unfold Builtin.Slice.sliceAdjust
  simp
theorem places_back (n : Nat) : Builtin.Slice.slicePlaces ((n : Int) - 1) (-1) (-1) = n := by
  unfold Builtin.Slice.slicePlaces
  simp
  try omega
theorem sliceApplied_back {sl : Addr} {vs : Value} {n : Nat} {Q : Int × Int × Nat → Shared → Prop} (hs : s.heap.IsSliceOf sl .none .none vs) (ps : IsPart vs (some (-1)))
    (h : Q ((n : Int) - 1, -1, n) s) : wpAny (model prog w) A (Builtin.Slice.sliceApplied (.ref sl) (pure (n : Int))) Q E s := by
  obtain ⟨os, hos, hcs, hds⟩ := id hs
  unfold Builtin.Slice.sliceApplied Builtin.Slice.sliceFields
  refine wpAny_bind (wpAny_bind (wpAny_field hos hds (x := .none) rfl (wpAny_bind (wpAny_field hos hds (x := .none) rfl (wpAny_bind (wpAny_field hos hds (x := vs) rfl (wpAny_pure ?_)))))))
  refine wpAny_bind (slicePart_ ps ?_)
  show wpAny _ _ (if ((-1 : Int) == 0) = true then _ else _) _ _ s
  rw [if_neg (by decide)]
  refine wpAny_bind (slicePart_none (wpAny_bind (slicePart_none (wpAny_bind (wpAny_pure ?_)))))
  show wpAny _ _ (match Builtin.Slice.sliceAdjust none none (-1) (n : Int) with | (lo, hi) => pure (lo, (-1 : Int), Builtin.Slice.slicePlaces lo hi (-1))) _ _ s
  rw [adj_back]
  show wpAny _ _ (pure ((n : Int) - 1, (-1 : Int), Builtin.Slice.slicePlaces ((n : Int) - 1) (-1) (-1))) _ _ s
  rw [places_back]
  exact wpAny_pure h
theorem pick_back (xs : Array Value) : ((List.range xs.size).filterMap fun (m : Nat) => xs[((xs.size : Int) - 1 + (m : Int) * (-1)).toNat]?).toArray = xs.toList.reverse.toArray := by
  have e : (fun (m : Nat) => xs[((xs.size : Int) - 1 + (m : Int) * (-1)).toNat]?) = (fun k => xs[k]?) ∘ fun m => xs.size - 1 - m := by
    funext m
    show xs[_]? = xs[xs.size - 1 - m]?
    have : ((xs.size : Int) - 1 + (m : Int) * (-1)).toNat = xs.size - 1 - m := by omega
    rw [this]
  rw [e, ← List.filterMap_map, PySem.W.krv_range, List.filterMap_reverse, PySem.W.krv_all]
theorem getItem_tuple_back {t sl : Addr} {items : Array Value} {vs : Value} {Q : Value → Shared → Prop} (ht : IsTup s.heap t items) (hs : s.heap.IsSliceOf sl .none .none vs) (ps : IsPart vs (some (-1)))
    (h : Q (.ref s.heap.objs.size) { s with heap := s.heap.push { cls := .type "tuple", data := .seq items.toList.reverse.toArray } })
    (hsz : items.size ≤ sizeLine) : wpAny (model prog w) A (getItem (.ref t) (.ref sl)) Q E s := by
  have htake : sizeOk (.seq items.toList.reverse.toArray) := by
    show items.toList.reverse.toArray.size ≤ sizeLine
    simpa using hsz
  obtain ⟨os, hos, hcs, hds⟩ := id hs
  have hTs : s.TypeIs (.ref sl) "slice" := ⟨os, hos, hcs⟩
  unfold getItem
  try with_reducible refine wpAny_holding ?_
  first | refine wpAny_bind (wpAny_pure ?_) | skip
  refine wpAny_bind (wpAny_sequenceKey ht.typeIs (by decide) ?_)
  refine wpAny_bind (wpAny_callSpecial?_slot (name := Str.ofString "__getitem__") ht.typeIs PyProof.Rows.slot_tuple_getitem
    (wpAny_call_entry PyProof.Rows.slot_tuple_getitem ht.typeIs entry_tuple_getitem ?_ (args_tuple_getitem _ _)))
  show wpAny _ _ (Builtin.Tuple.tupleItemsOf (.ref t) >>= _) _ _ s
  refine wpAny_bind (tupleItemsOf_ ht ?_)
  refine wpAny_bind (wpAny_typeOf hTs ?_)
  rw [if_pos (by decide)]
  refine wpAny_bind (sliceApplied_back hs ps ?_)
  have hno : ¬ (((items.size : Int) - 1 == 0 && (-1 : Int) == 1 && items.size == items.size) = true) := by
    simp
  show wpAny _ _ (if ((items.size : Int) - 1 == 0 && (-1 : Int) == 1 && items.size == items.size) = true then _ else _) _ _ s
  rw [if_neg hno, pick_back]
  first
    | exact wpAny_bind (m := Builtin.Tuple.tupleExact _) (wpAny_newObj_type (wpAny_pure ⟨_, rfl, wpAny_pure h⟩) htake)
    | exact wpAny_bind (m := Builtin.Tuple.tupleExact _) (wpAny_newObj_type (wpAny_bind (wpAny_pure (wpAny_pure ⟨_, rfl, wpAny_pure h⟩))) htake)
    | exact wpAny_bind (wpAny_bind (m := Builtin.Tuple.tupleExact _) (wpAny_newObj_type (wpAny_pure (wpAny_pure ⟨_, rfl, wpAny_pure h⟩)) htake))
    | exact wpAny_bind (wpAny_bind (m := Builtin.Tuple.tupleExact _) (wpAny_newObj_type (wpAny_pure ⟨_, rfl, wpAny_pure h⟩) htake))
end
section
variable {X : Cx}
/-- x[::-1]: of a list, of a tuple -/
def tRevA (K : PySem.W.Frag) (te : TE) : TE := fun σ H Q => te σ H fun x H1 => (∃ a xs, x = .ref a ∧ SqL K H1 a xs ∧ ∀ p, H1 p = none → Q (.ref p) (upd H1 p (.lst xs.reverse))) ∨ ∃ a xs, x = .ref a ∧ SqT K H1 a xs ∧ ∀ p, H1 p = none → Q (.ref p) (upd H1 p (.tup xs.reverse))
theorem pe_revA {e : Expr} {te : TE} {k : Nat} {p1 p2 p3 pos : Pos} (he : PE X e te) : PE X (.Subscript e (.Slice none none (some (.UnaryOp .USub (.Constant (.int 1) k p1) p2)) p3) pos) (tRevA X.K te) := by
  refine ⟨fun pins s σ H Q I h => ?_⟩
  refine Subscript_ (thn (he.run pins s σ H _ I h) fun v s1 ⟨x, H1, I1, r1, q1⟩ => ?_)
  have hst : PO X (some (.UnaryOp .USub (.Constant (.int 1) k p1) p2)) (tPart (tUn (rU fun i => .int (-i)) (tC (.int 1)))) := po_some (pe_un un_neg pe_int)
  refine wpAny_Slice (thn (po_none.run pins s1 σ H1 (fun o H2 => o = none ∧ H2 = H1) I1 ⟨rfl, rfl⟩) fun vl s2 ⟨l, H2, I2, pl, el, e2⟩ => ?_)
  subst el e2
  refine thn (po_none.run pins s2 σ H2 (fun o H3 => o = none ∧ H3 = H2) I2 ⟨rfl, rfl⟩) fun vu s3 ⟨u, H3, I3, pu, eu, e3⟩ => ?_
  subst eu e3
  refine thn (hst.run pins s3 σ H3 (fun o H4 => o = some (-1) ∧ H4 = H3) I3 ⟨1, rfl, -1, rfl, rfl, rfl⟩) fun vs s4 ⟨o, H4, I4, ps, eo, e4⟩ => ?_
  subst eo e4
  have I5 : Inv X pins σ H4 { s4 with heap := s4.heap.push { cls := .type "slice", data := .fields #[vl, vu, vs] } } := I4.kept (t' := s4.toks) fun b ob q => Heap.get?_push_of_some _ q
  rcases q1 with ⟨a, xs, ex, hx, q⟩ | ⟨a, xs, ex, hx, q⟩
  · subst ex
    cases r1
    obtain ⟨its, r, ht, hz⟩ := I5.list hx
    have hlen := r.length
    show wpAny (model X.prog X.w) X.A (subscriptTail e (.Slice none none (some (.UnaryOp .USub (.Constant (.int 1) k p1) p2)) p3) (.ref a) (.ref s4.heap.objs.size)) (EP X pins σ Q) X.xe { s4 with heap := s4.heap.push { cls := .type "slice", data := .fields #[vl, vu, vs] } }
    refine tail_any (ops := [.ref a, .ref s4.heap.objs.size]) ht.isList.typeIs (PySem.slot_list_getitem.lookup) ?_ (by with_unfolding_all rfl)
    refine wpAny_getItem_list_slice ht.isList (Heap.IsSliceOf.new _ vl vu vs) pl pu ps (by decide) ?_ (by rw [List.size_toArray]; omega)
    rw [PySem.W.krv_pick]
    refine ⟨.ref _, _, I5.laid (t' := s4.toks) (o := .lst xs.reverse) (fun b ob q => Heap.get?_push_of_some _ q) (Nat.le_refl _) ?_, rfl, q _ (I5.hok.fresh (Nat.le_refl _))⟩
    exact ⟨by rw [List.length_reverse]; exact hz, _, 0, r.reverse, Heap.get?_push_size _ rfl⟩
  · subst ex
    cases r1
    obtain ⟨its, r, ht, hz⟩ := I5.tuple hx
    have evl : vl = .none := by cases pl; rfl
    have evu : vu = .none := by cases pu; rfl
    subst evl evu
    show wpAny (model X.prog X.w) X.A (subscriptTail e (.Slice none none (some (.UnaryOp .USub (.Constant (.int 1) k p1) p2)) p3) (.ref a) (.ref s4.heap.objs.size)) (EP X pins σ Q) X.xe { s4 with heap := s4.heap.push { cls := .type "slice", data := .fields #[.none, .none, vs] } }
    refine tail_any (ops := [.ref a, .ref s4.heap.objs.size]) ht.typeIs (PyProof.Rows.slot_tuple_getitem.lookup) ?_ (by with_unfolding_all rfl)
    refine getItem_tuple_back ht (Heap.IsSliceOf.new _ .none .none vs) ps ?_ (by rw [List.size_toArray, ← r.length]; exact hz)
    refine ⟨.ref _, _, I5.laid (t' := s4.toks) (o := .tup xs.reverse) (fun b ob q => Heap.get?_push_of_some _ q) (Nat.le_refl _) ?_, rfl, q _ (I5.hok.fresh (Nat.le_refl _))⟩
    exact ⟨by rw [List.length_reverse]; exact hz, _, r.reverse, _, Heap.get?_push_size _ rfl, rfl, 0, rfl⟩
end
end DD
namespace DD
open L2 PyProof.Rows PySem PySem.Spec
variable [TabT]
/-- the names of the text: of defs, of the module's constants -/
structure Nm where
  fns : List Str
  gls : List Str
  ars : List Nat
  lm : Bool
  flds : List Str := []
  mts : List (Str × Nat) := []
  mks : List (Str × Nat × Nat) := []
  /-- a def that is called by names: the names -/
  kws : List (List Str) := []
  /-- exceptions by name -/
  exs : List Str := []
  /-- defs that call what they got: what they hand back where an exception comes, and where none does -/
  aks : List (Str × List (Nat × Hv) × D) := []
def visB (sc : Scope) (x : Str) : Bool := match sc.names.lookup x with
  | some .local => true | some .cell => true | some .free => true
  | _ => false
def glB (sc : Scope) (x : Str) : Bool := match sc.names.lookup x with
  | some .globalImplicit => true
  | _ => false
def okN (x : Str) : Bool := (x == ("__debug__" : Str)) == false && (x == ("__classdict__" : Str)) == false && decide (x ≠ ("__name__" : Str))
def locB (sc : Scope) (fb : Str → Bool) (x : Str) : Bool := match sc.names.lookup x with
  | some .local => true
  | some .cell => fb x
  | _ => false
/-- no star, no slice, no set display -/
def plainX : Expr → Bool
  | .Name .. => true | .Constant .. => true | .Call .. => true | .Attribute .. => true | .Subscript .. => true
  | .Tuple .. => true | .List .. => true | .ListComp .. => true | .Dict .. => true | .BinOp .. => true
  | .UnaryOp .. => true | .Compare .. => true | .BoolOp .. => true | .IfExp .. => true | .JoinedStr .. => true | .Lambda .. => true
  | _ => false
def noLc : Expr → Bool
  | .ListComp .. => false
  | _ => true
def muN : Mu → Str
  | .append => "append" | .extend => "extend" | .pop0 => "pop" | .pop1 => "pop" | .clear => "clear" | .remove => "remove"
def ckTg (N : List Str) (sc : Scope) (fb : Str → Bool) : Tg → Expr → Bool
  | .one i, .Name x _ => decide (N[i]? = some x) && locB sc fb x
  | .tup is, .Tuple es _ _ => is.length == es.length && (is.zip es).all fun p => match p.2 with
    | .Name x _ => decide (N[p.1]? = some x) && locB sc fb x
    | _ => false
  | _, _ => false
def tgSlots : Tg → List Nat
  | .one i => [i]
  | .tup is => is
/-- a comprehension's block -/
def relB (scope sc : Scope) : Scope := relS scope sc
def fbB (scope : Scope) (x : Str) : Bool := scope.names.lookup x == some .cell
def isTup : Expr → Bool
  | .Tuple .. => true
  | _ => false
def notIf : E → Bool
  | .ite _ _ _ => false
  | .shr _ => false
  | .lnt _ _ => false
  | .orl _ _ => false
  | _ => true
def noIfs : Es → Bool
  | .nil => true
  | .cons e r => notIf e && noIfs r
/-- whose methods are asked -/
def baseB : Expr → Bool
  | .Name .. => true
  | .Call (.Name ..) (_ :: _) .. => true
  | .Dict .. => true
  | _ => false
theorem base_ok {o : Expr} {m : Str} {env : Env} {t : Sem Value} (h : baseB o = true) : attributeBase o m env t = t := by
  unfold baseB at h
  split at h <;> first | rfl | cases h
/-- lambda y: y[0] -/
def lamB (params : Arguments) (y : Str) (scope : Scope) : Bool := (match params with
    | ⟨[], [a], none, [], [], none, []⟩ => decide (a.arg = y)
    | _ => false) && (y == ("__debug__" : Str)) == false && decide (scope.kind = .function) && !scope.isCoroutine && !scope.isGenerator && scope.names.all (fun z => !(z.2 == .cell) && !(z.2 == .free)) && decide (scope.names.lookup y = some .local)
def tyN : Ty → Str
  | .int => "int" | .bool => "bool" | .str => "str" | .tup => "tuple" | .lst => "list" | .dct => "dict"
def tyS : Ty → String
  | .int => "int" | .bool => "bool" | .str => "str" | .tup => "tuple" | .lst => "list" | .dct => "dict"
/-- names that must be free -/
def freN : List Str := ["range", "zip", "enumerate", "isinstance", "set", "int", "bool", "str", "tuple", "list", "dict", "sorted", "len", "reversed"]
def isCp : E → Bool
  | .comp _ _ _ _ _ _ => true
  | _ => false
def mtT : Mt → String
  | .lcount => "list"
def mtN : Mt → Str
  | .lcount => "count"
/-- constants -/
def cnB : D → Expr → Bool
  | .non, .Constant .none _ _ => true
  | .bl b, .Constant (.bool c) _ _ => b == c
  | .int i, .Constant (.int j) _ _ => i == j
  | .str s, .Constant (.str t) _ _ => decide (s = t)
  | _, _ => false
def hdN : ExceptHandler → Option (Str × Expr)
  | .ExceptHandler (some (.Name x _)) none [.Return (some a) _] _ => some (x, a)
  | _ => none
def ckHx (exs : List Str) (sc : Scope) : List (Nat × D) → List ExceptHandler → Bool
  | [], [] => true
  | q :: hs, hd :: hds => (match hdN hd with
    | some (x, a) => decide (exs[q.1]? = some x) && glB sc x && okN x && cnB q.2 a
    | none => false) && ckHx exs sc hs hds
  | _, _ => false
/-- all of them constants -/
def conH : List (Nat × Hv) → Option (List (Nat × D))
  | [] => some []
  | (c, .con d) :: r => (conH r).map ((c, d) :: ·)
  | _ => none
/-- try: a() except ..; return .. -/
def tellB (exs : List Str) (sc : Scope) (a : Str) (hs : List (Nat × Hv)) (dn : D) : List Stmt → Bool
  | [.Try [.Expr (.Call (.Name y _) [] [] _) _] hds [] [] _, .Return (some c) _] => decide (y = a) && !hds.isEmpty && (match conH hs with
    | some l => ckHx exs sc l hds
    | none => false) && cnB dn c
  | _ => false
def sameH : List (Nat × Hv) → List (Nat × Hv) → Bool
  | [], [] => true
  | (c, .con d) :: r, (c', .con d') :: r' => decide (c = c') && sameF d d' && sameH r r'
  | (c, .fld d) :: r, (c', .fld d') :: r' => decide (c = c') && decide (d = d') && sameH r r'
  | _, _ => false
/-- lambda: .. -/
def noPar : Arguments → Bool
  | ⟨[], [], none, [], [], none, []⟩ => true
  | _ => false
mutual
def ck (N : List Str) (M : Nm) (sc : Scope) (fb : Str → Bool) : E → Expr → Bool
  | .non, .Constant .none _ _ => true
  | .bl b, .Constant (.bool c) _ _ => b == c
  | .int i, .Constant (.int j) _ _ => i == j
  | .str s, .Constant (.str t) _ _ => decide (s = t)
  | .var i, .Name x _ => decide (N[i]? = some x) && visB sc x && okN x
  | .mov i, .Name x _ => decide (N[i]? = some x) && visB sc x && okN x
  | .frz i, .Name x _ => decide (N[i]? = some x) && visB sc x && okN x
  | .io i, .Name x _ => decide (N[i]? = some x) && visB sc x && okN x
  | .glb g, .Name x _ => decide (M.gls[g]? = some x) && glB sc x && okN x
  | .tup es, .Tuple as _ _ => cks N M sc fb es as
  | .lst es, .List as _ => cks N M sc fb es as
  | .dct ps, .Dict ks vs _ => ckK N M sc fb ps ks vs && ks.all (·.isSome) && decide (ks.length = vs.length) && decide (ks.length ≤ 15)
  | .ite c x y, .IfExp c' x' y' _ => notIf c && ck N M sc fb c c' && ck N M sc fb x x' && ck N M sc fb y y'
  | .and es, .BoolOp .And as _ => !as.isEmpty && noIfs es && cks N M sc fb es as
  | .or es, .BoolOp .Or as _ => !as.isEmpty && noIfs es && cks N M sc fb es as
  | .not x, .UnaryOp .Not x' _ => notIf x && ck N M sc fb x x'
  | .bin o x y, .BinOp x' p y' _ => decide (p = opA o) && ck N M sc fb x x' && ck N M sc fb y y'
  | .neg x, .UnaryOp .USub x' _ => ck N M sc fb x x'
  | .cmp o x y, .Compare x' [p] [y'] _ => decide (p = coA o) && ck N M sc fb x x' && ck N M sc fb y y'
  | .chn o q x y z, .Compare x' [p, r] [y', z'] _ => decide (p = coA o) && decide (r = coA q) && ck N M sc fb x x' && ck N M sc fb y y' && ck N M sc fb z z'
  | .idx x y, .Subscript x' y' _ => ck N M sc fb x x' && ck N M sc fb y y'
  | .slc x lo hi, .Subscript x' (.Slice l h none _) _ => ck N M sc fb x x' && cks N M sc fb lo l.toList && cks N M sc fb hi h.toList
  | .rev x, .Subscript x' (.Slice none none (some (.UnaryOp .USub (.Constant (.int 1) _ _) _)) _) _ => ck N M sc fb x x'
  | .isi t x, .Call (.Name f _) [x', .Name c _] [] _ => decide (f = "isinstance") && glB sc f && decide (c = tyN t) && glB sc c && ck N M sc fb x x'
  | .upp x, .Call (.Attribute (.Name y p) name apos) [] [] cpos => decide (name = "upper") && ck N M sc fb x (.Name y p) && (apos.endLine == cpos.line)
  | .idv i y, .Subscript (.Name x _) y' _ => decide (N[i]? = some x) && visB sc x && okN x && ck N M sc fb y y'
  | .get false x y .non, .Call (.Attribute o name apos) [a] [] cpos => decide (name = "get") && baseB o && ck N M sc fb x o && ck N M sc fb y a && (apos.endLine == cpos.line)
  | .get true x y z, .Call (.Attribute o name apos) [a, b] [] cpos => decide (name = "get") && baseB o && ck N M sc fb x o && ck N M sc fb y a && (apos.endLine == cpos.line) && ck N M sc fb z b
  | .sset x, .Call (.Name f _) [.Call (.Name g _) [x'] [] _] [] _ => decide (f = "sorted") && glB sc f && decide (g = "set") && glB sc g && ck N M sc fb x x'
  | .lvs x, .Call (.Name f _) [.Call (.Attribute o name apos) [] [] mpos] [] _ => decide (f = "list") && decide (name = "values") && glB sc "list" && baseB o && (apos.endLine == mpos.line) && ck N M sc fb x o
  | .shr e, a => plainX a && noLc a && ck N M sc fb e a
  | .lnt _ e, .ListComp elt gs scope pos => isCp e && ck N M sc fb e (.ListComp elt gs scope pos)
  | .orl x y, .BoolOp .Or [x', y'] _ => ck N M sc fb x x' && ck N M sc fb y y'
  | .mtd m x es, .Call (.Attribute o name apos) as [] cpos => decide (name = mtN m) && baseB o && ck N M sc fb x o && cks N M sc fb es as && (apos.endLine == cpos.line) && decide (as.length = 1)
  | .ask a hs dn x, .Call (.Name g _) [.Lambda params body scope _] [] _ => M.lm && decide (g = a) && glB sc g && okN g && (M.aks.any fun q => decide (q.1 = a) && sameH q.2.1 hs && sameF q.2.2 dn) && noPar params && LamX.lamSB sc scope && ck N { M with lm := false } scope (fun _ => false) x body
  | .srk x, .Call (.Name f _) [x'] [⟨some kw, .Lambda params (.Subscript (.Name y _) (.Constant (.int 0) _ _) _) scope _, _⟩] _ => M.lm && decide (f = "sorted") && glB sc f && decide (kw = "key") && lamB params y scope && ck N M sc fb x x'
  | .lrng es, .Call (.Name f _) [.Call (.Name g _) as [] _] [] _ => decide (f = "list") && glB sc f && decide (g = "range") && glB sc g && cks N M sc fb es as && !as.isEmpty && decide (as.length ≤ 2)
  | .call f es, .Call (.Name x _) as kws _ => decide (M.fns[f]? = some x) && glB sc x && okN x && cks N M sc fb es (as ++ kws.map (·.value)) && decide (kws.map (·.arg) = (M.kws.getD f []).map some) && decide (as.length + kws.length = M.ars.getD f 0)
  | .fld x f, .Attribute x' g _ => decide (f = g) && decide (f ∈ M.flds) && baseB x' && ck N M sc fb x x'
  | .mth m f (.cons (.var i) r), .Call (.Attribute (.Name y p) name apos) as [] cpos => decide (name = m) && decide ((m, f) ∈ M.mts) && ck N M sc fb (.var i) (.Name y p) && cks N M sc fb r as && !as.isEmpty && decide (as.length + 1 = M.ars.getD f 0) && (apos.endLine == cpos.line) && decide (as.length < 30)
  | .mk c f es, .Call (.Name x _) as [] _ => decide ((x, c, f) ∈ M.mks) && glB sc x && okN x && cks N M sc fb es as && !as.isEmpty && decide (as.length + 1 = M.ars.getD f 0)
  | .bif b es, .Call (.Name x _) as [] _ => decide (bifV b ≠ .none) && decide (x = bifN b) && glB sc x && okN x && !as.isEmpty && cks N M sc fb es as
  | .mut m i es, .Call (.Attribute (.Name x _) name apos) as [] cpos => decide (N[i]? = some x) && visB sc x && okN x && decide (name = muN m) && cks N M sc fb es as && (apos.endLine == cpos.line) && decide (as.length ≤ 1)
  | .comp w src tg cs x vs, .ListComp elt [⟨t, it, ifs, a⟩] scope _ =>
    decide (a = 0) && blkC N sc scope (vs.map fun i => (N.getD i Str.empty, i)) && decide (∀ i ∈ tgSlots tg, i ∈ vs) && decide (vs.Nodup) &&
    (match w, it with
      | .seq, it => cks N M sc fb src [it]
      | .rng, .Call (.Name x _) as [] _ => decide (x = "range") && glB sc x && cks N M sc fb src as && !as.isEmpty && decide (as.length ≤ 2)
      | .enu, .Call (.Name y _) as [] _ => decide (y = "enumerate") && glB sc y && cks N M sc fb src as && decide (as.length = 1) && isTup t && !(imps cs || imp x)
      | .zip, .Call (.Name y _) as [] _ => decide (y = "zip") && glB sc y && cks N M sc fb src as && decide (as.length = 2) && isTup t && !(imps cs || imp x)
      | _, _ => false) &&
    ckTg N (relB scope sc) (fbB scope) tg t && decide (ifs.length ≤ 1) && noIfs cs && cks N M (relB scope sc) (fbB scope) cs ifs && ck N M (relB scope sc) (fbB scope) x elt
  | _, _ => false
def ckK (N : List Str) (M : Nm) (sc : Scope) (fb : Str → Bool) : Es → List (Option Expr) → List Expr → Bool
  | .nil, [], [] => true
  | .cons e (.cons f r), some a :: as, b :: bs => ck N M sc fb e a && ck N M sc fb f b && ckK N M sc fb r as bs
  | _, _, _ => false
def cks (N : List Str) (M : Nm) (sc : Scope) (fb : Str → Bool) : Es → List Expr → Bool
  | .nil, [] => true
  | .cons e r, a :: as => ck N M sc fb e a && cks N M sc fb r as
  | _, _ => false
end
section
variable {N : List Str} {M : Nm} {sc : Scope} {fb : Str → Bool}
theorem ck_plain : ∀ {e : E} {a : Expr}, ck N M sc fb e a = true → plainX a = true := by
  intro e a h
  unfold ck at h
  split at h <;> first | rfl | (cases h; done) | exact (Bool.and_eq_true_iff.mp (Bool.and_eq_true_iff.mp h).1).1
theorem star_cons {a : Expr} {as : List Expr} {env : Env} (h : plainX a = true) : starEach (a :: as) env = (false, eval a env) :: starEach as env := by
  cases a <;> first | rfl | cases h
theorem plain_ix {a : Expr} (h : plainX a = true) : PlainIx a := by
  cases a <;> first | exact fun _ _ => rfl | cases h
theorem plain_set {a : Expr} {env : Env} (h : plainX a = true) : ∀ x, foldedSetIterable a env x = pure x := by
  cases a <;> first | exact fun _ => rfl | cases h
theorem plain_mark {a : Expr} {op : CmpOp} (h : plainX a = true) : behindInMarks op a = false := by
  cases a <;> first | rfl | cases h
theorem star_any : ∀ {es : Es} {as : List Expr} {env : Env} {pos : Pos}, cks N M sc fb es as = true → (backTo pos (starEach as env)).any (·.1) = false
  | .nil, [], _, _, _ => rfl
  | .cons e r, a :: as, env, pos, h => by
    unfold cks at h
    rw [Bool.and_eq_true] at h
    rw [star_cons (ck_plain h.1)]
    show (false || (backTo pos (starEach as env)).any (·.1)) = false
    rw [star_any h.2]; rfl
  | .nil, _ :: _, _, _, h => by cases h
  | .cons _ _, [], _, _, h => by cases h
theorem cks_plain : ∀ {es : Es} {a : Expr} {as : List Expr}, cks N M sc fb es (a :: as) = true → plainX a = true
  | .cons e r, _, _, h => by
    unfold cks at h
    rw [Bool.and_eq_true] at h
    exact ck_plain h.1
  | .nil, _, _, h => by cases h
end
/-- where a def stands, and what it promises -/
structure Fi (K : PySem.W.Frag) (mg : Str → Option Value) (P : Program) (w : World) (base : Heap) (k : Nat) (x : Str) (nm : List Str) (a : Nat) (sp : Sp) : Prop where
  ex : ∃ (f : Addr) (fd : FuncData) (ps : List Str) (sp0 : Sp), mg x = some (.ref f) ∧ PySem.W.keepIn K (.ref f) = true ∧ FnOk P w K mg base (L2.CX P w) k f fd ps sp0 ∧
    ((nm = [] ∧ ∃ (ds : List Value) (dvs : List V), Binds K fd ps ds ∧ Vals dvs ds ∧ ∀ vs H Q E, sp vs H Q E → sp0 (vs ++ dvs) H Q E) ∨
     (nm ≠ [] ∧ ∃ (n : Nat) (g : List Value → List Value → List Value) (gV : List V → List V → List V), KBn K fd ps n nm g gV ∧ n + nm.length = a ∧ ∀ vs zs H Q E, sp (vs ++ zs) H Q E → sp0 (gV vs zs) H Q E))
/-- what is handed in to a def: g tells the cells of what is to be given back -/
inductive ArgR (K : PySem.W.Frag) (cl : Nat → Addr) (A : AS) (H : Hp) (g : Fp) (j : Nat) : Fl × D → V → Prop
  | dat {d : D} {v : V} : Rep K cl A H d v → g j = [] → ArgR K cl A H g j (.dat, d) v
  | brw {d : D} {v : V} {fr : List Addr} : Cell K cl A H d v fr → (∀ a ∈ fr, A a ∧ ¬ ownS g a) → g j = [] → ArgR K cl A H g j (.brw, d) v
  | ino {d : D} {v : V} : Cell K cl A H d v (g j) → (∀ a ∈ g j, A a) → ArgR K cl A H g j (.ino, d) v
structure ArgsR (K : PySem.W.Frag) (cl : Nat → Addr) (A : AS) (H : Hp) (g : Fp) (as : List (Fl × D)) (vs : List V) : Prop where
  len : as.length = vs.length
  each : ∀ j x v, as[j]? = some x → vs[j]? = some v → ArgR K cl A H g j x v
  dis : ∀ i j a, a ∈ g i → a ∈ g j → i = j
  out : ∀ j, as.length ≤ j → g j = []
/-- what is given back -/
def OutR (K : PySem.W.Frag) (cl : Nat → Addr) (A : AS) (H : Hp) (g : Fp) (as : List (Fl × D)) (vs : List V) (outs : List D) : Prop :=
  outs.length = as.length ∧ ∀ (j : Nat) (x d : D) (v : V), as[j]? = some (Fl.ino, x) → outs[j]? = some d → vs[j]? = some v → Cell K cl A H d v (g j)
/-- nothing that is handed in to be given back is an instance -/
def NoO (as : List (Fl × D)) : Prop := ∀ (j : Nat) (d : D), as[j]? = some (Fl.ino, d) → isObj d = false
/-- a def's promise: it comes to what C says -/
def spF (K : PySem.W.Frag) (cl cx : Nat → Addr) (n : Nat) (C : List (Fl × D) → R ((Fl × D) × List D)) : Sp := fun vs H Q E =>
  ∃ A g as, ArgsR K cl A H g as vs ∧ (Trk A H ∧ TabsK H ∧ NoO as) ∧ vs.length = n ∧
    match C as with
    | .ok (r, outs) => ∀ v H', Fr H (ownS g) H' → OutR K cl A H' g as vs outs → Rs K cl (fun a => H a = none) A H' r v → Q v H'
    | .exc x => ∀ od H', ExR K cl x od H' → Fr H (ownS g) H' → E (.ref (cx x.c)) od H'
    | .bad => False
/-- an __init__'s promise: the new instance, vs's first, comes to what I says -/
def spI (K : PySem.W.Frag) (cl cx : Nat → Addr) (c n : Nat) (I : List (Fl × D) → R D) : Sp := fun vs H Q E =>
  ∃ A g as x, vs[0]? = some (V.ref x) ∧ ArgsR K cl A H g ((.ino, .obj c []) :: as) vs ∧ (∀ a, ownS g a → a = x) ∧ (Trk A H ∧ TabsK H) ∧ vs.length = n ∧
    match I as with
    | .ok d => ∀ H' fr, Fr H (fun a => a = x) H' → Cell K cl (fun a => (A a ∧ a ≠ x) ∨ a ∈ fr) H' d (.ref x) fr → (∀ a ∈ fr, ¬ (A a ∧ a ≠ x)) → (∀ a ∈ fr, a = x ∨ H a = none) → Q .non H'
    | .exc y => ∀ od H', ExR K cl y od H' → Fr H (fun a => a = x) H' → E (.ref (cx y.c)) od H'
    | .bad => False
/-- an exception class: where it stands -/
structure ExF (K : PySem.W.Frag) (mg : Str → Option Value) (a : Addr) (x : Str) : Prop where
  mg : mg x = some (.ref a)
  exc : PySem.W.excIn K a [.type "ValueError", .type "Exception", .type "BaseException", .type "object"] "ValueError.__new__" = true
  kp : PySem.W.keepIn K (.ref a) = true
  sub : PySem.W.subIn K (.ref a) (.type "BaseException") = some true
  ty : PySem.W.typeIn K (.ref a) = some (.type "type")
/-- a def that calls what it got -/
def AskD (K : PySem.W.Frag) (mg : Str → Option Value) (exs : List Str) (q : Str × List (Nat × Hv) × D) : Prop :=
  ∃ (g : Addr) (Ng : List Str) (a name qual : Str) (sg : Scope) (pg : Arguments) (bg : List Stmt) (dV kV doc pm cdv ct oc : Value) (an od : Option Addr) (osl : Array (Option Value)),
    mg q.1 = some (.ref g) ∧ PySem.W.keepIn K (.ref g) = true ∧ K.lookup g = some ⟨oc, od, .func (PySem.W.fnOf name qual pg bg sg dV kV doc pm an cdv ct), osl⟩ ∧ PySem.W.codeIn K cdv qual = true ∧
    L2.Binds K (PySem.W.fnOf name qual pg bg sg dV kV doc pm an cdv ct) [a] [] ∧ FnScope Ng [a] sg ∧ okN a = true ∧ tellB exs sg a q.2.1 q.2.2 bg = true
theorem takes_non {X : Cx} : Takes X (fun _ _ _ _ => False) := fun _ _ ⟨_, _, _, _, _, _, _, _, _, _, _, _, _, _, _, _, w⟩ => w.elim
/-- what the reader of expressions asks of where it stands -/
structure Good (cl cx : Nat → Addr) (T : Tb) (M : Nm) (W : XK) (sc : Scope) (fb : Str → Bool) (X : Cx) (k : Nat) : Prop where
  calm : X.calm = true
  nd : X.N.Nodup
  sc : X.env.scope = sc
  fb : X.fn = fb
  rm : Room (k + 1) X.A
  rm3 : M.lm = true → Room (k + 3) X.A
  aks : ∀ q ∈ M.aks, AskD X.K X.mg M.exs q
  pas : Passes (L2.CX X.prog X.w) X W
  tk : Takes X (fun cls d _ H => W cls d H)
  exs : ∀ c x, M.exs[c]? = some x → ExF X.K X.mg (cx c) x
  exm : ∀ c c' x x', M.exs[c]? = some x → M.exs[c']? = some x' → PySem.W.exmOne X.K (.ref (cx c)) (.ref (cx c')) = some (decide (c = c'))
  fns : ∀ f x, M.fns[f]? = some x → Fi X.K X.mg X.prog X.w X.base k x (M.kws.getD f []) (M.ars.getD f 0) (spF X.K cl cx (M.ars.getD f 0) (T.C f))
  gls : ∀ g x, M.gls[g]? = some x → ∃ (u : Value) (v : V), X.mg x = some u ∧ RelV v u ∧ ∀ A H, Rep X.K cl A H (T.G g) v
  blt : ∀ b, bifV b ≠ .none → X.mg (bifN b) = none
  rng : X.mg "range" = none
  zip : X.mg "zip" = none
  enu : X.mg "enumerate" = none
  fre : ∀ x ∈ freN, X.mg x = none
  tab : M.lm = true → ∃ c t, TabC TabT.T X c t
  clc : ∀ c, cl c = cl 0
  nat : ∀ f ∈ M.flds, Cls X.K (cl 0) ∧ NoAttr X.K (cl 0) f
  mts : ∀ m f, (m, f) ∈ M.mts → Cls X.K (cl 0) ∧ ∃ fa fd ps, Meth X.K (cl 0) m fa ∧ Binds X.K fd ps [] ∧ FnOk X.prog X.w X.K X.mg X.base (L2.CX X.prog X.w) k fa fd ps (spF X.K cl cx (M.ars.getD f 0) (T.C f))
  mks : ∀ x c f, (x, c, f) ∈ M.mks → X.mg x = some (.ref (cl 0)) ∧ ∃ fi fd ps, Mk X.K (cl 0) fi ∧ Binds X.K fd ps [] ∧ FnOk X.prog X.w X.K X.mg X.base (L2.CX X.prog X.w) k fi fd ps (spI X.K cl cx c (M.ars.getD f 0) (T.I c f))
section
variable {cl cx : Nat → Addr} {T : Tb} {M : Nm} {W : XK} {sc : Scope} {fb : Str → Bool} {X : Cx} {k : Nat}
theorem Good.rm1 (G : Good cl cx T M W sc fb X k) : Room k X.A := G.rm.mono (Nat.le_succ k)
theorem Good.units (G : Good cl cx T M W sc fb X k) : X.A.units + 64 < cLine := by have := G.rm.un; omega
theorem Good.vis (G : Good cl cx T M W sc fb X k) {x : Str} (h : visB sc x = true) : Vis X.env.scope x := by
  rw [G.sc]
  unfold visB at h
  split at h
  · exact .inl (by assumption)
  · exact .inr (.inl (by assumption))
  · exact .inr (.inr (by assumption))
  · cases h
theorem Good.gl (G : Good cl cx T M W sc fb X k) {x : Str} (h : glB sc x = true) : Gl X x := by
  show X.env.scope.names.lookup x = some .globalImplicit
  rw [G.sc]
  unfold glB at h
  split at h
  · assumption
  · cases h
theorem okN_iff {x : Str} (h : okN x = true) : (x == ("__debug__" : Str)) = false ∧ (x == ("__classdict__" : Str)) = false ∧ x ≠ ("__name__" : Str) := by
  unfold okN at h
  rw [Bool.and_eq_true, Bool.and_eq_true, decide_eq_true_eq, beq_iff_eq, beq_iff_eq] at h
  exact ⟨h.1.1, h.1.2, h.2⟩
theorem PE.imp {e : Expr} {t t' : TE} (h : PE X e t) (i : ∀ σ H Q, t' σ H Q → t σ H Q) : PE X e t' := ⟨fun pins s σ H Q I q => h.run pins s σ H Q I (i σ H Q q)⟩
theorem PT.imp {e : Expr} {t t' : TT} (h : PT X e t) (i : ∀ σ H Q, t' σ H Q → t σ H Q) : PT X e t' := ⟨fun pins s σ H Q I q => h.run pins s σ H Q I (i σ H Q q)⟩
theorem PA.imp {e : List Expr} {t t' : TA} (h : PA X e t) (i : ∀ σ H Q, t' σ H Q → t σ H Q) : PA X e t' := ⟨fun pos pins s σ H Q I q => h.run pos pins s σ H Q I (i σ H Q q)⟩
theorem PI.imp {tg e : Expr} {t t' : TI} (h : PI X tg e t) (i : ∀ σ H Q, t' σ H Q → t σ H Q) : PI X tg e t' := ⟨fun pins s σ H Q I q => h.run pins s σ H Q I (i σ H Q q)⟩
theorem PI.or {tg e : Expr} {t t' : TI} (h : PI X tg e t) (h' : PI X tg e t') : PI X tg e (fun σ H Q => t σ H Q ∨ t' σ H Q) := ⟨fun pins s σ H Q I q => q.elim (h.run pins s σ H Q I) (h'.run pins s σ H Q I)⟩
variable (cl cx T W) in
abbrev tE (K : PySem.W.Frag) (e : E) : TE := tEv K cl cx W T e
theorem ng {b : Bool} (h : (!b) = true) : b = false := (Bool.not_eq_true' b).mp h
inductive ResS (K : PySem.W.Frag) (cl : Nat → Addr) (P : Px) (fp : Fp) (σV : L2.St) (H : Hp) : Es → List (Fl × D) → List V → Prop
  | nil : ResS K cl P fp σV H .nil [] []
  | cons {e : E} {r : Es} {x : Fl × D} {xs : List (Fl × D)} {v : V} {vs : List V} : Res K cl P fp σV H e x v → ResS K cl P fp σV H r xs vs → ResS K cl P fp σV H (.cons e r) (x :: xs) (v :: vs)
abbrev RSs (K : PySem.W.Frag) (cl : Nat → Addr) (P : Px) (σV : L2.St) (es : Es) : Fp → Hp → List (Fl × D) → List V → Prop := fun fp H r v => ResS K cl P fp σV H es r v
def tEvs (K : PySem.W.Frag) (cl cx : Nat → Addr) (W : XK) (T : Tb) (es : Es) : TA := fun σV H Q => ∃ P fp σ, Rel K cl P fp σ σV H ∧ Post K cl cx W P σV fp H σ (imps es) (RSs K cl P σV es) (evs T es σ) Q
variable (cl cx T W) in
abbrev tS (K : PySem.W.Frag) (es : Es) : TA := tEvs K cl cx W T es
section
variable {K : PySem.W.Frag} {P : Px} {σV : L2.St} {fp fp1 : Fp} {H H1 : Hp} {σ σ1 : Sg} {Q : VK}
/-- a result is carried over what follows -/
theorem Res.next {e : E} {x : Fl × D} {v : V} {b : Bool} (r : Res K cl P fp σV H e x v) (g : (x.1 == .brw && b) = false) (s : Sub fp1 fp) (f : Fr H (ownS fp) H1)
    (i : b = false → σ1 = σ ∧ fp1 = fp ∧ Ext H H1) : Res K cl P fp1 σV H1 e x v := by
  cases r with
  | rs r => exact .rs (r.mv (mv_sub s f))
  | brw c h =>
    have hb : b = false := by cases b <;> first | rfl | cases g
    obtain ⟨_, e2, t⟩ := i hb
    subst e2
    exact .brw (c.mv (Mv.ext t) fun a _ o h nt => t.keep a o h nt) h
  | ino a b => exact .ino a b
theorem ResS.keeps : ∀ {es : Es} {xs : List (Fl × D)} {vs : List V} {ds : List D}, ResS K cl P fp σV H es xs vs → keeps xs = .ok ds → Reps K cl (avS P fp) H ds vs
  | _, _, _, _, .nil, h => by cases h; exact .nil
  | _, _, _, _, .cons r t, h => by
    obtain ⟨d, h1, h⟩ := R.bind_eq_ok h
    obtain ⟨ds, h2, h⟩ := R.bind_eq_ok h
    cases h
    exact .cons (r.keep h1 (fun _ _ z => z) (Fr.refl _ _)) (t.keeps h2)
theorem ResS.looks : ∀ {es : Es} {xs : List (Fl × D)} {vs : List V} {ds : List D}, ResS K cl P fp σV H es xs vs → looks xs = .ok ds → Lks K cl (avS P fp) H ds vs
  | _, _, _, _, .nil, h => by cases h; exact .nil
  | _, _, _, _, .cons r t, h => by
    obtain ⟨d, h1, h⟩ := R.bind_eq_ok h
    obtain ⟨ds, h2, h⟩ := R.bind_eq_ok h
    cases h
    exact .cons (r.lk0 h1) (t.looks h2)
theorem imp_cons {e : E} {r : Es} {Q : List V → Hp → Prop} (h : tS cl cx T W K (.cons e r) σV H Q) : tCons (tE cl cx T W K e) (tS cl cx T W K r) σV H Q := by
  obtain ⟨P, fp, σ, R, h⟩ := h
  have pu : imps (.cons e r) = false → imp e = false ∧ imps r = false := fun z => Bool.or_eq_false_iff.mp z
  rw [evs] at h
  refine ⟨P, fp, σ, R, h.bind (fun z => (pu z).1) fun v σ1 fp1 v1 H1 _ R1 s1 f1 i1 r1 h => ?_⟩
  obtain ⟨g, h⟩ := h.grd
  refine ⟨P, fp1, σ1, R1, h.bind (fun z => (pu z).2) fun w σ2 fp2 v2 H2 _ R2 s2 f2 i2 r2 h => ?_⟩
  exact h fp2 _ H2 R2 (fun _ _ z => z) (Fr.refl _ _) (fun _ => ⟨rfl, rfl, Ext.refl _⟩) (.cons (r1.next (ng g) s2 f2 i2) r2)
theorem imp_nil {Q : List V → Hp → Prop} (h : tS cl cx T W K .nil σV H Q) : Q [] H := by
  obtain ⟨P, fp, σ, R, h⟩ := h
  rw [evs] at h
  exact h fp [] H R (fun _ _ z => z) (Fr.refl _ _) (fun _ => ⟨rfl, rfl, Ext.refl _⟩) .nil
theorem imp_bin {o : Op} {x y : E} (h : tE cl cx T W K (.bin o x y) σV H Q) : tOp (rBin K cl o) (tE cl cx T W K x) (tE cl cx T W K y) σV H Q := by
  obtain ⟨P, fp, σ, R, h⟩ := h
  have pu : imp (.bin o x y) = false → imp x = false ∧ imp y = false := fun z => Bool.or_eq_false_iff.mp z
  rw [ev] at h
  refine ⟨P, fp, σ, R, h.bind (fun z => (pu z).1) fun v σ1 fp1 v1 H1 _ R1 s1 f1 i1 r1 h => ?_⟩
  obtain ⟨g, h⟩ := h.grd
  refine ⟨P, fp1, σ1, R1, h.bind (fun z => (pu z).2) fun w σ2 fp2 v2 H2 _ R2 s2 f2 i2 r2 h => ?_⟩
  obtain ⟨d, l1, h⟩ := h.pur (nox_look v)
  obtain ⟨e, l2, h⟩ := h.pur (nox_look w)
  obtain ⟨r, hb, h⟩ := h.pur (nox_bin o d e)
  exact ⟨avS P fp2, d, e, r, r1.lk l1 (ng g) s2 f2 i2, r2.lk0 l2, R2.trk, hb, h.done R2⟩
theorem imp_cmp {o : CO} {x y : E} (h : tE cl cx T W K (.cmp o x y) σV H Q) : tOp (rCmp K cl o) (tE cl cx T W K x) (tE cl cx T W K y) σV H Q := by
  obtain ⟨P, fp, σ, R, h⟩ := h
  have pu : imp (.cmp o x y) = false → imp x = false ∧ imp y = false := fun z => Bool.or_eq_false_iff.mp z
  rw [ev] at h
  refine ⟨P, fp, σ, R, h.bind (fun z => (pu z).1) fun v σ1 fp1 v1 H1 _ R1 s1 f1 i1 r1 h => ?_⟩
  obtain ⟨g, h⟩ := h.grd
  refine ⟨P, fp1, σ1, R1, h.bind (fun z => (pu z).2) fun w σ2 fp2 v2 H2 _ R2 s2 f2 i2 r2 h => ?_⟩
  obtain ⟨d, l1, h⟩ := h.pur (nox_look v)
  obtain ⟨e, l2, h⟩ := h.pur (nox_look w)
  obtain ⟨r, hb, h⟩ := h.pur (nox_cmp o d e)
  exact ⟨avS P fp2, d, e, r, r1.lk l1 (ng g) s2 f2 i2, r2.lk0 l2, R2.trk, hb, h.doneD R2 (.bl _)⟩
theorem imp_idx {x y : E} (h : tE cl cx T W K (.idx x y) σV H Q) : tOp (rIdx K cl) (tE cl cx T W K x) (tE cl cx T W K y) σV H Q := by
  obtain ⟨P, fp, σ, R, h⟩ := h
  have pu : imp (.idx x y) = false → imp x = false ∧ imp y = false := fun z => Bool.or_eq_false_iff.mp z
  rw [ev] at h
  refine ⟨P, fp, σ, R, h.bind (fun z => (pu z).1) fun v σ1 fp1 v1 H1 _ R1 s1 f1 i1 r1 h => ?_⟩
  obtain ⟨g, h⟩ := h.grd
  refine ⟨P, fp1, σ1, R1, h.bind (fun z => (pu z).2) fun w σ2 fp2 v2 H2 _ R2 s2 f2 i2 r2 h => ?_⟩
  obtain ⟨d, l1, h⟩ := h.pur (nox_look v)
  obtain ⟨e, l2, h⟩ := h.pur (nox_look w)
  obtain ⟨r, hb, h⟩ := h.pur (nox_idx d e)
  exact ⟨avS P fp2, d, e, r, r1.lk l1 (ng g) s2 f2 i2, r2.lk0 l2, R2.trk, hb, h.done R2⟩
theorem imp_chn {o q : CO} {x y z : E} (h : tE cl cx T W K (.chn o q x y z) σV H Q) : tChain (rCmp K cl o) (rCmp K cl q) (tE cl cx T W K x) (tE cl cx T W K y) (tE cl cx T W K z) σV H Q := by
  obtain ⟨P, fp, σ, R, h⟩ := h
  have pu : imp (.chn o q x y z) = false → (imp x = false ∧ imp y = false) ∧ imp z = false := fun z => ⟨Bool.or_eq_false_iff.mp (Bool.or_eq_false_iff.mp z).1, (Bool.or_eq_false_iff.mp z).2⟩
  rw [ev] at h
  refine ⟨P, fp, σ, R, h.bind (fun z => (pu z).1.1) fun v σ1 fp1 v1 H1 _ R1 s1 f1 i1 r1 h => ?_⟩
  obtain ⟨g, h⟩ := h.grd
  refine ⟨P, fp1, σ1, R1, h.bind (fun z => (pu z).1.2) fun w σ2 fp2 v2 H2 _ R2 s2 f2 i2 r2 h => ?_⟩
  obtain ⟨g2, h⟩ := h.grd
  obtain ⟨d, l1, h⟩ := h.pur (nox_look v)
  obtain ⟨e, l2, h⟩ := h.pur (nox_look w)
  obtain ⟨r, hb, h⟩ := h.pur (nox_cmp o d e)
  refine ⟨avS P fp2, d, e, r, r1.lk l1 (ng g) s2 f2 i2, r2.lk0 l2, R2.trk, hb, r, rfl, ?_⟩
  cases r with
  | false => exact h.doneD R2 (.bl _)
  | true =>
    refine iteT ⟨P, fp2, σ2, R2, h.bind (fun z => (pu z).2) fun u σ3 fp3 v3 H3 _ R3 s3 f3 i3 r3 h => ?_⟩
    obtain ⟨e3, l3, h⟩ := h.pur (nox_look u)
    obtain ⟨r', hb', h⟩ := h.pur (nox_cmp q e e3)
    exact ⟨avS P fp3, e, e3, r', r2.lk l2 (ng g2) s3 f3 i3, r3.lk0 l3, R3.trk, hb', h.doneD R3 (.bl _)⟩
/-- a truth -/
theorem Res.bl {e : E} {x : Fl × D} {v : V} {b : Bool} (r : Res K cl P fp σV H e x v) (h : boolD x = .ok b) : v = .bl b := by
  cases r with
  | rs r =>
    obtain ⟨f, d⟩ := x
    have r1 := r.rep
    cases d with
    | bl c => cases h; cases r1; rfl
    | _ => cases h
  | brw c _ => cases c <;> cases h
  | ino => cases h
theorem imp_not {x : E} (h : tE cl cx T W K (.not x) σV H Q) : tE cl cx T W K x σV H fun v H1 => ∃ c, v = .bl c ∧ Q (.bl (!c)) H1 := by
  obtain ⟨P, fp, σ, R, h⟩ := h
  rw [ev] at h
  refine ⟨P, fp, σ, R, h.bind (fun z => z) fun v σ1 fp1 v1 H1 _ R1 s1 f1 i1 r1 h => ?_⟩
  obtain ⟨b, hb, h⟩ := h.pur (nox_bool v)
  exact ⟨b, r1.bl hb, h.doneD R1 (.bl _)⟩
theorem imp_neg {x : E} (h : tE cl cx T W K (.neg x) σV H Q) : tUn (rU fun i => .int (-i)) (tE cl cx T W K x) σV H Q := by
  obtain ⟨P, fp, σ, R, h⟩ := h
  rw [ev] at h
  refine ⟨P, fp, σ, R, h.bind (fun z => z) fun v σ1 fp1 v1 H1 _ R1 s1 f1 i1 r1 h => ?_⟩
  obtain ⟨f, d⟩ := v
  cases d with
  | int i =>
    have h : Post K cl cx W P σV fp1 H1 σ1 _ (RSe K cl P σV (.neg x)) (.ok ((.dat, .int (-i)), σ1)) Q := h
    refine ⟨i, ?_, h.doneD R1 (.int _)⟩
    cases r1 with
    | rs r => have r := r.rep; cases r; rfl
    | brw c _ => cases c
  | _ => exact (show False from h).elim
theorem imp_ite {c x y : E} (h : tE cl cx T W K (.ite c x y) σV H Q) : tIf (tB (tE cl cx T W K c)) (tE cl cx T W K x) (tE cl cx T W K y) σV H Q := by
  obtain ⟨P, fp, σ, R, h⟩ := h
  have pu : imp (.ite c x y) = false → (imp c = false ∧ imp x = false) ∧ imp y = false := fun z => ⟨Bool.or_eq_false_iff.mp (Bool.or_eq_false_iff.mp z).1, (Bool.or_eq_false_iff.mp z).2⟩
  rw [ev] at h
  refine ⟨P, fp, σ, R, h.bind (fun z => (pu z).1.1) fun v σ1 fp1 v1 H1 _ R1 s1 f1 i1 r1 h => ?_⟩
  obtain ⟨b, hb, h⟩ := h.pur (nox_bool v)
  refine ⟨b, r1.bl hb, ?_⟩
  have fin : ∀ (e : E) (w : Fl × D) (σ2 : Sg) (fp2 : Fp) (v2 : V) (H2 : Hp), Rel K cl P fp2 σ2 σV H2 → Res K cl P fp2 σV H2 e w v2 →
      Post K cl cx W P σV fp2 H2 σ2 (imp (.ite c x y)) (RSe K cl P σV (.ite c x y)) (guard (w.1 != .brw && w.1 != .ino) >>= fun _ => .ok (w, σ2)) Q → Q v2 H2 := by
    intro e w σ2 fp2 v2 H2 R2 r2 h
    obtain ⟨g, h⟩ := h.grd
    refine h fp2 v2 H2 R2 (fun _ _ z => z) (Fr.refl _ _) (fun _ => ⟨rfl, rfl, Ext.refl _⟩) ?_
    cases r2 with
    | rs r => exact .rs r
    | brw _ _ => cases g
    | ino _ _ => cases g
  cases b with
  | true =>
    refine iteT ⟨P, fp1, σ1, R1, Post.bind (k := fun p => guard (p.1.1 != .brw && p.1.1 != .ino) >>= fun _ => .ok (p.1, p.2)) h (fun z => (pu z).1.2) fun w σ2 fp2 v2 H2 _ R2 s2 f2 i2 r2 h => fin x w σ2 fp2 v2 H2 R2 r2 h⟩
  | false =>
    refine iteF ⟨P, fp1, σ1, R1, Post.bind (k := fun p => guard (p.1.1 != .brw && p.1.1 != .ino) >>= fun _ => .ok (p.1, p.2)) h (fun z => (pu z).2) fun w σ2 fp2 v2 H2 _ R2 s2 f2 i2 r2 h => fin y w σ2 fp2 v2 H2 R2 r2 h⟩
theorem imp_tup {es : Es} (h : tE cl cx T W K (.tup es) σV H Q) : tTup (tS cl cx T W K es) σV H Q := by
  obtain ⟨P, fp, σ, R, h⟩ := h
  rw [ev] at h
  refine ⟨P, fp, σ, R, h.bind (fun z => z) fun v σ1 fp1 v1 H1 _ R1 s1 f1 i1 r1 h => ?_⟩
  obtain ⟨ds, l1, h⟩ := h.pur (nox_keeps v)
  obtain ⟨g, h⟩ := h.grd
  have rs := r1.keeps l1
  have hl : ds.length ≤ 16777216 := of_decide_eq_true g
  exact ⟨by rw [line_eq, ← rs.length]; exact hl, fun p hp => h.done R1 _ _ (Ext.new hp) (Rs.newT hp R1.trk rs hl)⟩
theorem imp_lst {es : Es} (h : tE cl cx T W K (.lst es) σV H Q) : tLst (tS cl cx T W K es) σV H Q := by
  obtain ⟨P, fp, σ, R, h⟩ := h
  rw [ev] at h
  refine ⟨P, fp, σ, R, h.bind (fun z => z) fun v σ1 fp1 v1 H1 _ R1 s1 f1 i1 r1 h => ?_⟩
  obtain ⟨ds, l1, h⟩ := h.pur (nox_keeps v)
  obtain ⟨g, h⟩ := h.grd
  have rs := r1.keeps l1
  have hl : ds.length ≤ 16777216 := of_decide_eq_true g
  exact ⟨by rw [line_eq, ← rs.length]; exact hl, fun p hp => h.done R1 _ _ (Ext.new hp) (Rs.newL hp R1.trk rs hl)⟩
theorem imp_bif {b : Bif} {es : Es} (h : tE cl cx T W K (.bif b es) σV H Q) : tCB (rBif K cl b) (tS cl cx T W K es) σV H Q := by
  obtain ⟨P, fp, σ, R, h⟩ := h
  rw [ev] at h
  refine ⟨P, fp, σ, R, h.bind (fun z => z) fun v σ1 fp1 v1 H1 _ R1 s1 f1 i1 r1 h => ?_⟩
  obtain ⟨ds, l1, h⟩ := h.pur (nox_looks v)
  obtain ⟨r, hb, h⟩ := h.pur (nox_bif b ds)
  exact ⟨avS P fp1, ds, r, r1.looks l1, R1.trk, hb, h.done R1⟩
theorem imp_rev {x : E} (h : tE cl cx T W K (.rev x) σV H Q) : tRevA K (tE cl cx T W K x) σV H Q := by
  obtain ⟨P, fp, σ, R, h⟩ := h
  rw [ev] at h
  refine ⟨P, fp, σ, R, h.bind (fun z => z) fun v σ1 fp1 v1 H1 _ R1 s1 f1 i1 r1 h => ?_⟩
  obtain ⟨f, d⟩ := v
  cases d with
  | lst ds =>
    have h : Post K cl cx W P σV fp1 H1 σ1 _ (RSe K cl P σV (.rev x)) (.ok ((.own, .lst ds.reverse), σ1)) Q := h
    have lk : Lk K cl (avS P fp1) H1 (.lst ds) v1 := by
      cases r1 with
      | rs r => exact r.rep.lk
      | brw c _ => exact c.lk
    cases lk with
    | @lst _ a vs t r l => exact .inl ⟨a, vs, rfl, SqL.of t, fun p hp => h.done R1 _ _ (Ext.new hp) (Rs.newL hp R1.trk r.rev (by rw [List.length_reverse]; exact l))⟩
  | tup ds =>
    have h : Post K cl cx W P σV fp1 H1 σ1 _ (RSe K cl P σV (.rev x)) (.ok ((.dat, .tup ds.reverse), σ1)) Q := h
    have lk : Lk K cl (avS P fp1) H1 (.tup ds) v1 := by
      cases r1 with
      | rs r => exact r.rep.lk
      | brw c _ => exact c.lk
    cases lk with
    | @tup _ a vs t r l => exact .inr ⟨a, vs, rfl, t.sq, fun p hp => h.done R1 _ _ (Ext.new hp) (Rs.newT hp R1.trk r.rev (by rw [List.length_reverse]; exact l))⟩
  | _ => exact (show False from h).elim
/-- s.upper() -/
theorem nox_upp (d : D) : NoX (uppD d) := by
  cases d <;> first | exact nox_bad | exact nox_if (nox_ok _) nox_bad
theorem imp_upp {x : E} (h : tE cl cx T W K (.upp x) σV H Q) : tM0 (fun x xs H Q => ∃ a, x = .str a ∧ xs = [] ∧ a.length ≤ 5592405 ∧ Q (.str (Txt.upper a)) H) (tE cl cx T W K x) σV H Q := by
  obtain ⟨P, fp, σ, R, h⟩ := h
  rw [ev] at h
  refine ⟨P, fp, σ, R, h.bind (fun z => z) fun v σ1 fp1 v1 H1 _ R1 s1 f1 i1 r1 h => ?_⟩
  obtain ⟨d, l1, h⟩ := h.pur (nox_look v)
  obtain ⟨r, hr, h⟩ := h.pur (nox_upp _)
  have lk := r1.lk0 l1
  cases lk with
  | str s =>
    obtain ⟨g, hr⟩ := ifok hr
    cases hr
    exact ⟨⟨s, rfl⟩, s, rfl, rfl, of_decide_eq_true g, h.doneD R1 (.str _)⟩
  | _ => cases hr
/-- d.get(k), d.get(k, z) -/
theorem nox_get (d e z : D) : NoX (getD d e z) := by
  cases d <;> first | exact nox_bad | exact nox_bind (nox_ofO _) fun _ => nox_ok _
theorem Lk.isD {A : AS} {d : D} {v : V} (g : isDct d = true) (h : Lk K cl A H d v) : ∃ a, v = .ref a ∧ IsD H a := by
  cases h with
  | dct t _ _ => exact ⟨_, rfl, .inl ⟨_, t⟩⟩
  | _ => cases g
theorem get_ok {A : AS} {d e z r : D} {v w u : V} (hr : getD d e z = .ok r) (h : Lk K cl A H d v) (h2 : Lk K cl A H e w) (h3 : Rep K cl A H z u) : ∃ a o, v = .ref a ∧ DGet H a w o ∧ Rep K cl A H r (o.getD u) := by
  cases h with
  | @dct kvs a ks t rr l =>
    obtain ⟨k, hk, hr⟩ := R.bind_eq_ok hr
    cases hr
    have ev := h2.key (ofO_ok hk)
    subst ev
    refine ⟨a, valV ks k, rfl, .inl ⟨ks, k, t, rfl, rfl⟩, ?_⟩
    rcases rr.val (k := k) with ⟨e1, e2⟩ | ⟨d', v', e1, e2, e3⟩
    · rw [e1, e2]; exact h3
    · rw [e1, e2]; exact e3
  | _ => cases hr
theorem keep_of {u : Fl × D} (g : (u.1 == Fl.dat) = true) : keep u = .ok u.2 := by
  obtain ⟨f, d⟩ := u
  cases f <;> first | rfl | cases g
theorem ng2 {c a b : Bool} (g : (!(c && (a || b))) = true) : (c && a) = false ∧ (c && b) = false := by
  cases c <;> cases a <;> cases b <;> first | exact ⟨rfl, rfl⟩ | cases g
theorem imp_get {b : Bool} {x y z : E} (h : tE cl cx T W K (.get b x y z) σV H Q) : tDGet2 (tE cl cx T W K x) (tE cl cx T W K y) (tE cl cx T W K z) σV H Q := by
  obtain ⟨P, fp, σ, R, h⟩ := h
  have pu : imp (.get b x y z) = false → imp x = false ∧ (imp y || imp z) = false := fun z => Bool.or_eq_false_iff.mp z
  rw [ev] at h
  refine ⟨P, fp, σ, R, h.bind (fun z => (pu z).1) fun v σ1 fp1 v1 H1 _ R1 s1 f1 i1 r1 h => ?_⟩
  obtain ⟨g, h⟩ := h.grd
  obtain ⟨d, l1, h⟩ := h.pur (nox_look v)
  obtain ⟨gd, h⟩ := h.grd
  obtain ⟨a, e0, isd⟩ := (r1.lk0 l1).isD gd
  refine ⟨a, e0, isd, P, fp1, σ1, R1, h.bind (fun z => (Bool.or_eq_false_iff.mp (pu z).2).1) fun w σ2 fp2 v2 H2 _ R2 s2 f2 i2 r2 h => ?_⟩
  obtain ⟨g2, h⟩ := h.grd
  refine ⟨P, fp2, σ2, R2, h.bind (fun z => (Bool.or_eq_false_iff.mp (pu z).2).2) fun u σ3 fp3 v3 H3 _ R3 s3 f3 i3 r3 h => ?_⟩
  obtain ⟨e, l2, h⟩ := h.pur (nox_look w)
  obtain ⟨gu, h⟩ := h.grd
  obtain ⟨r, hr, h⟩ := h.pur (nox_get _ _ _)
  have n1 := r1.next (b := imp y) (ng2 g).1 s2 f2 i2
  have n1 := n1.lk (b := imp z) l1 (ng2 g).2 s3 f3 i3
  have n2 := r2.lk l2 (ng g2) s3 f3 i3
  obtain ⟨a', o, e1, g1, rr⟩ := get_ok hr n1 n2 (r3.keep (keep_of gu) (fun _ _ z => z) (Fr.refl _ _))
  cases e0.symm.trans e1
  exact ⟨o, g1, h.doneD R3 rr⟩
theorem get_one {x y : E} (h : tE cl cx T W K (.get false x y .non) σV H Q) : tDGet1 (tE cl cx T W K x) (tE cl cx T W K y) σV H Q := by
  obtain ⟨P, fp, σ, R, h⟩ := h
  have pu : imp (.get false x y .non) = false → imp x = false ∧ (imp y || false) = false := fun z => Bool.or_eq_false_iff.mp z
  rw [ev] at h
  refine ⟨P, fp, σ, R, h.bind (fun z => (pu z).1) fun v σ1 fp1 v1 H1 _ R1 s1 f1 i1 r1 h => ?_⟩
  obtain ⟨g, h⟩ := h.grd
  obtain ⟨d, l1, h⟩ := h.pur (nox_look v)
  obtain ⟨gd, h⟩ := h.grd
  obtain ⟨a, e0, isd⟩ := (r1.lk0 l1).isD gd
  refine ⟨a, e0, isd, P, fp1, σ1, R1, h.bind (fun z => (Bool.or_eq_false_iff.mp (pu z).2).1) fun w σ2 fp2 v2 H2 _ R2 s2 f2 i2 r2 h => ?_⟩
  obtain ⟨g2, h⟩ := h.grd
  rw [show ev T .non σ2 = .ok ((.dat, .non), σ2) by rw [ev]] at h
  have h : Post K cl cx W P σV fp2 H2 σ2 _ _ (look w >>= fun e => guard true >>= fun _ => getD d e .non >>= fun r => DD.R.ok ((Fl.dat, r), σ2)) Q := h
  obtain ⟨e, l2, h⟩ := h.pur (nox_look w)
  obtain ⟨_, h⟩ := h.grd
  obtain ⟨r, hr, h⟩ := h.pur (nox_get _ _ _)
  have n1 := r1.lk (b := imp y) l1 (ng2 g).1 s2 f2 i2
  obtain ⟨a', o, e1, g1, rr⟩ := get_ok hr n1 (r2.lk0 l2) .non
  cases e0.symm.trans e1
  exact ⟨o, g1, h.doneD R2 rr⟩
end
end
end DD
namespace DD
open L2 PyProof.Rows PySem PySem.Spec
variable [TabT]
section
variable {cl cx : Nat → Addr} {T : Tb} {M : Nm} {W : XK} {sc : Scope} {fb : Str → Bool} {X : Cx} {k : Nat}
variable {K : PySem.W.Frag} {P : Px} {σV : L2.St} {fp fp1 : Fp} {H H1 : Hp} {σ σ1 : Sg} {Q : VK}
theorem at_set {σ : Sg} {i j : Nat} {x : Sl} : Sg.at (σ.set i x) j = if i = j ∧ i < σ.length then x else σ.at j := by
  unfold Sg.at
  by_cases e : i = j
  · subst e
    by_cases h : i < σ.length
    · rw [List.getElem?_set_self h, if_pos ⟨rfl, h⟩]; rfl
    · rw [if_neg (fun z => h z.2), List.getElem?_eq_none (by rw [List.length_set]; omega), List.getElem?_eq_none (by omega)]
  · rw [List.getElem?_set_ne e, if_neg (fun z => e z.1)]
theorem at_lt {σ : Sg} {i : Nat} {x : Fl × D} (h : σ.at i = some x) : i < σ.length := by
  unfold Sg.at at h
  by_cases e : i < σ.length
  · exact e
  · rw [List.getElem?_eq_none (by omega)] at h; cases h
def clr (fp : Fp) (i : Nat) : Fp := fun j => if j = i then [] else fp j
theorem clr_sub (fp : Fp) (i : Nat) : Sub (clr fp i) fp := fun j a h => by
  unfold clr at h
  split at h
  · cases h
  · exact h
/-- a slot of V in short -/
def vAt (σV : L2.St) (i : Nat) : Option V := (σV[i]?).join
theorem vAt_some {i : Nat} {v : V} : vAt σV i = some v ↔ σV[i]? = some (some v) := by
  unfold vAt
  cases σV[i]? with
  | none => exact ⟨fun h => (nomatch h), fun h => (nomatch h)⟩
  | some x => exact ⟨fun h => by rw [show x = some v from h], fun h => by rw [Option.some.inj h]; rfl⟩
theorem SlR.some {A : AS} {i : Nat} {f : List Addr} {x : Fl × D} {y : Option V} (s : SlR K cl P A H i f (some x) y) : ∃ v, y = some v := by
  cases s <;> exact ⟨_, rfl⟩
/-- the slots but i stand as they stood, slot i is what it is -/
theorem Rel.upd1 {fp1 : Fp} {i : Nat} {x : Sl} (R : Rel K cl P fp σ σV H) (s : Sub fp1 fp) (o : ∀ j, j ≠ i → fp1 j = fp j)
    (hi : SlR K cl P (avS P fp1) H i (fp1 i) x (vAt σV i)) : Rel K cl P fp1 (σ.set i x) σV H where
  len := by rw [List.length_set]; exact R.len
  sl := fun j => by
    rw [at_set]
    by_cases e : i = j
    · subst e
      by_cases h : i < σ.length
      · rw [if_pos ⟨rfl, h⟩]; exact hi
      · rw [if_neg (fun z => h z.2)]
        have q := R.sl i
        have n1 : σ.at i = none := by
          unfold Sg.at
          rw [List.getElem?_eq_none (by omega)]; rfl
        rw [n1] at q ⊢
        cases q with
        | none n =>
          refine .none ?_
          cases q2 : fp1 i with
          | nil => rfl
          | cons a r =>
            have := s i a (by rw [q2]; exact List.mem_cons_self)
            rw [n] at this; cases this
    · rw [if_neg (fun z => e z.1), o j (fun z => e z.symm)]
      have q := R.sl j
      generalize Sg.at σ j = y at q
      generalize (σV[j]?).join = z at q
      cases q with
      | none n => exact .none n
      | dat r n => exact .dat (r.mv (Mv.less (sub_av s))) n
      | own c => exact .own (c.mv (Mv.less (sub_av s)) fun _ _ _ h _ => h)
      | ino c n => exact .ino (c.mv (Mv.less (sub_av s)) fun _ _ _ h _ => h) n
      | brw c f n => exact .brw (c.mv (Mv.less (sub_av s)) fun _ _ _ h _ => h) f n
  dis := fun a b c h1 h2 => R.dis a b c (s a c h1) (s b c h2)
  noX := fun a c h => R.noX a c (s a c h)
  trX := R.trX
  bX := R.bX
  fr0 := R.fr0
  tb := R.tb
  new := fun a h => R.new a (sub_own s a h)
theorem Rel.at (R : Rel K cl P fp σ σV H) (i : Nat) : SlR K cl P (avS P fp) H i (fp i) (σ.at i) (vAt σV i) := R.sl i
theorem imp_var {i : Nat} (h : tE cl cx T W K (.var i) σV H Q) : tVar i σV H Q := by
  obtain ⟨P, fp, σ, R, h⟩ := h
  rw [ev] at h
  have s := R.at i
  generalize hx : σ.at i = x at s h
  generalize hy : vAt σV i = y at s
  have fin : ∀ (r : Fl × D) (v : V), y = some v → Res K cl P fp σV H (.var i) r v → Post K cl cx W P σV fp H σ (imp (.var i)) (RSe K cl P σV (.var i)) (.ok (r, σ)) Q → tVar i σV H Q := fun r v e rr h =>
    ⟨v, vAt_some.mp (hy.trans e), h fp v H R (fun _ _ z => z) (Fr.refl _ _) (fun _ => ⟨rfl, rfl, Ext.refl _⟩) rr⟩
  cases s with
  | none n => exact (show False from h).elim
  | dat r n => exact fin (.dat, _) _ rfl (.rs r) h
  | own c => exact fin _ _ rfl (.brw c (.inr ⟨i, rfl, fun _ z => z⟩)) h
  | ino c n => exact fin _ _ rfl (.brw c (.inr ⟨i, rfl, fun _ z => z⟩)) h
  | brw c f n => exact fin _ _ rfl (.brw c (.inl f)) h
theorem SlR.lk {P : Px} {A : AS} {H : Hp} {i : Nat} {f : List Addr} {x : Sl} {ov : Option V} {d : D} (s : SlR K cl P A H i f x ov) (h : slD x = .ok d) : ∃ v, ov = Option.some v ∧ Lk K cl A H d v := by
  cases s with
  | none _ => cases h
  | dat r _ => cases h; exact ⟨_, rfl, r.lk⟩
  | own c => cases h; exact ⟨_, rfl, c.lk⟩
  | ino c _ => cases h; exact ⟨_, rfl, c.lk⟩
  | brw c _ _ => cases h; exact ⟨_, rfl, c.lk⟩
theorem nox_sl (x : Sl) : NoX (slD x) := by
  cases x <;> first | exact nox_bad | exact nox_ok _
theorem imp_idv {i : Nat} {y : E} (h : tE cl cx T W K (.idv i y) σV H Q) : tOp (rIdx K cl) (tVar i) (tE cl cx T W K y) σV H Q := by
  obtain ⟨P, fp, σ, R, h⟩ := h
  rw [ev] at h
  obtain ⟨g, h⟩ := h.grd
  have s0 := R.at i
  obtain ⟨v, hv⟩ : ∃ v, vAt σV i = Option.some v := by
    cases e : σ.at i with
    | none => rw [e] at g; cases g
    | some x =>
      rw [e] at s0
      obtain ⟨v, e2, _⟩ := s0.lk (d := x.2) rfl
      exact ⟨v, e2⟩
  refine ⟨v, vAt_some.mp hv, P, fp, σ, R, h.bind (fun z => z) fun w σ2 fp2 v2 H2 _ R2 s2 f2 i2 r2 h => ?_⟩
  obtain ⟨d, l1, h⟩ := h.pur (nox_sl _)
  obtain ⟨e, l2, h⟩ := h.pur (nox_look w)
  obtain ⟨r, hb, h⟩ := h.pur (nox_idx d e)
  obtain ⟨v', e3, lk⟩ := (R2.at i).lk l1
  cases hv.symm.trans e3
  exact ⟨avS P fp2, d, e, r, lk, r2.lk0 l2, R2.trk, hb, h.done R2⟩
theorem imp_mov {i : Nat} (h : tE cl cx T W K (.mov i) σV H Q) : tVar i σV H Q := by
  obtain ⟨P, fp, σ, R, h⟩ := h
  rw [ev] at h
  have s := R.at i
  generalize hx : σ.at i = x at s h
  generalize hy : vAt σV i = y at s
  cases s with
  | none n => exact (show False from h).elim
  | dat r n => exact ⟨_, vAt_some.mp hy, h fp _ H R (fun _ _ z => z) (Fr.refl _ _) (fun _ => ⟨rfl, rfl, Ext.refl _⟩) (.rs r)⟩
  | own c =>
    have e0 : clr fp i i = [] := if_pos rfl
    have R1 : Rel K cl P (clr fp i) (σ.set i none) σV H := R.upd1 (clr_sub fp i) (fun j n => if_neg n) (.none e0)
    refine ⟨_, vAt_some.mp hy, h (clr fp i) _ H R1 (clr_sub fp i) (Fr.refl _ _) (fun z => nomatch z) (.rs ⟨fp i, c.mv (Mv.less fun a z => ?_) fun _ _ _ h _ => h, fun a ha z => ?_, fun a ha => ?_⟩)⟩
    · rcases z with z | z
      · exact sub_av (clr_sub fp i) a z
      · exact .inr ⟨i, z⟩
    · rcases z with z | ⟨j, z⟩
      · exact R.noX i a ha z
      · unfold clr at z
        split at z
        · cases z
        · rename_i n; exact n (R.dis j i a z ha)
    · exact R.new a ⟨i, ha⟩
  | ino c n => exact (show False from h).elim
  | brw c f n => exact (show False from h).elim
theorem imp_frz {i : Nat} (h : tE cl cx T W K (.frz i) σV H Q) : tVar i σV H Q := by
  obtain ⟨P, fp, σ, R, h⟩ := h
  rw [ev] at h
  have s := R.at i
  generalize hx : σ.at i = x at s h
  generalize hy : vAt σV i = y at s
  cases s with
  | none n => exact (show False from h).elim
  | dat r n => exact ⟨_, vAt_some.mp hy, h fp _ H R (fun _ _ z => z) (Fr.refl _ _) (fun _ => ⟨rfl, rfl, Ext.refl _⟩) (.rs r)⟩
  | own c =>
    have e0 : clr fp i i = [] := if_pos rfl
    have rp := c.rep (A' := avS P (clr fp i)) (Mv.less fun a z => sub_av (clr_sub fp i) a z) fun a ha z => by
      rcases z with z | ⟨j, z⟩
      · exact R.noX i a ha z
      · unfold clr at z
        split at z
        · cases z
        · rename_i n; exact n (R.dis j i a z ha)
    have R1 : Rel K cl P (clr fp i) (σ.set i (some (.dat, _))) σV H := R.upd1 (clr_sub fp i) (fun j n => if_neg n) (by rw [hy]; exact .dat rp e0)
    exact ⟨_, vAt_some.mp hy, h (clr fp i) _ H R1 (clr_sub fp i) (Fr.refl _ _) (fun z => nomatch z) (.rs rp)⟩
  | ino c n => exact (show False from h).elim
  | brw c f n => exact (show False from h).elim
theorem imp_io {i : Nat} (h : tE cl cx T W K (.io i) σV H Q) : tVar i σV H Q := by
  obtain ⟨P, fp, σ, R, h⟩ := h
  rw [ev] at h
  have s := R.at i
  generalize hx : σ.at i = x at s h
  generalize hy : vAt σV i = y at s
  have fin : ∀ (v : V), y = some v → Post K cl cx W P σV fp H σ (imp (.io i)) (RSe K cl P σV (.io i)) (.ok ((.ino, .non), σ)) Q → tVar i σV H Q := fun v e h =>
    ⟨v, vAt_some.mp (hy.trans e), h fp v H R (fun _ _ z => z) (Fr.refl _ _) (fun _ => ⟨rfl, rfl, Ext.refl _⟩) (.ino rfl (vAt_some.mp (hy.trans e)))⟩
  cases s with
  | none n => exact (show False from h).elim
  | dat r n => exact (show False from h).elim
  | own c => exact fin _ rfl h
  | ino c n => exact fin _ rfl h
  | brw c f n => exact (show False from h).elim
theorem imp_const {e : E} {d : D} {v : V} (h : tE cl cx T W K e σV H Q) (he : ∀ σ, ev T e σ = .ok ((.dat, d), σ)) (hv : ∀ A H, Rep K cl A H d v) : tC v σV H Q := by
  obtain ⟨P, fp, σ, R, h⟩ := h
  rw [he] at h
  exact h.doneD R (hv _ _)
abbrev RSb : Fp → Hp → Fl × D → V → Prop := fun _ _ r v => ∃ b, r = (.dat, .bl b) ∧ v = .bl b
variable (cl cx T W) in
def tAn (K : PySem.W.Frag) (es : Es) : TE := fun σV H Q => ∃ P fp σ, Rel K cl P fp σ σV H ∧ Post K cl cx W P σV fp H σ (imps es) RSb (evAnd T es σ) Q
variable (cl cx T W) in
def tOn (K : PySem.W.Frag) (es : Es) : TE := fun σV H Q => ∃ P fp σ, Rel K cl P fp σ σV H ∧ Post K cl cx W P σV fp H σ (imps es) RSb (evOr T es σ) Q
theorem post_rs {a b : Type} {pu : Bool} {RS RS' : Fp → Hp → a → b → Prop} {rr : R (a × Sg)} {Q : b → Hp → Prop} (h : Post K cl cx W P σV fp H σ pu RS rr Q) (i : ∀ fp H r v, RS' fp H r v → RS fp H r v) : Post K cl cx W P σV fp H σ pu RS' rr Q := by
  cases rr with
  | ok p => exact fun fp' v H' R s f z r => h fp' v H' R s f z (i _ _ _ _ r)
  | exc x => exact h
  | bad => exact h
theorem imp_and {es : Es} (h : tE cl cx T W K (.and es) σV H Q) : tAn cl cx T W K es σV H Q := by
  obtain ⟨P, fp, σ, R, h⟩ := h
  rw [ev] at h
  refine ⟨P, fp, σ, R, post_rs h fun fp H r v ⟨b, e1, e2⟩ => ?_⟩
  subst e1 e2
  exact .rs (.bl b)
theorem imp_or {es : Es} (h : tE cl cx T W K (.or es) σV H Q) : tOn cl cx T W K es σV H Q := by
  obtain ⟨P, fp, σ, R, h⟩ := h
  rw [ev] at h
  refine ⟨P, fp, σ, R, post_rs h fun fp H r v ⟨b, e1, e2⟩ => ?_⟩
  subst e1 e2
  exact .rs (.bl b)
theorem Post.doneB {pu : Bool} {b : Bool} (h : Post K cl cx W P σV fp H σ pu RSb (.ok ((.dat, .bl b), σ)) Q) (R : Rel K cl P fp σ σV H) : Q (.bl b) H :=
  h fp _ H R (fun _ _ z => z) (Fr.refl _ _) (fun _ => ⟨rfl, rfl, Ext.refl _⟩) ⟨b, rfl, rfl⟩
theorem an_cons {e : E} {r : Es} (h : tAn cl cx T W K (.cons e r) σV H Q) : tAndV (tE cl cx T W K e) (tAn cl cx T W K r) σV H Q := by
  obtain ⟨P, fp, σ, R, h⟩ := h
  have pu : imps (.cons e r) = false → imp e = false ∧ imps r = false := fun z => Bool.or_eq_false_iff.mp z
  rw [evAnd] at h
  refine ⟨P, fp, σ, R, h.bind (fun z => (pu z).1) fun v σ1 fp1 v1 H1 _ R1 s1 f1 i1 r1 h => ?_⟩
  obtain ⟨b, hb, h⟩ := h.pur (nox_bool v)
  refine ⟨b, r1.bl hb, ?_⟩
  cases b with
  | true =>
    refine iteT ⟨P, fp1, σ1, R1, ?_⟩
    have h : Post K cl cx W P σV fp1 H1 σ1 (imps (.cons e r)) RSb (evAnd T r σ1) Q := h
    generalize evAnd T r σ1 = m at h
    cases m with
    | ok p => exact fun fp' v H' R s f z r => h fp' v H' R s f (fun y => z (pu y).2) r
    | exc x => exact fun od H' x' f e => h od H' x' f fun y => e (pu y).2
    | bad => exact h
  | false => exact iteF (h.doneB R1)
theorem an_one {e : E} (h : tAn cl cx T W K (.cons e .nil) σV H Q) : tE cl cx T W K e σV H Q := by
  obtain ⟨P, fp, σ, R, h⟩ := h
  rw [evAnd] at h
  refine ⟨P, fp, σ, R, h.bind (fun z => (Bool.or_eq_false_iff.mp z).1) fun v σ1 fp1 v1 H1 _ R1 s1 f1 i1 r1 h => ?_⟩
  obtain ⟨b, hb, h⟩ := h.pur (nox_bool v)
  rw [r1.bl hb]
  cases b with
  | true =>
    have h : Post K cl cx W P σV fp1 H1 σ1 (imps (.cons e .nil)) RSb (evAnd T .nil σ1) Q := h
    rw [evAnd] at h
    exact h.doneB R1
  | false => exact h.doneB R1
theorem on_cons {e : E} {r : Es} (h : tOn cl cx T W K (.cons e r) σV H Q) : tOrV (tE cl cx T W K e) (tOn cl cx T W K r) σV H Q := by
  obtain ⟨P, fp, σ, R, h⟩ := h
  have pu : imps (.cons e r) = false → imp e = false ∧ imps r = false := fun z => Bool.or_eq_false_iff.mp z
  rw [evOr] at h
  refine ⟨P, fp, σ, R, h.bind (fun z => (pu z).1) fun v σ1 fp1 v1 H1 _ R1 s1 f1 i1 r1 h => ?_⟩
  obtain ⟨b, hb, h⟩ := h.pur (nox_bool v)
  refine ⟨b, r1.bl hb, ?_⟩
  cases b with
  | false =>
    refine iteF ⟨P, fp1, σ1, R1, ?_⟩
    have h : Post K cl cx W P σV fp1 H1 σ1 (imps (.cons e r)) RSb (evOr T r σ1) Q := h
    generalize evOr T r σ1 = m at h
    cases m with
    | ok p => exact fun fp' v H' R s f z r => h fp' v H' R s f (fun y => z (pu y).2) r
    | exc x => exact fun od H' x' f e => h od H' x' f fun y => e (pu y).2
    | bad => exact h
  | true => exact iteT (h.doneB R1)
theorem on_one {e : E} (h : tOn cl cx T W K (.cons e .nil) σV H Q) : tE cl cx T W K e σV H Q := by
  obtain ⟨P, fp, σ, R, h⟩ := h
  rw [evOr] at h
  refine ⟨P, fp, σ, R, h.bind (fun z => (Bool.or_eq_false_iff.mp z).1) fun v σ1 fp1 v1 H1 _ R1 s1 f1 i1 r1 h => ?_⟩
  obtain ⟨b, hb, h⟩ := h.pur (nox_bool v)
  rw [r1.bl hb]
  cases b with
  | false =>
    have h : Post K cl cx W P σV fp1 H1 σ1 (imps (.cons e .nil)) RSb (evOr T .nil σ1) Q := h
    rw [evOr] at h
    exact h.doneB R1
  | true => exact h.doneB R1
theorem hilo_nil {es : Es} {xs : List (Fl × D)} {vs : List V} (r : ResS K cl P fp σV H es xs vs) {o : Option Int} (h : hiLo xs = .ok o) : (es = .nil ∧ o = none) ∨ ∃ e i, es = .cons e .nil ∧ vs = [.int i] ∧ o = some i := by
  cases r with
  | nil => cases h; exact .inl ⟨rfl, rfl⟩
  | cons r t =>
    rename_i e' r' x xs' v' vs'
    cases t with
    | nil =>
      obtain ⟨f, d⟩ := x
      cases d with
      | int i =>
        cases h
        refine .inr ⟨e', i, rfl, ?_, rfl⟩
        cases r with
        | rs r => have r := r.rep; cases r; rfl
        | brw c _ => cases c
      | _ => cases h
    | cons _ _ => unfold hiLo at h; split at h <;> first | (rename_i q; cases q; done) | (cases h; done)
end
end DD
namespace DD
open L2 PyProof.Rows PySem PySem.Spec
variable [TabT]
theorem rb_assoc {a b c : Type} (m : R a) (f : a → R b) (g : b → R c) : ((m >>= f) >>= g) = (m >>= fun x => f x >>= g) := by
  cases m <;> rfl
section
variable {cl cx : Nat → Addr} {T : Tb} {M : Nm} {W : XK} {sc : Scope} {fb : Str → Bool} {X : Cx} {k : Nat}
variable {K : PySem.W.Frag} {P : Px} {σV : L2.St} {fp fp1 : Fp} {H H1 : Hp} {σ σ1 : Sg} {Q : VK}
variable (cl cx T W) in
/-- a part of a slice -/
def tPt (K : PySem.W.Frag) : Es → TO
  | .nil => tNoPart
  | .cons e _ => tPart (tE cl cx T W K e)
theorem Res.int {e : E} {x : Fl × D} {v : V} {i : Int} (r : Res K cl P fp σV H e x v) (h : x.2 = .int i) : v = .int i := by
  cases r with
  | rs r => have r := r.rep; rw [h] at r; cases r; rfl
  | brw c _ =>
    cases h
    cases c
  | ino => cases h
theorem pt_step {a b : Type} {pu : Bool} {RS : Fp → Hp → a → b → Prop} {Qb : b → Hp → Prop} {k : Option Int → Sg → R (a × Sg)} {es : Es} {Qo : Option Int → Hp → Prop} (R : Rel K cl P fp σ σV H)
    (h : Post K cl cx W P σV fp H σ pu RS (evs T es σ >>= fun p => hiLo p.1 >>= fun o => k o p.2) Qb) (hp : pu = false → imps es = false) (one : ∀ e f r, es ≠ .cons e (.cons f r))
    (n : ∀ o σ1 fp1 H1, Rel K cl P fp1 σ1 σV H1 → Sub fp1 fp → Fr H (ownS fp) H1 → (imps es = false → σ1 = σ ∧ fp1 = fp ∧ Ext H H1) → Post K cl cx W P σV fp1 H1 σ1 pu RS (k o σ1) Qb → Qo o H1) :
    tPt cl cx T W K es σV H Qo := by
  cases es with
  | nil =>
    rw [evs] at h
    exact n none σ fp H R (fun _ _ z => z) (Fr.refl _ _) (fun _ => ⟨rfl, rfl, Ext.refl _⟩) h
  | cons e r =>
    cases r with
    | cons f r => exact absurd rfl (one e f r)
    | nil =>
      have pu' : pu = false → imp e = false := fun z => (Bool.or_eq_false_iff.mp (hp z)).1
      rw [evs, rb_assoc] at h
      refine ⟨P, fp, σ, R, h.bind pu' fun v σ1 fp1 v1 H1 _ R1 s1 f1 i1 r1 h => ?_⟩
      have i1' : imps (.cons e .nil) = false → σ1 = σ ∧ fp1 = fp ∧ Ext H H1 := fun z => i1 (Bool.or_eq_false_iff.mp z).1
      have h : Post K cl cx W P σV fp1 H1 σ1 pu RS ((guard (!(v.1 == .brw && imps .nil)) >>= fun _ => evs T .nil σ1 >>= fun p => .ok (v :: p.1, p.2)) >>= fun p => hiLo p.1 >>= fun o => k o p.2) Qb := h
      rw [rb_assoc] at h
      obtain ⟨_, h⟩ := h.grd
      rw [rb_assoc, evs] at h
      have h : Post K cl cx W P σV fp1 H1 σ1 pu RS (hiLo [v] >>= fun o => k o σ1) Qb := h
      obtain ⟨o, ho, h⟩ := h.pur (nox_hilo _)
      obtain ⟨f, d⟩ := v
      cases d with
      | int i =>
        cases ho
        exact ⟨i, r1.int rfl, n _ _ _ _ R1 s1 f1 i1' h⟩
      | _ => cases ho
theorem imp_slc {x : E} {lo hi : Es} (h : tE cl cx T W K (.slc x lo hi) σV H Q) (l1 : ∀ e f r, lo ≠ .cons e (.cons f r)) (l2 : ∀ e f r, hi ≠ .cons e (.cons f r)) :
    tSl (rSlc K cl) (tE cl cx T W K x) (tPt cl cx T W K lo) (tPt cl cx T W K hi) σV H Q := by
  obtain ⟨P, fp, σ, R, h⟩ := h
  have pu : imp (.slc x lo hi) = false → (imp x = false ∧ imps lo = false) ∧ imps hi = false := fun z => ⟨Bool.or_eq_false_iff.mp (Bool.or_eq_false_iff.mp z).1, (Bool.or_eq_false_iff.mp z).2⟩
  rw [ev] at h
  refine ⟨P, fp, σ, R, h.bind (fun z => (pu z).1.1) fun v σ1 fp1 v1 H1 _ R1 s1 f1 i1 r1 h => ?_⟩
  obtain ⟨g, h⟩ := h.grd
  have g := ng g
  refine pt_step (k := fun l σ2 => evs T hi σ2 >>= fun p => hiLo p.1 >>= fun u => look v >>= fun v => slcD v l u >>= fun r => .ok (r, p.2)) R1 h (fun z => (pu z).1.2) l1 fun l σ2 fp2 H2 R2 s2 f2 i2 h => ?_
  refine pt_step (k := fun u σ3 => look v >>= fun v => slcD v l u >>= fun r => .ok (r, σ3)) R2 h (fun z => (pu z).2) l2 fun u σ3 fp3 H3 R3 s3 f3 i3 h => ?_
  obtain ⟨d, e1, h⟩ := h.pur (nox_look v)
  obtain ⟨r, hb, h⟩ := h.pur (nox_slc d l u)
  refine ⟨avS P fp3, d, r, r1.lk (b := imps lo || imps hi) (σ := σ1) (σ1 := σ3) e1 g (fun i a z => s2 i a (s3 i a z)) (f2.trans f3 fun a z => .inl (sub_own s2 a z)) (fun z => ?_), R3.trk, hb, h.done R3⟩
  have z := Bool.or_eq_false_iff.mp z
  obtain ⟨a1, a2, a3⟩ := i2 z.1
  obtain ⟨b1, b2, b3⟩ := i3 z.2
  exact ⟨b1.trans a1, b2.trans a2, a3.trans b3⟩
def Px.plus (P : Px) (p : Addr) : Px := { P with X := fun a => P.X a ∨ a = p }
theorem plus_av (p : Addr) : ∀ a, avS (P.plus p) fp a → avS P fp a ∨ a = p := fun a h => by
  rcases h with (h | h) | h
  · exact .inl (.inl h)
  · exact .inr h
  · exact .inl (.inr h)
theorem av_plus (p : Addr) : ∀ a, avS P fp a → avS (P.plus p) fp a := fun a h => h.elim (fun z => .inl (.inl z)) .inr
theorem Rel.plus (R : Rel K cl P fp σ σV H) {p : Addr} {o : HO} (hp : H p = none) : Rel K cl (P.plus p) fp σ σV (upd H p o) where
  len := R.len
  sl := fun i => by
    have q := (R.sl i).ext (Ext.new (o := o) hp)
    have m : ∀ {a : Addr}, avS (P.plus p) fp a → avS P fp a ∨ H a = none := fun {a} h => by
      rcases plus_av p a h with h | h
      · exact .inl h
      · rw [h]; exact .inr hp
    have m' : Mv (avS P fp) H (avS (P.plus p) fp) (upd H p o) := ⟨fun b u h nt _ => (Ext.new hp).keep b u h nt, fun a h => m h⟩
    have s := R.sl i
    generalize σ.at i = x at s ⊢
    generalize (σV[i]?).join = y at s ⊢
    have e := Ext.new (o := o) hp
    cases s with
    | none n => exact .none n
    | dat r n => exact .dat (r.mv m') n
    | own c => exact .own (c.mv m' fun a _ u h nt => e.keep a u h nt)
    | ino c n => exact .ino (c.mv m' fun a _ u h nt => e.keep a u h nt) n
    | brw c f n => exact .brw (c.mv m' fun a _ u h nt => e.keep a u h nt) f n
  dis := R.dis
  noX := fun i a h z => by
    rcases z with z | z
    · exact R.noX i a h z
    · rw [z] at h; exact R.trk p (.inr ⟨i, h⟩) hp
  trX := fun a h => by
    rcases h with h | h
    · exact there_ext (Ext.new hp) (R.trX a h)
    · rw [h, upd_same]; exact fun z => nomatch z
  bX := fun a h => .inl (R.bX a h)
  fr0 := R.fr0.trans (Fr.of (O := noA) (Ext.new hp)) fun _ z => z.elim
  new := R.new
  tb := R.tb
def rMut (K : PySem.W.Frag) (cl : Nat → Addr) (m : Mu) : V → List V → Hp → VK → Prop := fun x xs H Q =>
  ∃ A d ds y d' fr, Cell K cl A H d x fr ∧ Reps K cl A H ds xs ∧ (∀ a ∈ fr, A a) ∧ mutD m d ds = .ok (y, d') ∧
    ∀ v H', Fr H (fun a => a ∈ fr) H' → Cell K cl A H' d' x fr → Rep K cl A H' y v → Q v H'
theorem MtR.imp {id : String} {r r' : V → List V → Hp → VK → Prop} (h : MtR X id r) (i : ∀ x xs H Q, r' x xs H Q → r x xs H Q) : MtR X id r' :=
  fun pins s σ H x xs v us Q I rx rs q => h pins s σ H x xs v us Q I rx rs (i x xs H Q q)
theorem nox_mut (m : Mu) (d : D) (ds : List D) : NoX (mutD m d ds) := by
  unfold mutD
  split <;> first | exact nox_ok _ | exact nox_bad | exact nox_if (nox_ok _) nox_bad | exact nox_bind (nox_ofO _) fun _ => nox_ok _ | exact nox_if (nox_bind (nox_ofO _) fun _ => nox_bind (nox_ofO _) fun _ => nox_ok _) nox_bad | exact nox_if (nox_bind (nox_ofO _) fun _ => nox_ok _) nox_bad
theorem upd_out {H : Hp} {a : Addr} {o : HO} : ∀ b u, H b = some u → b ∉ [a] → upd H a o b = some u := fun b u h n => by
  rw [upd_ne (fun z => n (List.mem_singleton.mpr z))]; exact h
theorem cell_upd {A : AS} {ds : List D} {vs : List V} {a : Addr} (r : Reps K cl A H ds vs) (ha : A a) (l : ds.length ≤ 16777216) : Cell K cl A (upd H a (.lst vs)) (.lst ds) (.ref a) [a] :=
  .lst upd_same (r.mv ⟨fun b o h _ n => upd_out b o h (fun z => n (by rw [List.mem_singleton.mp z]; exact ha)), fun _ h => .inl h⟩) l
theorem rep_upd {A : AS} {d : D} {v : V} {a : Addr} {o : HO} (r : Rep K cl A H d v) (ha : A a) : Rep K cl A (upd H a o) d v :=
  r.mv ⟨fun b u h _ n => upd_out b u h (fun z => n (by rw [List.mem_singleton.mp z]; exact ha)), fun _ h => .inl h⟩
theorem fr_cell {H : Hp} {a : Addr} {vs : List V} {o : HO} (h : H a = some (.lst vs)) : Fr H (fun b => b ∈ [a]) (upd H a o) := (Fr.refl H _).upd h nt_lst nx_lst fun _ _ => List.mem_singleton.mpr rfl
theorem mu_append : MtR X "list.append" (rMut X.K cl .append) := by
  refine MtR.imp mt_append fun x xs H Q h => ?_
  obtain ⟨A, d, ds, y, d', fr, c, r, ha, hm, q⟩ := h
  cases c with
  | @lst es a vs h1 r1 l1 =>
    cases r with
    | nil => cases hm
    | cons r0 r =>
      cases r with
      | cons _ _ => cases hm
      | nil =>
        obtain ⟨hl, hm⟩ := ifok hm
        cases hm
        have ha := ha a (List.mem_singleton.mpr rfl)
        exact ⟨a, vs, _, rfl, rfl, h1, by rw [line_eq, ← r1.length]; exact hl, q _ _ (fr_cell h1) (cell_upd (r1.snoc r0) ha (by rw [List.length_append]; exact hl)) .non⟩
  | dct => cases hm
  | obj => cases hm
theorem mu_extend : MtR X "list.extend" (rMut X.K cl .extend) := by
  refine MtR.imp mt_extend fun x xs H Q h => ?_
  obtain ⟨A, d, ds, y, d', fr, c, r, ha, hm, q⟩ := h
  cases c with
  | @lst es a vs h1 r1 l1 =>
    cases r with
    | nil => cases hm
    | cons r0 r =>
      cases r with
      | cons _ _ => cases r0 <;> cases hm
      | nil =>
        cases r0 with
        | @lst fs b ws h2 _ r2 l2 =>
          obtain ⟨hl, hm⟩ := ifok hm
          cases hm
          have ha := ha a (List.mem_singleton.mpr rfl)
          exact ⟨a, b, vs, ws, rfl, rfl, h1, h2, by rw [line_eq, ← r1.length, ← r2.length]; exact hl, q _ _ (fr_cell h1) (cell_upd (r1.append r2) ha (by rw [List.length_append]; exact hl)) .non⟩
        | _ => cases hm
  | dct => cases hm
  | obj => cases hm
theorem Reps.dropL {A : AS} : ∀ {ds : List D} {vs : List V}, Reps K cl A H ds vs → Reps K cl A H ds.dropLast vs.dropLast
  | _, _, .nil => .nil
  | _, _, .cons _ .nil => .nil
  | _, _, .cons h (.cons g r) => .cons h (Reps.dropL (.cons g r))
theorem mu_pop0 : MtR X "list.pop" (rMut X.K cl .pop0) := by
  refine MtR.imp mt_pop fun x xs H Q h => ?_
  obtain ⟨A, d, ds, y, d', fr, c, r, ha, hm, q⟩ := h
  cases c with
  | @lst es a vs h1 r1 l1 =>
    cases r with
    | cons _ _ => cases hm
    | nil =>
      obtain ⟨z, hz, hm⟩ := R.bind_eq_ok hm
      cases hm
      have ha := ha a (List.mem_singleton.mpr rfl)
      obtain ⟨v, e1, rv⟩ := r1.get (ofO_ok hz)
      exact ⟨a, vs, v, rfl, rfl, h1, by rw [← r1.length]; exact e1, q _ _ (fr_cell h1) (cell_upd r1.dropL ha (by rw [List.length_dropLast]; omega)) (rep_upd rv ha)⟩
  | dct => cases hm
  | obj => cases hm
theorem inR_iff {i : Int} : inR i = true ↔ -(2 ^ 62) ≤ i ∧ i < 2 ^ 62 := by
  unfold inR
  rw [Bool.and_eq_true, decide_eq_true_eq, decide_eq_true_eq]
  constructor
  · rintro ⟨a, b⟩; exact ⟨by omega, by omega⟩
  · rintro ⟨a, b⟩; exact ⟨by omega, by omega⟩
theorem mu_pop1 : MtR X "list.pop" (rMut X.K cl .pop1) := by
  refine MtR.imp mt_popAt fun x xs H Q h => ?_
  obtain ⟨A, d, ds, y, d', fr, c, r, ha, hm, q⟩ := h
  cases c with
  | @lst es a vs h1 r1 l1 =>
    cases r with
    | nil => cases hm
    | cons r0 r =>
      cases r with
      | cons _ _ => cases r0 <;> cases hm
      | nil =>
        cases r0 with
        | int i =>
          obtain ⟨hi, hm⟩ := ifok hm
          obtain ⟨j, hj, hm⟩ := R.bind_eq_ok hm
          obtain ⟨z, hz, hm⟩ := R.bind_eq_ok hm
          cases hm
          have ha := ha a (List.mem_singleton.mpr rfl)
          obtain ⟨v, e1, rv⟩ := r1.get (ofO_ok hz)
          have hi := inR_iff.mp hi
          exact ⟨a, vs, i, j, v, rfl, rfl, h1, by omega, by omega, by rw [← r1.length]; exact ofO_ok hj, e1, q _ _ (fr_cell h1) (cell_upd (r1.erase j) ha (Nat.le_trans (len_erase _ _) l1)) (rep_upd rv ha)⟩
        | _ => cases hm
  | dct => cases hm
  | obj => cases hm
theorem mu_clear : MtR X "list.clear" (rMut X.K cl .clear) := by
  refine MtR.imp mt_clear fun x xs H Q h => ?_
  obtain ⟨A, d, ds, y, d', fr, c, r, ha, hm, q⟩ := h
  cases c with
  | @lst es a vs h1 r1 l1 =>
    cases r with
    | cons _ _ => cases hm
    | nil =>
      cases hm
      have ha := ha a (List.mem_singleton.mpr rfl)
      exact ⟨a, vs, rfl, rfl, h1, q _ _ (fr_cell h1) (cell_upd .nil ha (Nat.zero_le _)) .non⟩
  | dct => cases hm
  | obj => cases hm
theorem Post.imp' {a b : Type} {pu : Bool} {RS : Fp → Hp → a → b → Prop} {rr : R (a × Sg)} {Q Q' : b → Hp → Prop} (h : Post K cl cx W P σV fp H σ pu RS rr Q) (i : ∀ v H, Q v H → Q' v H) : Post K cl cx W P σV fp H σ pu RS rr Q' := by
  cases rr with
  | ok p => exact fun fp' v H' R s f z r => i _ _ (h fp' v H' R s f z r)
  | exc x => exact h
  | bad => exact h
/-- the content of an owned slot becomes another one -/
theorem Rel.setC {i : Nat} {fl : Fl} {d d' : D} {v : V} (R : Rel K cl P fp σ σV H) (hf : fl = .own ∨ fl = .ino) (e : σ.at i = some (fl, d)) (hv : vAt σV i = some v)
    (o : Fr H (fun a => a ∈ fp i) H1) (c : Cell K cl (avS P fp) H1 d' v (fp i)) : Rel K cl P fp (σ.set i (some (fl, d'))) σV H1 := by
  have m : Mv (avS P fp) H (avS P fp) H1 := ⟨fun b u h nt n => o.keep b u h nt fun z => n (.inr ⟨i, z⟩), fun _ h => .inl h⟩
  refine ⟨by rw [List.length_set]; exact R.len, fun j => ?_, R.dis, R.noX, fun a h => ?_, R.bX, R.fr0.trans o fun b z => R.new b ⟨i, z⟩, R.new, R.tb⟩
  · rw [at_set]
    by_cases ej : i = j
    · subst ej
      rw [if_pos ⟨rfl, at_lt e⟩]
      have q := R.at i
      rw [e, hv] at q
      show SlR K cl P _ H1 i _ _ (vAt σV i)
      rw [hv]
      rcases hf with rfl | rfl
      · exact .own c
      · cases q with
        | ino _ n => exact .ino c n
    · rw [if_neg (fun z => ej z.1)]
      have q := R.sl j
      generalize Sg.at σ j = y at q
      generalize (σV[j]?).join = z at q
      have nj : ∀ a ∈ fp j, a ∉ fp i := fun a h1 h2 => ej (R.dis i j a h2 h1)
      cases q with
      | none n => exact .none n
      | dat r n => exact .dat (r.mv m) n
      | own c => exact .own (c.mv m fun a ha u h nt => o.keep a u h nt (nj a ha))
      | ino c n => exact .ino (c.mv m fun a ha u h nt => o.keep a u h nt (nj a ha)) n
      | brw c f n => exact .brw (c.mv m fun a ha u h nt => o.keep a u h nt fun z => R.noX i a z (R.bX a (f a ha))) f n
  · exact o.there a (R.trX a h) fun z => R.noX i a z h
theorem imp_mut {m : Mu} {i : Nat} {es : Es} (h : tE cl cx T W K (.mut m i es) σV H Q) : tBM K "list" (rMut K cl m) (tVar i) (tS cl cx T W K es) σV H Q ∧
    (es = .nil → tBM0 K "list" (rMut K cl m) (tVar i) σV H Q) := by
  obtain ⟨P, fp, σ, R, h⟩ := h
  rw [ev] at h
  obtain ⟨g, h⟩ := h.grd
  have s := R.at i
  obtain ⟨fl, ds0, v, a, vs0, hf, e0, hv, h0⟩ : ∃ fl ds0 v a vs0, (fl = Fl.own ∨ fl = Fl.ino) ∧ σ.at i = some (fl, .lst ds0) ∧ vAt σV i = some v ∧ v = .ref a ∧ H a = some (.lst vs0) := by
    unfold lstAt at g
    split at g
    · rename_i ds e
      rw [e] at s
      generalize hy : vAt σV i = y at s
      cases s with
      | own c =>
        generalize fp i = f at c
        cases c with
        | lst h1 _ _ => exact ⟨_, _, _, _, _, .inl rfl, e, rfl, rfl, h1⟩
    · rename_i ds e
      rw [e] at s
      generalize hy : vAt σV i = y at s
      cases s with
      | ino c _ =>
        generalize fp i = f at c
        cases c with
        | lst h1 _ _ => exact ⟨_, _, _, _, _, .inr rfl, e, rfl, rfl, h1⟩
    · cases g
  obtain ⟨ev0, h0⟩ := h0
  subst ev0
  have ty : tyV K "list" (.ref a) H := .inl ⟨rfl, vs0, SqL.of h0⟩
  -- what is left behind the arguments
  have fin : ∀ (xs : List (Fl × D)) (σ1 : Sg) (fp1 : Fp) (ws : List V) (H1 : Hp), Rel K cl P fp1 σ1 σV H1 → ResS K cl P fp1 σV H1 es xs ws →
      Post K cl cx W P σV fp1 H1 σ1 (imp (.mut m i es)) (RSe K cl P σV (.mut m i es)) (keeps xs >>= fun ds => match σ1.at i with
        | some (.own, d) => do let (y, d') ← mutD m d ds; .ok ((.dat, y), σ1.set i (some (.own, d')))
        | some (.ino, d) => do let (y, d') ← mutD m d ds; .ok ((.dat, y), σ1.set i (some (.ino, d')))
        | _ => .bad) Q → rMut K cl m (.ref a) ws H1 Q := by
    intro xs σ1 fp1 ws H1 R1 r1 h
    obtain ⟨ds, hk, h⟩ := h.pur (nox_keeps xs)
    have rs := r1.keeps hk
    have s1 := R1.at i
    rw [hv] at s1
    have core : ∀ (fl : Fl) (d : D), (fl = .own ∨ fl = .ino) → σ1.at i = some (fl, d) → Cell K cl (avS P fp1) H1 d (.ref a) (fp1 i) →
        Post K cl cx W P σV fp1 H1 σ1 (imp (.mut m i es)) (RSe K cl P σV (.mut m i es)) (mutD m d ds >>= fun p => .ok ((.dat, p.1), σ1.set i (some (fl, p.2)))) Q → rMut K cl m (.ref a) ws H1 Q := by
      intro fl d hf e1 c h
      obtain ⟨p, hm, h⟩ := h.pur (nox_mut m d ds)
      refine ⟨avS P fp1, d, ds, p.1, p.2, fp1 i, c, rs, fun b hb => .inr ⟨i, hb⟩, hm, fun v H' o c' rv => ?_⟩
      exact h fp1 v H' (R1.setC hf e1 hv o c') (fun _ _ z => z) (o.mono fun a z => ⟨i, z⟩) (fun z => nomatch z) (Res.rs (x := (.dat, p.1)) rv)
    generalize hx : σ1.at i = x at s1 h
    cases s1 with
    | none n => exact (show False from h).elim
    | dat r n => exact (show False from h).elim
    | own c => exact core .own _ (.inl rfl) hx c h
    | ino c n => exact core .ino _ (.inr rfl) hx c h
    | brw c f n => exact (show False from h).elim
  refine ⟨⟨.ref a, vAt_some.mp hv, ty, P, fp, σ, R, h.bind (fun z => nomatch z) fun xs σ1 fp1 ws H1 _ R1 s1 f1 i1 r1 h => fin xs σ1 fp1 ws H1 R1 r1 h⟩, fun en => ⟨.ref a, vAt_some.mp hv, ty, ?_⟩⟩
  subst en
  rw [evs] at h
  exact fin [] σ fp [] H R .nil h
theorem isIo_eq {e : E} {i : Nat} (h : isIo e = some i) : e = .io i := by
  cases e <;> cases h; rfl
/-- the cells of what is handed in to be given back -/
def gOf (fp : Fp) (es : Es) : Fp := fun j => match (ioAt es)[j]? with
  | some (some i) => fp i
  | _ => []
theorem gOf_own {es : Es} : ∀ a, ownS (gOf fp es) a → ∃ i ∈ iosE es, a ∈ fp i := fun a ⟨j, h⟩ => by
  unfold gOf at h
  split at h
  · rename_i i e
    exact ⟨i, List.mem_filterMap.mpr ⟨some i, List.mem_of_getElem? e, rfl⟩, h⟩
  · cases h
theorem io_nodup : ∀ {l : List (Option Nat)} {a b : Nat} {i : Nat}, (l.filterMap id).Nodup → l[a]? = some (some i) → l[b]? = some (some i) → a = b := by
  intro l
  induction l with
  | nil => intro a b i _ h; simp at h
  | cons x l ih =>
    intro a b i hn h1 h2
    have hn' : (l.filterMap id).Nodup := by
      cases x with
      | none => simpa using hn
      | some y => exact (List.nodup_cons.mp (by simpa using hn)).2
    have no : ∀ {b : Nat}, x = some i → l[b]? = some (some i) → False := by
      intro b e h
      subst e
      have q : i ∉ l.filterMap id := (List.nodup_cons.mp (by simpa using hn)).1
      exact q (List.mem_filterMap.mpr ⟨some i, List.mem_of_getElem? h, rfl⟩)
    cases a with
    | zero =>
      cases b with
      | zero => rfl
      | succ b => exact (no (by simpa using h1) (by simpa using h2)).elim
    | succ a =>
      cases b with
      | zero => exact (no (by simpa using h2) (by simpa using h1)).elim
      | succ b => exact congrArg (· + 1) (ih hn' (by simpa using h1) (by simpa using h2))
theorem srcs_mem {e : E} {r : Es} {i : Nat} (h : srcE e = some i) : i ∈ srcs (.cons e r) := by
  unfold srcs
  rw [h]
  exact List.mem_cons_self
theorem srcs_tail {e : E} {r : Es} {i : Nat} (h : i ∈ srcs r) : i ∈ srcs (.cons e r) := by
  unfold srcs
  split
  · exact List.mem_cons_of_mem _ h
  · exact h
/-- each argument: handed in to be given back, or read -/
theorem fill_each : ∀ {es : Es} {xs : List (Fl × D)} {vs : List V} {as : List (Fl × D)}, ResS K cl P fp σV H es xs vs → fillA σ es xs = .ok as →
    as.length = vs.length ∧ (ioAt es).length = vs.length ∧ ∀ (j : Nat) (x : Fl × D) (v : V), as[j]? = some x → vs[j]? = some v →
      (∃ (i : Nat) (fl : Fl) (d : D), (ioAt es)[j]? = some (some i) ∧ (fl = .own ∨ fl = .ino) ∧ σ.at i = some (fl, d) ∧ x = (Fl.ino, d) ∧ vAt σV i = some v ∧ isObj d = false) ∨
      ((ioAt es)[j]? = some none ∧ ((∃ d, x = (Fl.dat, d) ∧ Rep K cl (avS P fp) H d v) ∨
        ∃ (d : D) (fr : List Addr), x = (Fl.brw, d) ∧ Cell K cl (avS P fp) H d v fr ∧ ((∀ a ∈ fr, P.B a) ∨ ∃ i ∈ srcs es, ∀ a ∈ fr, a ∈ fp i))) := by
  intro es xs vs as r
  induction r generalizing as with
  | nil => intro h; cases h; exact ⟨rfl, rfl, fun j x v h => by simp at h⟩
  | @cons e r x xs v vs r1 t ih =>
    intro h
    obtain ⟨y, hy, h⟩ := R.bind_eq_ok h
    obtain ⟨ys, hys, h⟩ := R.bind_eq_ok h
    cases h
    obtain ⟨l1, l2, each⟩ := ih hys
    refine ⟨by simp [l1], by simp [ioAt, l2], fun j x' v' hx hv => ?_⟩
    cases j with
    | succ j =>
      rcases each j x' v' (by simpa using hx) (by simpa using hv) with ⟨i, fl, d, q⟩ | ⟨q1, q2⟩
      · exact .inl ⟨i, fl, d, by simpa [ioAt] using q⟩
      · refine .inr ⟨by simpa [ioAt] using q1, ?_⟩
        rcases q2 with q2 | ⟨d, fr, e1, c, q⟩
        · exact .inl q2
        · refine .inr ⟨d, fr, e1, c, ?_⟩
          rcases q with q | ⟨i, hi, q⟩
          · exact .inl q
          · exact .inr ⟨i, srcs_tail hi, q⟩
    | zero =>
      have ex : y = x' := by simpa using hx
      have ev : v = v' := by simpa using hv
      subst ex ev
      cases hio : isIo e with
      | some i =>
        rw [hio] at hy
        have ei := isIo_eq hio
        subst ei
        obtain ⟨f, dx⟩ := x
        dsimp only at hy
        have hv' : f = Fl.ino → vAt σV i = some v := fun e => by
          subst e
          cases r1 with
          | rs q => exact (show False from q).elim
          | ino a b => cases a; exact vAt_some.mpr b
        refine .inl ?_
        split at hy
        · obtain ⟨g, hy⟩ := ifok hy
          cases hy
          exact ⟨i, .own, _, by simp [ioAt, isIo], .inl rfl, by assumption, rfl, hv' (by first | rfl | assumption), ng g⟩
        · obtain ⟨g, hy⟩ := ifok hy
          cases hy
          exact ⟨i, .ino, _, by simp [ioAt, isIo], .inr rfl, by assumption, rfl, hv' (by first | rfl | assumption), ng g⟩
        · cases hy
      | none =>
        rw [hio] at hy
        refine .inr ⟨by simp [ioAt, hio], ?_⟩
        obtain ⟨f, d⟩ := x
        cases r1 with
        | rs q =>
          have qr := q.rep
          cases f with
          | dat => cases hy; exact .inl ⟨d, rfl, qr⟩
          | own => cases hy; exact .inl ⟨d, rfl, qr⟩
          | ino => exact (show False from q).elim
          | brw => exact (show False from q).elim
        | @brw d v fr c q =>
          cases hy
          refine .inr ⟨d, fr, rfl, c, ?_⟩
          rcases q with q | ⟨i, hi, q⟩
          · exact .inl q
          · exact .inr ⟨i, srcs_mem hi, q⟩
        | ino a b => rw [a] at hio; cases hio
theorem back_ok : ∀ {es : Es} {σ σ2 : Sg} {outs : List D}, backA σ es outs = .ok σ2 → (iosE es).Nodup → outs.length = (ioAt es).length ∧ σ2.length = σ.length ∧ (∀ i, i ∉ iosE es → σ2.at i = σ.at i) ∧
    ∀ (j i : Nat) (d : D), (ioAt es)[j]? = some (some i) → outs[j]? = some d → ∃ f d0, σ.at i = some (f, d0) ∧ σ2.at i = some (f, d)
  | .nil, σ, σ2, [], h, _ => by cases h; exact ⟨rfl, rfl, fun _ _ => rfl, fun j i d h => by simp [ioAt] at h⟩
  | .nil, _, _, _ :: _, h, _ => by cases h
  | .cons _ _, _, _, [], h, _ => by cases h
  | .cons e r, σ, σ2, d :: ds, h, hn => by
    unfold backA at h
    cases hio : isIo e with
    | none =>
      rw [hio] at h
      have e1 : iosE (.cons e r) = iosE r := by simp [iosE, ioAt, hio]
      obtain ⟨a, b, c, d'⟩ := back_ok (es := r) h (by rw [e1] at hn; exact hn)
      refine ⟨by simp [ioAt, a], b, fun i hi => c i (by rw [e1] at hi; exact hi), fun j i x h1 h2 => ?_⟩
      cases j with
      | zero => simp [ioAt, hio] at h1
      | succ j => exact d' j i x (by simpa [ioAt] using h1) (by simpa using h2)
    | some i0 =>
      rw [hio] at h
      have e1 : iosE (.cons e r) = i0 :: iosE r := by simp [iosE, ioAt, hio]
      rw [e1] at hn
      obtain ⟨n1, n2⟩ := List.nodup_cons.mp hn
      dsimp only at h
      cases hs : σ.at i0 with
      | none => rw [hs] at h; cases h
      | some p =>
        obtain ⟨f, d0⟩ := p
        rw [hs] at h
        obtain ⟨a, b, c, d'⟩ := back_ok (es := r) h n2
        have at0 : Sg.at (σ.set i0 (some (f, d))) i0 = some (f, d) := by rw [at_set, if_pos ⟨rfl, at_lt hs⟩]
        have atn : ∀ i, i ≠ i0 → Sg.at (σ.set i0 (some (f, d))) i = σ.at i := fun i n => by rw [at_set, if_neg fun z => n z.1.symm]
        refine ⟨by simp [ioAt, a], by rw [b, List.length_set], fun i hi => ?_, fun j i x h1 h2 => ?_⟩
        · rw [e1] at hi
          rw [c i fun z => hi (List.mem_cons_of_mem _ z), atn i fun z => hi (by rw [z]; exact List.mem_cons_self)]
        · cases j with
          | zero =>
            have e2 : i0 = i := by simpa [ioAt, hio] using h1
            have e3 : d = x := by simpa using h2
            subst e2 e3
            exact ⟨f, d0, hs, by rw [c _ n1]; exact at0⟩
          | succ j =>
            have h1' : (ioAt r)[j]? = some (some i) := by simpa [ioAt] using h1
            obtain ⟨f', d1, q1, q2⟩ := d' j i x h1' (by simpa using h2)
            have ne : i ≠ i0 := fun z => n1 (by rw [← z]; exact List.mem_filterMap.mpr ⟨some i, List.mem_of_getElem? h1', rfl⟩)
            exact ⟨f', d1, by rw [← atn i ne]; exact q1, q2⟩
theorem nox_fill : ∀ {es : Es} {σ : Sg} {xs : List (Fl × D)}, NoX (fillA σ es xs)
  | .nil, _, [] => nox_ok _
  | .nil, _, _ :: _ => nox_bad
  | .cons _ _, _, [] => nox_bad
  | .cons e r, σ, x :: xs => by
    unfold fillA
    refine nox_bind ?_ fun _ => nox_bind nox_fill fun _ => nox_ok _
    split
    · split <;> first | exact nox_ok _ | exact nox_bad | exact nox_if (nox_ok _) nox_bad
    · split <;> first | exact nox_ok _ | exact nox_bad
theorem nox_back : ∀ {es : Es} {σ : Sg} {outs : List D}, NoX (backA σ es outs)
  | .nil, _, [] => nox_ok _
  | .nil, _, _ :: _ => nox_bad
  | .cons _ _, _, [] => nox_bad
  | .cons e r, σ, d :: ds => by
    unfold backA
    split
    · split
      · exact nox_back
      · exact nox_bad
    · exact nox_back
theorem imp_call {f : Nat} {es : Es} {n : Nat} (h : tE cl cx T W K (.call f es) σV H Q) (hn : ∀ vs : List V, vs.length = (ioAt es).length → vs.length = n) : tCall (spF K cl cx n (T.C f)) [] W (tS cl cx T W K es) σV H Q := by
  obtain ⟨P, fp, σ, R, h⟩ := h
  have pu : imp (.call f es) = false → imps es = false ∧ iosE es = [] := fun z => by
    obtain ⟨a, b⟩ := Bool.or_eq_false_iff.mp z
    refine ⟨a, ?_⟩
    cases q : iosE es with
    | nil => rfl
    | cons _ _ => rw [q] at b; cases b
  rw [ev] at h
  refine ⟨P, fp, σ, R, h.bind (fun z => (pu z).1) fun xs σ1 fp1 vs H1 _ R1 s1 f1 i1 r1 h => ?_⟩
  obtain ⟨g, h⟩ := h.grd
  rw [Bool.and_eq_true, decide_eq_true_eq, decide_eq_true_eq] at g
  obtain ⟨nd, nsrc⟩ := g
  obtain ⟨as, hfill, h⟩ := h.pur nox_fill
  obtain ⟨la, lio, each⟩ := fill_each r1 hfill
  -- whose cells are handed in
  have gown : ∀ a, ownS (gOf fp1 es) a → ∃ i ∈ iosE es, a ∈ fp1 i := gOf_own
  have gA : ∀ a, ownS (gOf fp1 es) a → avS P fp1 a := fun a z => by
    obtain ⟨i, _, z⟩ := gown a z
    exact .inr ⟨i, z⟩
  have argsR : ArgsR K cl (avS P fp1) H1 (gOf fp1 es) as vs := by
    refine ⟨la, fun j x v hx hv => ?_, fun i j a h1 h2 => ?_, fun j hj => ?_⟩
    · rcases each j x v hx hv with ⟨i, fl, d, q1, q2, q3, q4, q5, q6⟩ | ⟨q1, q2⟩
      · have eg : gOf fp1 es j = fp1 i := by unfold gOf; rw [q1]
        subst q4
        have s := R1.at i
        rw [q3, q5] at s
        refine .ino ?_ (fun a ha => by rw [eg] at ha; exact .inr ⟨i, ha⟩)
        rw [eg]
        rcases q2 with rfl | rfl
        · cases s; assumption
        · cases s; assumption
      · have eg : gOf fp1 es j = [] := by unfold gOf; rw [q1]
        rcases q2 with ⟨d, q2, q3⟩ | ⟨d, fr, q2, c, q3⟩
        · subst q2; exact .dat q3 eg
        · subst q2
          refine .brw c (fun a ha => ?_) eg
          rcases q3 with q3 | ⟨i, hi, q3⟩
          · refine ⟨.inl (R1.bX a (q3 a ha)), fun z => ?_⟩
            obtain ⟨i, _, z⟩ := gown a z
            exact R1.noX i a z (R1.bX a (q3 a ha))
          · refine ⟨.inr ⟨i, q3 a ha⟩, fun z => ?_⟩
            obtain ⟨i', hi', z⟩ := gown a z
            have := R1.dis i i' a (q3 a ha) z
            subst this
            exact nsrc i hi' hi
    · unfold gOf at h1 h2
      split at h1
      · split at h2
        · rename_i _ i1 e1 _ i2 e2
          have e := R1.dis i1 i2 a h1 h2
          subst e
          exact io_nodup nd e1 e2
        · cases h2
      · cases h1
    · unfold gOf
      rw [List.getElem?_eq_none (by omega)]
  have noO : NoO as := fun j d hj => by
    have hl : j < vs.length := by rw [← la]; exact (List.getElem?_eq_some_iff.mp hj).1
    rcases each j _ _ hj (List.getElem?_eq_getElem hl) with ⟨i, fl, d', q1, q2, q3, q4, q5, q6⟩ | ⟨q1, ⟨d', q2, _⟩ | ⟨d', fr, q2, _⟩⟩
    · cases q4; exact q6
    · cases q2
    · cases q2
  show spF K cl cx n (T.C f) (vs ++ []) H1 Q W
  rw [List.append_nil]
  refine ⟨avS P fp1, gOf fp1 es, as, argsR, ⟨R1.trk, R1.tabs, noO⟩, hn vs lio.symm, ?_⟩
  cases hc : T.C f as with
  | bad => rw [hc] at h; exact (show False from h).elim
  | exc x =>
    rw [hc] at h
    intro od H' ex fr
    exact h od H' ex (fr.mono fun a z => by
      obtain ⟨i, _, z⟩ := gown a z
      exact ⟨i, z⟩) fun z => (fr.mono (O1 := noA) fun a q => by
        obtain ⟨i, hi, _⟩ := gown a q
        have z : (imps es || !(iosE es).isEmpty) = false := z
        have z2 := (Bool.or_eq_false_iff.mp z).2
        cases e : iosE es with
        | nil => rw [e] at hi; cases hi
        | cons _ _ => rw [e] at z2; cases z2).ext
  | ok p =>
    obtain ⟨r, outs⟩ := p
    rw [hc] at h
    intro v H' fr outR rs
    have h : Post K cl cx W P σV fp1 H1 σ1 (imp (.call f es)) (RSe K cl P σV (.call f es)) (backA σ1 es outs >>= fun σ2 => .ok (r, σ2)) Q := h
    obtain ⟨σ2, hb, h⟩ := h.pur nox_back
    obtain ⟨lo, l2, same, chg⟩ := back_ok hb nd
    have m : Mv (avS P fp1) H1 (avS P fp1) H' := Mv.of fr gA fun _ z => .inl z
    have keepc : ∀ {a : Addr} {o : HO}, H1 a = some o → NT o → ¬ ownS (gOf fp1 es) a → H' a = some o := fun {a o} h nt n => fr.keep a o h nt n
    have R2 : Rel K cl P fp1 σ2 σV H' := by
      refine ⟨by rw [l2]; exact R1.len, fun i => ?_, R1.dis, R1.noX, fun a ha => ?_, R1.bX, R1.fr0.trans fr fun b z => ?_, R1.new, R1.tb⟩
      · by_cases hi : i ∈ iosE es
        · -- given back
          obtain ⟨o, ho, e⟩ := List.mem_filterMap.mp hi
          have e : o = some i := e
          subst e
          obtain ⟨j, hj⟩ := List.mem_iff_getElem?.mp ho
          have jl : j < (ioAt es).length := (List.getElem?_eq_some_iff.mp hj).1
          obtain ⟨d, hd⟩ : ∃ d, outs[j]? = some d := ⟨_, List.getElem?_eq_getElem (by omega)⟩
          obtain ⟨x, hx⟩ : ∃ x, as[j]? = some x := ⟨_, List.getElem?_eq_getElem (by omega)⟩
          obtain ⟨v0, hv0⟩ : ∃ v, vs[j]? = some v := ⟨_, List.getElem?_eq_getElem (by omega)⟩
          obtain ⟨f', d0, q1, q2⟩ := chg j i d hj hd
          have eg : gOf fp1 es j = fp1 i := by unfold gOf; rw [hj]
          rcases each j x v0 hx hv0 with ⟨i', fl, d', p1, p2, p3, p4, p5, _⟩ | ⟨p1, _⟩
          · rw [hj] at p1
            cases p1
            subst p4
            have c := outR.2 j d' d v0 hx hd hv0
            rw [eg] at c
            rw [q2]
            show SlR K cl P _ H' i _ _ (vAt σV i)
            rw [p5]
            have s := R1.at i
            rw [q1, p5] at s
            rw [q1] at p3
            cases p3
            rcases p2 with rfl | rfl
            · exact .own c
            · cases s with
              | ino _ n => exact .ino c n
          · rw [hj] at p1; cases p1
        · rw [same i hi]
          have q := R1.sl i
          generalize Sg.at σ1 i = y at q
          generalize (σV[i]?).join = z at q
          have nj : ∀ a ∈ fp1 i, ¬ ownS (gOf fp1 es) a := fun a h1 h2 => by
            obtain ⟨i', hi', h2⟩ := gown a h2
            have := R1.dis i i' a h1 h2
            subst this
            exact hi hi'
          cases q with
          | none n => exact .none n
          | dat r n => exact .dat (r.mv m) n
          | own c => exact .own (c.mv m fun a ha u h nt => keepc h nt (nj a ha))
          | ino c n => exact .ino (c.mv m fun a ha u h nt => keepc h nt (nj a ha)) n
          | brw c f n =>
            refine .brw (c.mv m fun a ha u h nt => keepc h nt fun z => ?_) f n
            obtain ⟨i', _, z⟩ := gown a z
            exact R1.noX i' a z (R1.bX a (f a ha))
      · exact fr.there a (R1.trX a ha) fun z => by
          obtain ⟨i', _, z⟩ := gown a z
          exact R1.noX i' a z ha
      · obtain ⟨i', _, z⟩ := gown b z
        exact R1.new b ⟨i', z⟩
    refine h fp1 v H' R2 (fun _ _ z => z) (fr.mono fun a z => by
      obtain ⟨i, _, z⟩ := gown a z
      exact ⟨i, z⟩) (fun z => ?_) (.rs (rs.z fun a h => fresh_new R1 h))
    obtain ⟨_, e⟩ := pu z
    refine ⟨?_, rfl, Fr.ext (fr.mono fun b z => ?_)⟩
    · refine List.ext_getElem? fun i => ?_
      by_cases hi : i < σ1.length
      · have q := same i (by rw [e]; exact fun z => nomatch z)
        unfold Sg.at at q
        rw [List.getElem?_eq_getElem (by omega), List.getElem?_eq_getElem hi] at q ⊢
        exact congrArg some q
      · rw [List.getElem?_eq_none (by omega), List.getElem?_eq_none (by omega)]
    · obtain ⟨i', hi', _⟩ := gown b z
      rw [e] at hi'; cases hi'
end
end DD
namespace DD
open L2 PyProof.Rows PySem PySem.Spec
variable [TabT]
mutual
theorem plain_toP : ∀ {d : D} {p : PyData}, toP d = some p → p.plain = true
  | .non, _, e => by cases e; rfl
  | .bl _, _, e => by cases e; rfl
  | .int _, _, e => by cases e; rfl
  | .str _, _, e => by cases e; rfl
  | .tup ds, p, e => by
    have e : (toPs ds).map PyData.tuple = some p := e
    cases q : toPs ds with
    | none => rw [q] at e; cases e
    | some ps => rw [q] at e; cases e; rw [PyData.plain]; exact plain_toPs q
  | .lst ds, p, e => by
    have e : (toPs ds).map PyData.list = some p := e
    cases q : toPs ds with
    | none => rw [q] at e; cases e
    | some ps => rw [q] at e; cases e; rw [PyData.plain]; exact plain_toPs q
  | .dct _, _, e => by cases e
  | .obj _ _, _, e => by cases e
  | .odc _, _, e => by cases e
  | .scr _, _, e => by cases e
theorem plain_toPs : ∀ {ds : List D} {ps : List PyData}, toPs ds = some ps → PyData.plainAll ps = true
  | [], _, e => by cases e; rfl
  | d :: ds, ps, e => by
    have e : (match toP d, toPs ds with
      | some p, some ps => some (p :: ps)
      | _, _ => none) = some ps := e
    cases q1 : toP d with
    | none => rw [q1] at e; cases e
    | some p =>
      cases q2 : toPs ds with
      | none => rw [q1, q2] at e; cases e
      | some qs =>
        rw [q1, q2] at e
        cases e
        rw [PyData.plainAll, plain_toP q1, plain_toPs q2]; rfl
end
theorem toPs_map : ∀ {ds : List D}, ds.all okP = true → toPs ds = some (ds.map pD)
  | [], _ => rfl
  | d :: ds, h => by
    rw [List.all_cons, Bool.and_eq_true] at h
    have h1 := pD_of (Bool.and_eq_true_iff.mp h.1).1
    rw [toPs, h1, toPs_map h.2]; rfl
section
variable {X : Cx}
/-- a list of plain data, one more -/
structure LkFor (K : PySem.W.Frag) (H : Hp) (ys : List V) (ps : List PyData) (y : V) (d : PyData) : Prop where
  ys : DpAll K H ys ps
  y : Dp K H y d
  pp : PyData.plainAll ps = true
  pd : d.plain = true
  dp : d.depth ≤ 60
theorem mt_lcountD (hu : X.A.units + 64 < cLine) : MtR X "list.count" (fun x xs H Q => ∃ (p : Addr) (ys : List V) (y : V) (ps : List PyData) (d : PyData), x = .ref p ∧ xs = [y] ∧ SqL X.K H p ys ∧ LkFor X.K H ys ps y d ∧ Q (.int ((ps.countP fun z => PyData.eqv z d : Nat) : Int)) H) := by
  intro pins s σ H x xs v us Q I rx rxs h
  obtain ⟨p, ys, y, ps, d, rfl, rfl, hs, lf, q⟩ := h
  cases rx
  obtain ⟨u, rfl, ru⟩ := vals1 rxs
  obtain ⟨its, rv, pl, hz⟩ := I.list hs
  obtain ⟨as, h4⟩ := Dp.readsAll I ps _ its lf.ys rv
  obtain ⟨bs, r2⟩ := Dp.reads I d y u lf.y ru
  have hd := lf.dp
  refine SeqAt.count_list_data (xs := ps) (d := d) (as := as) (bs := bs) pl.isList (by simpa using h4) r2 lf.pp lf.pd (by omega) ?_
  exact ⟨.int _, H, I.tok _, ⟨_, rfl⟩, q⟩
theorem mt_removeD (hu : X.A.units + 64 < cLine) : MtR X "list.remove" (fun x xs H Q => ∃ (p : Addr) (ys : List V) (y : V) (ps : List PyData) (d : PyData) (j : Nat), x = .ref p ∧ xs = [y] ∧ H p = some (.lst ys) ∧ LkFor X.K H ys ps y d ∧ (ps.findIdx? fun z => PyData.eqv z d) = some j ∧ Q .non (upd H p (.lst (ys.eraseIdx j)))) := by
  intro pins s σ H x xs v us Q I rx rxs h
  obtain ⟨p, ys, y, ps, d, j, rfl, rfl, hH, lf, hj, q⟩ := h
  cases rx
  obtain ⟨u, rfl, ru⟩ := vals1 rxs
  obtain ⟨z, its, n, rv, hl, e⟩ := I.lstM hH
  obtain ⟨as, h4⟩ := Dp.readsAll I ps _ its lf.ys rv
  obtain ⟨bs, r2⟩ := Dp.reads I d y u lf.y ru
  have hd := lf.dp
  have il : s.heap.IsList p its.toArray := ⟨_, e, rfl, n, rfl⟩
  refine SeqAt.remove_list_data (xs := ps) (d := d) (as := as) (bs := bs) (j := j) il (by simpa using h4) r2 lf.pp lf.pd (by omega) hj (by rw [List.size_toArray]; omega) ?_
  have le : (ys.eraseIdx j).length ≤ ys.length := List.length_eraseIdx_le ys j
  refine ⟨.non, _, I.lset (its' := its.eraseIdx j) (t' := s.toks) hH e ?_ (rv.eraseIdx j) ?_, rfl, q⟩
  · show its.toArray.eraseIdxIfInBounds j = _
    rw [List.eraseIdxIfInBounds_toArray]
  · omega
end
section
variable {X : Cx} {cl cx : Nat → Addr} {T : Tb} {W : XK} {K : PySem.W.Frag} {P : Px} {σV : L2.St} {fp fp1 : Fp} {H H1 : Hp} {σ σ1 : Sg} {Q : VK}
theorem mu_remove (hu : X.A.units + 64 < cLine) : MtR X "list.remove" (rMut X.K cl .remove) := by
  refine MtR.imp (mt_removeD hu) fun x xs H Q h => ?_
  obtain ⟨A, d, ds, y, d', fr, c, r, ha, hm, q⟩ := h
  cases c with
  | @lst es a vs h1 r1 l1 =>
    cases r with
    | nil => cases hm
    | cons r0 r =>
      cases r with
      | cons _ _ => cases hm
      | nil =>
        obtain ⟨hc, hm⟩ := ifok hm
        obtain ⟨j, hj, hm⟩ := R.bind_eq_ok hm
        cases hm
        rw [Bool.and_eq_true] at hc
        have hx := Bool.and_eq_true_iff.mp hc.1
        have hp := toPs_map hc.2
        have ha := ha a (List.mem_singleton.mpr rfl)
        refine ⟨a, vs, _, es.map pD, _, j, rfl, rfl, h1, ⟨Reps.dp hp r1, Rep.dp (pD_of hx.1) r0, plain_toPs hp, plain_toP (pD_of hx.1), of_decide_eq_true hx.2⟩, ofO_ok hj, ?_⟩
        exact q _ _ (fr_cell h1) (cell_upd (r1.erase j) ha (Nat.le_trans (List.length_eraseIdx_le _ _) l1)) .non
  | dct => cases hm
  | obj => cases hm
def rMtd (K : PySem.W.Frag) (cl : Nat → Addr) (m : Mt) : V → List V → Hp → VK → Prop := fun x xs H Q =>
  ∃ A d ds r, Lk K cl A H d x ∧ Lks K cl A H ds xs ∧ Trk A H ∧ mtdD m d ds = .ok r ∧ Aft K cl A H r Q
theorem nox_mtd (m : Mt) (d : D) (ds : List D) : NoX (mtdD m d ds) := by
  unfold mtdD
  split <;> first | exact nox_ok _ | exact nox_bad | exact nox_if (nox_ok _) nox_bad
theorem mtd_tyV {m : Mt} {d : D} {A : AS} {x : V} (h : mtTy m d = true) (l : Lk K cl A H d x) : tyV K (mtT m) x H := by
  cases m
  cases l with
  | @lst _ a vs h1 r1 l1 => exact .inl ⟨rfl, vs, SqL.of h1⟩
  | _ => cases h
theorem mtd_rule (hu : X.A.units + 64 < cLine) (m : Mt) : ∃ id, PlainAttrs (mtT m) ∧ Slot (mtT m) (mtN m) id ∧ typeOf (.builtin id) = pure (.type "method_descriptor") ∧ MtR X id (rMtd X.K cl m) := by
  cases m with
  | lcount =>
    refine ⟨_, PySem.F.plainAttrs_list, PySem.F.slot_list_count, PySem.F.type_list_count, MtR.imp (mt_lcountD hu) fun x xs H Q h => ?_⟩
    obtain ⟨A, d, ds, r, l, ls, tk, hm, q⟩ := h
    cases d with
    | lst ys =>
      cases l with
      | @lst _ a vs h1 r1 l1 =>
        cases ls with
        | nil => cases hm
        | cons l0 ls =>
          cases ls with
          | cons _ _ => cases hm
          | nil =>
            obtain ⟨hc, hm⟩ := ifok hm
            cases hm
            rw [Bool.and_eq_true] at hc
            have hx := Bool.and_eq_true_iff.mp hc.1
            have hp := toPs_map hc.2
            exact ⟨a, vs, _, ys.map pD, _, rfl, rfl, SqL.of h1, ⟨Reps.dp hp r1, Lk.dp (pD_of hx.1) l0, plain_toPs hp, plain_toP (pD_of hx.1), of_decide_eq_true hx.2⟩, q _ H (Ext.refl H) (.int _)⟩
    | _ => cases hm
theorem imp_mtd {m : Mt} {x : E} {es : Es} (hn : es ≠ .nil) (h : tE cl cx T W K (.mtd m x es) σV H Q) : tBM K (mtT m) (rMtd K cl m) (tE cl cx T W K x) (tS cl cx T W K es) σV H Q := by
  obtain ⟨P, fp, σ, R, h⟩ := h
  have pu : imp (.mtd m x es) = false → imp x = false ∧ imps es = false := fun z => Bool.or_eq_false_iff.mp z
  rw [ev] at h
  refine ⟨P, fp, σ, R, h.bind (fun z => (pu z).1) fun v σ1 fp1 v1 H1 _ R1 s1 f1 i1 r1 h => ?_⟩
  obtain ⟨g, h⟩ := h.grd
  obtain ⟨d, l1, h⟩ := h.pur (nox_look v)
  obtain ⟨g2, h⟩ := h.grd
  refine ⟨mtd_tyV g2 (r1.lk0 l1), P, fp1, σ1, R1, h.bind (fun z => (pu z).2) fun xs σ2 fp2 ws H2 _ R2 s2 f2 i2 r2 h => ?_⟩
  obtain ⟨ds, l2, h⟩ := h.pur (nox_looks _)
  obtain ⟨r, hm, h⟩ := h.pur (nox_mtd m d ds)
  exact ⟨avS P fp2, d, ds, r, r1.lk l1 (ng g) s2 f2 i2, r2.looks l2, R2.trk, hm, h.done R2⟩
end
end DD
namespace DD
open L2 PyProof.Rows PySem PySem.Spec
variable [TabT]
section
variable {cl cx : Nat → Addr} {T : Tb} {M : Nm} {W : XK} {sc : Scope} {fb : Str → Bool} {X : Cx} {k : Nat}
variable {K : PySem.W.Frag} {P : Px} {σV σV1 : L2.St} {fp fp1 : Fp} {H H1 : Hp} {σ σ1 : Sg} {Q : VK}
/-- the further address may be touched again: what stands there becomes another thing -/
theorem Rel.unplus {p : Addr} {o o0 : HO} (R : Rel K cl (P.plus p) fp σ σV H) (e0 : H p = some o0) (nt : NT o0) (nx : ∀ f, o0 ≠ HO.ext f) (nX : ¬ P.X p) (bX : ∀ a, P.B a → P.X a) (n0 : ∀ u, P.H0 p = some u → P.O0 p) : Rel K cl P fp σ σV (upd H p o) := by
  have m : Mv (avS (P.plus p) fp) H (avS P fp) (upd H p o) := ⟨fun b u h _ n => by
    rw [upd_ne fun z => n (.inl (.inr z))]; exact h, fun a h => .inl (av_plus p a h)⟩
  refine ⟨R.len, fun i => ?_, R.dis, fun i a h z => R.noX i a h (.inl z), fun a h => ?_, bX, R.fr0.upd e0 nt nx n0, R.new, R.tb⟩
  · have s := R.sl i
    have nf : ∀ a ∈ fp i, a ≠ p := fun a h z => R.noX i a h (.inr z)
    generalize σ.at i = x at s ⊢
    generalize (σV[i]?).join = y at s ⊢
    cases s with
    | none n => exact .none n
    | dat r n => exact .dat (r.mv m) n
    | own c => exact .own (c.mv m fun a ha u h _ => by rw [upd_ne (nf a ha)]; exact h)
    | ino c n => exact .ino (c.mv m fun a ha u h _ => by rw [upd_ne (nf a ha)]; exact h) n
    | brw c f n =>
      exact .brw (c.mv m fun a ha u h _ => by rw [upd_ne fun z => nX (by rw [← z]; exact bX a (f a ha))]; exact h) f n
  · rw [upd_ne fun z => nX (by rw [← z]; exact h)]
    exact R.trX a (.inl h)
variable (cl cx T W) in
def trOf (K : PySem.W.Frag) : Es → List (TE × TE)
  | .cons e (.cons f r) => (tE cl cx T W K e, tE cl cx T W K f) :: trOf K r
  | _ => []
abbrev RSk (K : PySem.W.Frag) (cl : Nat → Addr) (P : Px) : Fp → Hp → List (Key × D) → List (V × V) → Prop := fun fp H kvs pv => ∃ ks : List (Key × V), pv = ks.map (fun kv => (kV kv.1, kv.2)) ∧ RepK K cl (avS P fp) H kvs ks
theorem RepK.keys {A : AS} : ∀ {kvs : List (Key × D)} {ks : List (Key × V)}, RepK K cl A H kvs ks → kvs.length = ks.length := RepK.length
theorem tk_pairs : ∀ (ps : Es) {fp : Fp} {H : Hp} {σ : Sg} {Qp : List (V × V) → Hp → Prop}, Rel K cl P fp σ σV H → Post K cl cx W P σV fp H σ (imps ps) (RSk K cl P) (evK T ps σ) Qp → tPairs (trOf cl cx T W K ps) σV H Qp
  | .nil, fp, H, σ, Qp, R, h => by
    rw [evK] at h
    exact h fp [] H R (fun _ _ z => z) (Fr.refl _ _) (fun _ => ⟨rfl, rfl, Ext.refl _⟩) ⟨[], rfl, .nil⟩
  | .cons _ .nil, fp, H, σ, Qp, R, h => by
    rw [evK] at h
    exact (show False from h).elim
  | .cons e (.cons f r), fp, H, σ, Qp, R, h => by
    have pu : imps (.cons e (.cons f r)) = false → imp e = false ∧ imp f = false ∧ imps r = false := fun z => by
      obtain ⟨a, b⟩ := Bool.or_eq_false_iff.mp z
      obtain ⟨b, c⟩ := Bool.or_eq_false_iff.mp b
      exact ⟨a, b, c⟩
    rw [evK] at h
    refine ⟨P, fp, σ, R, h.bind (fun z => (pu z).1) fun x σ1 fp1 v1 H1 _ R1 s1 f1 i1 r1 h => ?_⟩
    refine ⟨P, fp1, σ1, R1, h.bind (fun z => (pu z).2.1) fun y σ2 fp2 v2 H2 _ R2 s2 f2 i2 r2 h => ?_⟩
    obtain ⟨g, h⟩ := h.grd
    obtain ⟨k, hk, h⟩ := h.pur (nox_ofO _)
    obtain ⟨d, hd, h⟩ := h.pur (nox_keep _)
    have g : x.1 = .dat := beq_iff_eq.mp g
    have l1 : look x = .ok x.2 := by
      obtain ⟨f, d⟩ := x
      cases g; rfl
    have lk := r1.lk (b := true) (σ := σ1) (σ1 := σ2) l1 (by rw [g]; rfl) s2 f2 fun z => nomatch z
    have ev := lk.key (ofO_ok hk)
    subst ev
    have rd := r2.keep hd (fun _ _ z => z) (Fr.refl _ _)
    have h : Post K cl cx W P σV fp2 H2 σ2 (imps (.cons e (.cons f r))) (RSk K cl P) (evK T r σ2 >>= fun p => .ok ((k, d) :: p.1, p.2)) Qp := h
    refine tk_pairs r R2 (h.bind (fun z => (pu z).2.2) fun kvs σ3 fp3 pv H3 _ R3 s3 f3 i3 r3 h => ?_)
    obtain ⟨ks, e1, rk⟩ := r3
    subst e1
    exact h fp3 _ H3 R3 (fun _ _ z => z) (Fr.refl _ _) (fun _ => ⟨rfl, rfl, Ext.refl _⟩) ⟨(k, v2) :: ks, rfl, .cons (rd.mv (mv_sub s3 f3)) rk⟩
theorem fresh_X (R : Rel K cl P fp σ σV H) {p : Addr} (hp : H p = none) : ¬ P.X p := fun z => R.trX p z hp
theorem fresh_own (R : Rel K cl P fp σ σV H) {p : Addr} (hp : H p = none) (s : Sub fp1 fp) : ¬ avS P fp1 p := fun z => R.trk p (sub_av s p z) hp
theorem imp_dct {ps : Es} (h : tE cl cx T W K (.dct ps) σV H Q) : tDisp (trOf cl cx T W K ps) σV H Q := by
  obtain ⟨P, fp, σ, R, h⟩ := h
  rw [ev] at h
  intro p hp
  have Rp := R.plus (o := .dK []) hp
  have ex : Ext H (upd H p (.dK [])) := Ext.new hp
  have h0 : Post K cl cx W P σV fp H σ (imps ps) (RSk K cl (P.plus p)) (evK T ps σ) (fun pv H1 => True) → True := fun _ => trivial
  refine tk_pairs (P := P.plus p) ps Rp ?_
  generalize evK T ps σ = m at h
  cases m with
  | bad => exact (show False from h).elim
  | exc x => exact fun od H' ex' fr e => h od H' ex' ((Fr.of ex).trans fr fun a z => .inl z) fun z => ex.trans (e z)
  | ok q =>
    obtain ⟨kvs, σ1⟩ := q
    intro fp1 pv H1 R1 s1 f1 i1 r1
    obtain ⟨ks, e1, rk⟩ := r1
    subst e1
    have hp1 : H1 p = some (.dK []) := f1.keep p _ upd_same nt_dK fun z => R.trk p (.inr z) hp
    have h : Post K cl cx W P σV fp H σ (imp (.dct ps)) (RSe K cl P σV (.dct ps)) (guard (decide (kvs.length ≤ 15)) >>= fun _ => .ok ((.own, .dct (mergeD [] kvs)), σ1)) Q := h
    obtain ⟨g, h⟩ := h.grd
    have g : kvs.length ≤ 15 := of_decide_eq_true g
    refine ⟨hp1, ks, rfl, by rw [← rk.length]; exact g, ?_⟩
    have R2 := R1.unplus (o := .dK (mergeK [] ks)) hp1 nt_dK nx_dK (fresh_X R hp) R.bX (fresh_H0 R hp)
    have frH : Fr H (ownS fp) (upd H1 p (.dK (mergeK [] ks))) := ((Fr.of (O := ownS fp) ex).trans f1 fun _ z => .inl z).upd hp1 nt_dK nx_dK fun u z => by rw [hp] at z; cases z
    refine h fp1 _ _ R2 s1 frH (fun z => ?_) (.rs ⟨[p], .dct upd_same (RepK.mv ⟨fun b o hb nt n => ?_, fun a z => ?_⟩ (RepK.merge rk .nil)) ?_, fun a ha z => ?_, fun a ha => ?_⟩)
    · obtain ⟨a, b, c⟩ := i1 z
      exact ⟨a, b, (ex.trans c).upd hp1 nt_dK nx_dK hp⟩
    · rw [upd_ne fun z => n (.inl (.inr z))]; exact hb
    · rcases z with z | z
      · exact .inl (av_plus p a z)
      · exact .inl (.inl (.inr (List.mem_singleton.mp z)))
    · refine Nat.le_trans (mergeD_length kvs []) ?_
      show 0 + kvs.length ≤ _
      omega
    · cases List.mem_singleton.mp ha
      exact fresh_own R hp s1 z
    · cases List.mem_singleton.mp ha
      exact fresh_new R hp
def tgN (K : PySem.W.Frag) : List Nat → TGs
  | [] => gNil
  | i :: r => gCons (gName i) (tgN K r)
def tgR (K : PySem.W.Frag) : Tg → TG
  | .one i => gName i
  | .tup is => gTup K is.length (tgN K is)
theorem Rel.setD {i : Nat} {d : D} {v : V} (R : Rel K cl P fp σ σV H) (e : fp i = []) (r : Rep K cl (avS P fp) H d v) : Rel K cl P fp (σ.set i (some (.dat, d))) (σV.set i (some v)) H := by
  refine ⟨by rw [List.length_set, List.length_set]; exact R.len, fun j => ?_, R.dis, R.noX, R.trX, R.bX, R.fr0, R.new, R.tb⟩
  rw [at_set]
  by_cases h : i = j
  · subst h
    by_cases hl : i < σ.length
    · rw [if_pos ⟨rfl, hl⟩, List.getElem?_set_self (by rw [← R.len]; exact hl)]
      exact .dat r e
    · rw [if_neg fun z => hl z.2, List.getElem?_eq_none (by rw [List.length_set, ← R.len]; omega)]
      have n1 : σ.at i = none := by
        unfold Sg.at
        rw [List.getElem?_eq_none (by omega)]; rfl
      rw [n1]
      exact .none e
  · rw [if_neg fun z => h z.1, List.getElem?_set_ne h]
    exact R.sl j
theorem tg_list : ∀ (is : List Nat) (ds : List D) (vs : List V) {σ : Sg} {σV : L2.St} {Qs : L2.St → Hp → Prop}, is.length = ds.length → Rel K cl P fp σ σV H → (∀ i ∈ is, fp i = []) → Reps K cl (avS P fp) H ds vs →
    (∀ σV1, Rel K cl P fp ((is.zip ds).foldl (fun s p => s.set p.1 (some (.dat, p.2))) σ) σV1 H → (∀ j : Nat, j ∉ is → σV1[j]? = σV[j]?) → σV1.length = σV.length → Qs σV1 H) → tgN K is vs σV H Qs
  | [], [], vs, σ, σV, Qs, _, R, _, r, q => by cases r; exact ⟨rfl, q σV R (fun _ _ => rfl) rfl⟩
  | i :: is, d :: ds, vs, σ, σV, Qs, l, R, e, r, q => by
    cases r with
    | @cons _ v _ vs h r =>
      refine ⟨v, vs, rfl, tg_list is ds vs (Nat.succ.inj l) (R.setD (e i List.mem_cons_self) h) (fun j hj => e j (List.mem_cons_of_mem _ hj)) r fun σV1 R1 o n => ?_⟩
      refine q σV1 R1 (fun j hj => ?_) (by rw [n, List.length_set])
      rw [o j fun z => hj (List.mem_cons_of_mem _ z), List.getElem?_set_ne fun z => hj (by rw [z]; exact List.mem_cons_self)]
  | [], _ :: _, _, _, _, _, l, _, _, _, _ => by cases l
  | _ :: _, [], _, _, _, _, l, _, _, _, _ => by cases l
theorem tg_ok {tg : Tg} {d : D} {v : V} {σ1 : Sg} {Qs : L2.St → Hp → Prop} (R : Rel K cl P fp σ σV H) (e : ∀ i ∈ tgSlots tg, fp i = []) (r : Rep K cl (avS P fp) H d v) (h : setT σ tg d = .ok σ1)
    (q : ∀ σV1, Rel K cl P fp σ1 σV1 H → (∀ j : Nat, j ∉ tgSlots tg → σV1[j]? = σV[j]?) → σV1.length = σV.length → Qs σV1 H) : tgR K tg v σV H Qs := by
  cases tg with
  | one i =>
    cases h
    exact q _ (R.setD (e i (List.mem_singleton.mpr rfl)) r) (fun j hj => List.getElem?_set_ne fun z => hj (List.mem_singleton.mpr z.symm)) (by rw [List.length_set])
  | tup is =>
    cases r with
    | @tup ds a vs t rr l =>
      obtain ⟨hl, h⟩ := ifok h
      cases h
      exact ⟨a, vs, rfl, t.sq, by rw [← rr.length]; exact hl, tg_list is ds vs hl.symm R e rr fun σV1 R1 o n => q σV1 R1 o n⟩
    | _ => cases h
theorem wipe_get {σ : L2.St} : ∀ {vs : List Nat} {j : Nat}, (wipe σ vs)[j]? = if j ∈ vs ∧ j < σ.length then some none else σ[j]?
  | [], j => by rw [if_neg fun z => nomatch z.1]; rfl
  | v :: vs, j => by
    unfold wipe
    by_cases h : v = j
    · subst h
      by_cases hl : v < σ.length
      · rw [List.getElem?_set_self (by rw [wipe_length]; exact hl), if_pos ⟨List.mem_cons_self, hl⟩]
      · rw [List.getElem?_eq_none (by rw [List.length_set, wipe_length]; omega), if_neg fun z => hl z.2, List.getElem?_eq_none (by omega)]
    · rw [List.getElem?_set_ne h, wipe_get]
      by_cases hj : j ∈ vs ∧ j < σ.length
      · rw [if_pos hj, if_pos ⟨List.mem_cons_of_mem _ hj.1, hj.2⟩]
      · rw [if_neg hj, if_neg fun z => hj ⟨(List.mem_cons.mp z.1).resolve_left fun e => h e.symm, z.2⟩]
theorem wipe_eq {σ σ' : L2.St} {vs : List Nat} (l : σ'.length = σ.length) (h : ∀ j : Nat, j ∉ vs → σ'[j]? = σ[j]?) : wipe σ' vs = wipe σ vs := by
  refine List.ext_getElem? fun j => ?_
  rw [wipe_get, wipe_get, l]
  by_cases hj : j ∈ vs
  · by_cases hl : j < σ.length
    · rw [if_pos ⟨hj, hl⟩, if_pos ⟨hj, hl⟩]
    · rw [if_neg fun z => hl z.2, if_neg fun z => hl z.2, List.getElem?_eq_none (by omega), List.getElem?_eq_none (by omega)]
  · rw [if_neg fun z => hj z.1, if_neg fun z => hj z.1, h j hj]
theorem wipeD_len (σ : Sg) : ∀ vs : List Nat, (wipeD σ vs).length = σ.length
  | [] => rfl
  | v :: vs => by unfold wipeD; rw [List.length_set, wipeD_len σ vs]
theorem wipeD_at {σ : Sg} : ∀ {vs : List Nat} {j : Nat}, (wipeD σ vs).at j = if j ∈ vs then none else σ.at j
  | [], j => by rw [if_neg fun z => nomatch z]; rfl
  | v :: vs, j => by
    unfold wipeD
    rw [at_set, wipeD_at, wipeD_len]
    by_cases h : v = j
    · subst h
      rw [if_pos List.mem_cons_self]
      by_cases hl : v < σ.length
      · rw [if_pos ⟨rfl, hl⟩]
      · rw [if_neg fun z => hl z.2]
        have n1 : σ.at v = none := by
          unfold Sg.at
          rw [List.getElem?_eq_none (by omega)]; rfl
        split
        · rfl
        · exact n1
    · rw [if_neg fun z => h z.1]
      by_cases hj : j ∈ vs
      · rw [if_pos hj, if_pos (List.mem_cons_of_mem _ hj)]
      · rw [if_neg hj, if_neg fun z => hj ((List.mem_cons.mp z).resolve_left fun e => h e.symm)]
theorem putBack_len (σ σ0 : Sg) : ∀ vs : List Nat, (putBack σ σ0 vs).length = σ.length
  | [] => rfl
  | v :: vs => by unfold putBack; rw [List.length_set, putBack_len σ σ0 vs]
theorem putBack_at {σ σ0 : Sg} (l : σ0.length = σ.length) : ∀ {vs : List Nat} {j : Nat}, (putBack σ σ0 vs).at j = if j ∈ vs then σ0.at j else σ.at j
  | [], j => by rw [if_neg fun z => nomatch z]; rfl
  | v :: vs, j => by
    unfold putBack
    rw [at_set, putBack_at l, putBack_len]
    by_cases h : v = j
    · subst h
      rw [if_pos List.mem_cons_self]
      by_cases hl : v < σ.length
      · rw [if_pos ⟨rfl, hl⟩]
      · rw [if_neg fun z => hl z.2]
        have n1 : σ.at v = none := by
          unfold Sg.at
          rw [List.getElem?_eq_none (by omega)]; rfl
        have n2 : σ0.at v = none := by
          unfold Sg.at
          rw [List.getElem?_eq_none (by omega)]; rfl
        split
        · rfl
        · rw [n1, n2]
    · rw [if_neg fun z => h z.1]
      by_cases hj : j ∈ vs
      · rw [if_pos hj, if_pos (List.mem_cons_of_mem _ hj)]
      · rw [if_neg hj, if_neg fun z => hj ((List.mem_cons.mp z).resolve_left fun e => h e.symm)]
theorem Rel.wipe (R : Rel K cl P fp σ σV H) {vs : List Nat} (e : ∀ v ∈ vs, fp v = []) : Rel K cl P fp (wipeD σ vs) (L2.wipe σV vs) H := by
  refine ⟨by rw [wipeD_len, wipe_length]; exact R.len, fun j => ?_, R.dis, R.noX, R.trX, R.bX, R.fr0, R.new, R.tb⟩
  rw [wipeD_at, wipe_get]
  by_cases hj : j ∈ vs
  · rw [if_pos hj]; exact .none (e j hj)
  · rw [if_neg hj, if_neg fun z => hj z.1]; exact R.sl j
theorem Rel.free (R : Rel K cl P fp σ σV H) {v : Nat} (f : freeAt σ v = true) : fp v = [] := by
  have s := R.sl v
  unfold freeAt at f
  generalize σ.at v = x at s f
  generalize (σV[v]?).join = y at s
  cases s with
  | none n => exact n
  | dat _ n => exact n
  | own c => cases f
  | ino c _ => cases f
  | brw _ _ n => exact n
theorem Rel.weak {p : Addr} (R : Rel K cl (P.plus p) fp σ σV H) (bX : ∀ a, P.B a → P.X a) : Rel K cl P fp σ σV H := by
  have m : Mv (avS (P.plus p) fp) H (avS P fp) H := Mv.less fun a h => av_plus p a h
  refine ⟨R.len, fun i => ?_, R.dis, fun i a h z => R.noX i a h (.inl z), fun a h => R.trX a (.inl h), bX, R.fr0, R.new, R.tb⟩
  have s := R.sl i
  generalize σ.at i = x at s ⊢
  generalize (σV[i]?).join = y at s ⊢
  cases s with
  | none n => exact .none n
  | dat r n => exact .dat (r.mv m) n
  | own c => exact .own (c.mv m fun _ _ _ h _ => h)
  | ino c n => exact .ino (c.mv m fun _ _ _ h _ => h) n
  | brw c f n => exact .brw (c.mv m fun _ _ _ h _ => h) f n
/-- behind the block: its own slots hold what they held -/
theorem Rel.back {σ0 τ : Sg} {fp0 fp1 : Fp} {vs : List Nat} {H0 : Hp} (R0 : Rel K cl P fp0 σ0 σV H0) (R : Rel K cl P fp1 τ (L2.wipe σV vs) H) (s : Sub fp1 fp0) (f : Fr H0 (ownS fp0) H) (e : ∀ v ∈ vs, fp0 v = []) :
    Rel K cl P fp1 (putBack τ σ0 vs) σV H := by
  have l : σ0.length = τ.length := by rw [R0.len, R.len, wipe_length]
  have m := mv_sub (P := P) s f
  refine ⟨by rw [putBack_len, R.len, wipe_length], fun j => ?_, R.dis, R.noX, R.trX, R.bX, R.fr0, R.new, R.tb⟩
  rw [putBack_at l]
  by_cases hj : j ∈ vs
  · rw [if_pos hj]
    have q := R0.sl j
    have ef : fp1 j = [] := by
      cases q2 : fp1 j with
      | nil => rfl
      | cons a r =>
        have := s j a (by rw [q2]; exact List.mem_cons_self)
        rw [e j hj] at this; cases this
    have ef0 := e j hj
    generalize Sg.at σ0 j = x at q ⊢
    generalize (σV[j]?).join = y at q ⊢
    cases q with
    | none n => exact .none ef
    | dat r n => exact .dat (r.mv m) ef
    | own c => rw [ef0] at c; cases c
    | ino c n => rw [ef0] at c; cases c
    | brw c g n => exact .brw (c.mv m fun a ha u h nt => f.keep a u h nt fun ⟨i, z⟩ => R0.noX i a z (R0.bX a (g a ha))) g ef
  · rw [if_neg hj]
    have q := R.sl j
    rw [wipe_get, if_neg fun z => hj z.1] at q
    exact q
end
end DD
namespace DD
open L2 PyProof.Rows PySem PySem.Spec
variable [TabT]
theorem calm_ok {a : Type} {m : R a} {x : a} (h : calm m = .ok x) : m = .ok x := by
  cases m with
  | ok y => exact h
  | exc e => cases h
  | bad => cases h
theorem nox_calm {a : Type} (m : R a) : NoX (calm m) := fun x h => by cases m <;> cases h
def compF (T : Tb) (tg : Tg) (cs : Es) (x : E) (vs : List Nat) (d : D) (τ : Sg) : R (Option D × Sg) := do
  let τ1 ← setT τ tg d
  let (b, τ2) ← evAnd T cs τ1
  let b ← boolD b
  if b then do
    let (v, τ3) ← ev T x τ2
    let v ← keep v
    .ok (some v, wipeD τ3 vs)
  else .ok (none, wipeD τ2 vs)
theorem ev_comp (T : Tb) (w : Wk) (src : Es) (tg : Tg) (cs : Es) (x : E) (vs : List Nat) (σ : Sg) : ev T (.comp w src tg cs x vs) σ = (evs T src σ >>= fun p =>
    guard (dctSrc src p.1 && (vs.all (freeAt p.2) && !(p.1.any (fun v => v.1 == .brw) && (imps cs || imp x)))) >>= fun _ => looks p.1 >>= fun ds => wkD w ds >>= fun its =>
    calm (compGo (compF T tg cs x vs) its (wipeD p.2 vs) []) >>= fun q => .ok ((.own, .lst q.1), putBack q.2 p.2 vs)) := by
  rw [ev]; rfl
theorem wipe_wipe {σ : L2.St} {vs : List Nat} : L2.wipe (L2.wipe σ vs) vs = L2.wipe σ vs := by
  refine List.ext_getElem? fun j => ?_
  simp only [wipe_get, wipe_length]
  by_cases hj : j ∈ vs ∧ j < σ.length
  · simp only [if_pos hj]
  · simp only [if_neg hj]
theorem at_ext {σ τ : Sg} (l : σ.length = τ.length) (h : ∀ j, σ.at j = τ.at j) : σ = τ := by
  refine List.ext_getElem? fun j => ?_
  by_cases hj : j < σ.length
  · have q := h j
    unfold Sg.at at q
    rw [List.getElem?_eq_getElem hj, List.getElem?_eq_getElem (by omega)] at q ⊢
    exact congrArg some q
  · rw [List.getElem?_eq_none (by omega), List.getElem?_eq_none (by omega)]
theorem setT_len : ∀ {tg : Tg} {σ σ1 : Sg} {d : D}, setT σ tg d = .ok σ1 → σ1.length = σ.length ∧ ∀ j, j ∉ tgSlots tg → σ1.at j = σ.at j
  | .one i, σ, σ1, d, h => by
    cases h
    exact ⟨by rw [List.length_set], fun j hj => by rw [at_set, if_neg fun z => hj (List.mem_singleton.mpr z.1.symm)]⟩
  | .tup is, σ, σ1, .tup ds, h => by
    obtain ⟨hl, h⟩ := ifok h
    cases h
    have go : ∀ (is : List Nat) (ds : List D) (σ : Sg), ((is.zip ds).foldl (fun s p => s.set p.1 (some (Fl.dat, p.2))) σ).length = σ.length ∧
        ∀ j, j ∉ is → Sg.at ((is.zip ds).foldl (fun s p => s.set p.1 (some (Fl.dat, p.2))) σ) j = σ.at j := by
      intro is
      induction is with
      | nil => intro ds σ; exact ⟨rfl, fun _ _ => rfl⟩
      | cons i is ih =>
        intro ds σ
        cases ds with
        | nil => exact ⟨rfl, fun _ _ => rfl⟩
        | cons d ds =>
          obtain ⟨a, b⟩ := ih ds (σ.set i (some (Fl.dat, d)))
          refine ⟨by rw [List.zip_cons_cons, List.foldl_cons, a, List.length_set], fun j hj => ?_⟩
          rw [List.zip_cons_cons, List.foldl_cons, b j fun z => hj (List.mem_cons_of_mem _ z), at_set, if_neg fun z => hj (by rw [← z.1]; exact List.mem_cons_self)]
    exact go is ds σ
  | .tup _, _, _, .non, h => by cases h
  | .tup _, _, _, .bl _, h => by cases h
  | .tup _, _, _, .int _, h => by cases h
  | .tup _, _, _, .str _, h => by cases h
  | .tup _, _, _, .lst _, h => by cases h
  | .tup _, _, _, .dct _, h => by cases h
  | .tup _, _, _, .obj _ _, h => by cases h
  | .tup _, _, _, .scr _, h => by cases h
section
variable {cl cx : Nat → Addr} {T : Tb} {M : Nm} {W : XK} {sc : Scope} {fb : Str → Bool} {X : Cx} {k : Nat}
variable {K : PySem.W.Frag} {P : Px} {σV σV1 : L2.St} {fp fp1 : Fp} {H H1 : Hp} {σ σ1 : Sg} {Q : VK}
variable (cl cx T) in
/-- the tests of a comprehension -/
def tCs (K : PySem.W.Frag) : Es → TT
  | .nil => tYes
  | .cons c _ => tB (tE cl cx T E0 K c)
/-- a comprehension's one turn -/
def Turn1 (cl cx : Nat → Addr) (T : Tb) (K : PySem.W.Frag) (tg : Tg) (cs : Es) (x : E) (vs : List Nat) (σV : L2.St) (v : V) (H : Hp) (G1 : V → Hp → Prop) (G0 : Hp → Prop) : Prop :=
  tgR K tg v (L2.wipe σV vs) H fun σ2 H2 => L2.wipe σ2 vs = L2.wipe σV vs ∧ tCs cl cx T K cs σ2 H2 fun b H3 => if b = true then tE cl cx T E0 K x σ2 H3 G1 else G0 H3
theorem comp_turn {tg : Tg} {cs : Es} {x : E} {vs : List Nat} {d : D} {v : V} {y : Option D} {τ τ' : Sg} {G1 : V → Hp → Prop} {G0 : Hp → Prop}
    (R : Rel K cl P fp τ (L2.wipe σV vs) H) (e : ∀ j ∈ vs, fp j = []) (ew : ∀ j ∈ vs, τ.at j = none) (ht : ∀ i ∈ tgSlots tg, i ∈ vs) (r : Rep K cl (avS P fp) H d v)
    (one : ∀ e f r, cs ≠ .cons e (.cons f r)) (h : compF T tg cs x vs d τ = .ok (y, τ'))
    (h1 : ∀ yd w fp' H4, y = some yd → Rel K cl P fp' τ' (L2.wipe σV vs) H4 → Sub fp' fp → Fr H (ownS fp) H4 → ((imps cs || imp x) = false → τ' = τ ∧ fp' = fp ∧ Ext H H4) → Rep K cl (avS P fp') H4 yd w → G1 w H4)
    (h0 : ∀ fp' H4, y = none → Rel K cl P fp' τ' (L2.wipe σV vs) H4 → Sub fp' fp → Fr H (ownS fp) H4 → ((imps cs || imp x) = false → τ' = τ ∧ fp' = fp ∧ Ext H H4) → G0 H4) :
    Turn1 cl cx T K tg cs x vs σV v H G1 G0 := by
  obtain ⟨τ1, e1, h⟩ := DD.R.bind_eq_ok h
  obtain ⟨len1, out1⟩ := setT_len e1
  refine tg_ok R (fun i hi => e i (ht i hi)) r e1 fun σ2 R1 o1 l1 => ⟨?_, ?_⟩
  · have q := wipe_eq (vs := vs) (σ := L2.wipe σV vs) (σ' := σ2) l1 fun j hj => o1 j fun z => hj (ht j z)
    rw [q, wipe_wipe]
  have w2 : L2.wipe σ2 vs = L2.wipe σV vs := by
    have q := wipe_eq (vs := vs) (σ := L2.wipe σV vs) (σ' := σ2) l1 fun j hj => o1 j fun z => hj (ht j z)
    rw [q, wipe_wipe]
  have same : ∀ τ3 : Sg, τ3 = τ1 → wipeD τ3 vs = τ := fun τ3 e3 => by
    subst e3
    refine at_ext (by rw [wipeD_len, len1]) fun j => ?_
    rw [wipeD_at]
    by_cases hj : j ∈ vs
    · rw [if_pos hj, ew j hj]
    · rw [if_neg hj, out1 j fun z => hj (ht j z)]
  obtain ⟨⟨bv, τ2⟩, e2, h⟩ := DD.R.bind_eq_ok h
  obtain ⟨b, hb, h⟩ := DD.R.bind_eq_ok h
  -- behind the tests
  have core : ∀ (fp2 : Fp) (H2 : Hp), Rel K cl P fp2 τ2 σ2 H2 → Sub fp2 fp → Fr H (ownS fp) H2 → (imps cs = false → τ2 = τ1 ∧ fp2 = fp ∧ Ext H H2) →
      if b = true then tE cl cx T E0 K x σ2 H2 G1 else G0 H2 := by
    intro fp2 H2 R2 s2 f2 i2
    have e' : ∀ {fp3 : Fp}, Sub fp3 fp → ∀ j ∈ vs, fp3 j = [] := fun {fp3} s j hj => by
      cases q2 : fp3 j with
      | nil => rfl
      | cons a r =>
        have := s j a (by rw [q2]; exact List.mem_cons_self)
        rw [e j hj] at this; cases this
    cases b with
    | false =>
      cases h
      refine iteF (h0 fp2 H2 rfl (by rw [← w2]; exact R2.wipe (e' s2)) s2 f2 fun z => ?_)
      obtain ⟨a1, a2, a3⟩ := i2 (Bool.or_eq_false_iff.mp z).1
      exact ⟨same τ2 a1, a2, a3⟩
    | true =>
      obtain ⟨⟨yv, τ3⟩, e3, h⟩ := DD.R.bind_eq_ok h
      obtain ⟨yd, hk, h⟩ := DD.R.bind_eq_ok h
      cases h
      refine iteT ⟨P, fp2, τ2, R2, ?_⟩
      rw [e3]
      intro fp3 w H3 R3 s3 f3 i3 r3
      have s' : Sub fp3 fp := fun i a z => s2 i a (s3 i a z)
      refine h1 yd w fp3 H3 rfl (by rw [← w2]; exact R3.wipe (e' s')) s' (f2.trans f3 fun a z => .inl (sub_own s2 a z)) (fun z => ?_) (r3.keep hk (fun _ _ z => z) (Fr.refl _ _))
      obtain ⟨z1, z2⟩ := Bool.or_eq_false_iff.mp z
      obtain ⟨a1, a2, a3⟩ := i2 z1
      obtain ⟨b1, b2, b3⟩ := i3 z2
      exact ⟨same τ3 (b1.trans a1), b2.trans a2, a3.trans b3⟩
  cases cs with
  | nil =>
    rw [evAnd] at e2
    cases e2
    cases hb
    exact core fp H R1 (fun _ _ z => z) (Fr.refl _ _) fun _ => ⟨rfl, rfl, Ext.refl _⟩
  | cons c r =>
    cases r with
    | cons f r => exact absurd rfl (one c f r)
    | nil =>
      rw [evAnd] at e2
      obtain ⟨⟨b0, τa⟩, ea, e2⟩ := DD.R.bind_eq_ok e2
      obtain ⟨b1, hb1, e2⟩ := DD.R.bind_eq_ok e2
      refine ⟨P, fp, τ1, R1, ?_⟩
      rw [ea]
      intro fp2 v2 H2 R2 s2 f2 i2 r2
      have eb : b1 = b ∧ τa = τ2 := by
        cases b1 with
        | true =>
          have e2 : evAnd T .nil τa = .ok (bv, τ2) := e2
          rw [evAnd] at e2
          cases e2
          cases hb
          exact ⟨rfl, rfl⟩
        | false =>
          cases e2
          cases hb
          exact ⟨rfl, rfl⟩
      obtain ⟨rfl, rfl⟩ := eb
      exact ⟨b1, r2.bl hb1, core fp2 H2 R2 s2 f2 fun z => i2 (Bool.or_eq_false_iff.mp z).1⟩
theorem compGo_cons {f : D → Sg → R (Option D × Sg)} {d : D} {ds : List D} {τ : Sg} {acc : List D} {r : List D × Sg} (h : compGo f (d :: ds) τ acc = .ok r) :
    ∃ y τ', f d τ = .ok (y, τ') ∧ compGo f ds τ' (match y with | some v => acc ++ [v] | none => acc) = .ok r := by
  obtain ⟨⟨y, τ'⟩, h1, h2⟩ := DD.R.bind_eq_ok h
  exact ⟨y, τ', h1, h2⟩
theorem list_get_drop {a : Type} {l : List a} {i : Nat} {x : a} (h : l[i]? = some x) : l.drop i = x :: l.drop (i + 1) := by
  obtain ⟨hi, e⟩ := List.getElem?_eq_some_iff.mp h
  rw [List.drop_eq_getElem_cons hi, e]
/-- what holds ahead of each turn, what a turn brings, what is left at the end -/
theorem comp_coreG {tg : Tg} {cs : Es} {x : E} {vs : List Nat} {its acc : List D} {σ2 : Sg} {e : E} {pu : Bool} (R1 : Rel K cl P fp1 σ1 σV H1) (ef : ∀ v ∈ vs, freeAt σ1 v = true) (ht : ∀ i ∈ tgSlots tg, i ∈ vs)
    (one : ∀ e f r, cs ≠ .cons e (.cons f r)) (lim : its.length ≤ 16777216) (hgo : compGo (compF T tg cs x vs) its (wipeD σ1 vs) [] = .ok (acc, σ2))
    (hpu : pu = false → (imps cs || imp x) = false)
    (h : Post K cl cx W P σV fp1 H1 σ1 pu (RSe K cl P σV e) (.ok ((.own, .lst acc), putBack σ2 σ1 vs)) Q) {D1 : Addr} (hD : H1 D1 = none) :
    ∃ Pv : Nat → Hp → Prop, Pv 0 (upd H1 D1 (.lst [])) ∧ (∀ i H', Pv i H' → Fr H1 (ownS fp1) H' ∧ ((imps cs || imp x) = false → Ext H1 H')) ∧
      (∀ i d v H' H5, its[i]? = some d → Pv i H' → Ext H' H5 → (∀ A', Mv (avS P fp1) H1 A' H5 → (∀ a, A' a → H' a ≠ none) → Rep K cl A' H5 d v) → Turn1 cl cx T K tg cs x vs σV v H5 (fun y H4 => ∃ acc, H4 D1 = some (.lst acc) ∧ acc.length < sizeLine ∧ Pv (i + 1) (upd H4 D1 (.lst (acc ++ [y])))) (Pv (i + 1))) ∧
      (∀ H', Pv its.length H' → Q (.ref D1) H') := by
  have e0 : ∀ v ∈ vs, fp1 v = [] := fun v hv => R1.free (ef v hv)
  have hX := fresh_X R1 hD
  refine ⟨fun i H' => ∃ fp' τ accD accV, Rel K cl (P.plus D1) fp' τ (L2.wipe σV vs) H' ∧ Sub fp' fp1 ∧ Fr H1 (ownS fp1) H' ∧ ((imps cs || imp x) = false → τ = wipeD σ1 vs ∧ fp' = fp1 ∧ Ext H1 H') ∧ H' D1 = some (.lst accV) ∧
      Reps K cl (avS (P.plus D1) fp') H' accD accV ∧ accD.length ≤ i ∧ (∀ j ∈ vs, τ.at j = none) ∧ compGo (compF T tg cs x vs) (its.drop i) τ accD = .ok (acc, σ2), ?_, ?_, ?_, ?_⟩
  · have Rp := (R1.wipe e0).plus (o := .lst []) hD
    have ex : Ext H1 (upd H1 D1 (.lst [])) := Ext.new hD
    exact ⟨fp1, wipeD σ1 vs, [], [], Rp, fun _ _ z => z, Fr.of ex, fun _ => ⟨rfl, rfl, ex⟩, upd_same, .nil, Nat.le_refl _, fun j hj => by rw [wipeD_at, if_pos hj], hgo⟩
  · rintro i H' ⟨fp', τ, accD, accV, R', s', f', p', _⟩
    exact ⟨f', fun z => (p' z).2.2⟩
  · rintro i d v H0' H' hd ⟨fp', τ, accD, accV, R0', s', f0', p0', hD0', racc0, lacc, ew, go⟩ t rdA
    have R' := R0'.ext t
    have f' : Fr H1 (ownS fp1) H' := f0'.trans (Fr.of (O := noA) t) fun _ z => z.elim
    have p' : (imps cs || imp x) = false → τ = wipeD σ1 vs ∧ fp' = fp1 ∧ Ext H1 H' := fun z => ⟨(p0' z).1, (p0' z).2.1, (p0' z).2.2.trans t⟩
    have hD' := t.keep _ _ hD0' nt_lst
    have racc := racc0.mv (Mv.ext t)
    have li : i < its.length := (List.getElem?_eq_some_iff.mp hd).1
    rw [list_get_drop hd] at go
    obtain ⟨y, τ', hy, go⟩ := compGo_cons go
    have e' : ∀ v ∈ vs, fp' v = [] := fun v hv => by
      cases q2 : fp' v with
      | nil => rfl
      | cons a r =>
        have := s' v a (by rw [q2]; exact List.mem_cons_self)
        rw [e0 v hv] at this; cases this
    have mD : Mv (avS P fp1) H1 (avS (P.plus D1) fp') H' := ⟨fun b o hb nt n => f'.keep b o hb nt fun z => n (.inr z), fun a z => by
      rcases plus_av D1 a z with z | z
      · exact .inl (sub_av s' a z)
      · rw [z]; exact .inr hD⟩
    have next : ∀ (fp3 : Fp) (H4 : Hp), Rel K cl (P.plus D1) fp3 τ' (L2.wipe σV vs) H4 → Sub fp3 fp' → Fr H' (ownS fp') H4 → H4 D1 = some (.lst accV) := fun fp3 H4 R3 s3 f3 => f3.keep D1 _ hD' nt_lst fun ⟨j, z⟩ => R'.noX j D1 z (.inr rfl)
    have frs : ∀ (fp3 : Fp) (H4 : Hp), Fr H' (ownS fp') H4 → Fr H1 (ownS fp1) H4 := fun fp3 H4 f3 => f'.trans f3 fun a z => .inl (sub_own s' a z)
    have eτ : ∀ j ∈ vs, τ'.at j = none := by
      intro j hj
      obtain ⟨τ1, e1, hy⟩ := DD.R.bind_eq_ok hy
      obtain ⟨⟨bv, τ2⟩, e2, hy⟩ := DD.R.bind_eq_ok hy
      obtain ⟨b, hb, hy⟩ := DD.R.bind_eq_ok hy
      cases b with
      | false => cases hy; rw [wipeD_at, if_pos hj]
      | true =>
        obtain ⟨⟨yv, τ3⟩, e3, hy⟩ := DD.R.bind_eq_ok hy
        obtain ⟨yd, hk, hy⟩ := DD.R.bind_eq_ok hy
        cases hy
        rw [wipeD_at, if_pos hj]
    refine comp_turn R' e' ew ht (rdA _ mD R0'.trk) one hy (fun yd w fp3 H4 ey R3 s3 f3 i3 rw => ?_) fun fp3 H4 ey R3 s3 f3 i3 => ?_
    · subst ey
      have hD4 := next fp3 H4 R3 s3 f3
      have m4 : Mv (avS (P.plus D1) fp') H' (avS (P.plus D1) fp3) H4 := mv_sub s3 f3
      have lv : accV.length < sizeLine := by rw [line_eq, ← racc.length]; omega
      have avD : avS (P.plus D1) fp3 D1 := .inl (.inr rfl)
      refine ⟨accV, hD4, lv, fp3, τ', accD ++ [yd], accV ++ [w], ?_, fun i a z => s' i a (s3 i a z), (frs fp3 H4 f3).upd hD4 nt_lst nx_lst (fun u z => by rw [hD] at z; cases z), fun z => ?_, upd_same, ?_, by rw [List.length_append]; exact Nat.succ_le_succ lacc, eτ, go⟩
      · -- the list at D1 is no slot's
        have m : Mv (avS (P.plus D1) fp3) H4 (avS (P.plus D1) fp3) (upd H4 D1 (.lst (accV ++ [w]))) := ⟨fun b u h _ n => by
          rw [upd_ne fun z => n (by rw [z]; exact avD)]; exact h, fun a h => .inl h⟩
        refine ⟨R3.len, fun j => ?_, R3.dis, R3.noX, fun a z => ?_, R3.bX, R3.fr0.upd hD4 nt_lst nx_lst (fresh_H0 R1 hD), R3.new, R3.tb⟩
        · have q := R3.sl j
          have nf : ∀ a ∈ fp3 j, a ≠ D1 := fun a h z => R3.noX j a h (.inr z)
          generalize Sg.at τ' j = x at q ⊢
          generalize ((L2.wipe σV vs)[j]?).join = y at q ⊢
          cases q with
          | none n => exact .none n
          | dat r n => exact .dat (r.mv m) n
          | own c => exact .own (c.mv m fun a ha u h _ => by rw [upd_ne (nf a ha)]; exact h)
          | ino c n => exact .ino (c.mv m fun a ha u h _ => by rw [upd_ne (nf a ha)]; exact h) n
          | brw c f n => exact .brw (c.mv m fun a ha u h _ => by rw [upd_ne fun z => hX (by rw [← z]; exact R1.bX a (f a ha))]; exact h) f n
        · by_cases q : a = D1
          · rw [q, upd_same]; exact fun z => nomatch z
          · rw [upd_ne q]; exact R3.trX a z
      · obtain ⟨a1, a2, a3⟩ := p' z
        obtain ⟨b1, b2, b3⟩ := i3 z
        exact ⟨b1.trans a1, b2.trans a2, (a3.trans b3).upd hD4 nt_lst nx_lst hD⟩
      · have m : Mv (avS (P.plus D1) fp3) H4 (avS (P.plus D1) fp3) (upd H4 D1 (.lst (accV ++ [w]))) := ⟨fun b u h _ n => by
          rw [upd_ne fun z => n (by rw [z]; exact avD)]; exact h, fun a h => .inl h⟩
        exact ((racc.mv m4).snoc rw).mv m
    · subst ey
      refine ⟨fp3, τ', accD, accV, R3, fun i a z => s' i a (s3 i a z), frs fp3 H4 f3, fun z => ?_, next fp3 H4 R3 s3 f3, racc.mv (mv_sub s3 f3), Nat.le_succ_of_le lacc, eτ, go⟩
      obtain ⟨a1, a2, a3⟩ := p' z
      obtain ⟨b1, b2, b3⟩ := i3 z
      exact ⟨b1.trans a1, b2.trans a2, a3.trans b3⟩
  · rintro H' ⟨fp', τ, accD, accV, R', s', f', p', hD', racc, lacc, ew, go⟩
    rw [List.drop_length] at go
    cases go
    have R2 : Rel K cl P fp' (putBack σ2 σ1 vs) σV H' := Rel.back R1 (R'.weak R1.bX) s' f' e0
    refine h fp' _ H' R2 s' f' (fun z => ?_) (.rs ⟨[D1], .lst hD' (racc.mv (Mv.less fun a z => ?_)) (by omega), fun a ha z => ?_, fun a ha => ?_⟩)
    · obtain ⟨a1, a2, a3⟩ := p' (hpu z)
      refine ⟨at_ext (by rw [putBack_len, a1, wipeD_len]) fun j => ?_, a2, a3⟩
      rw [putBack_at (by rw [a1, wipeD_len])]
      by_cases hj : j ∈ vs
      · rw [if_pos hj]
      · rw [if_neg hj, a1, wipeD_at, if_neg hj]
    · rcases z with z | z
      · exact av_plus D1 a z
      · exact .inl (.inr (List.mem_singleton.mp z))
    · cases List.mem_singleton.mp ha
      exact fresh_own R1 hD s' z
    · cases List.mem_singleton.mp ha
      exact fresh_new R1 hD
theorem comp_core {tg : Tg} {cs : Es} {x : E} {vs : List Nat} {its acc : List D} {xs : List V} {σ2 : Sg} {e : E} {pu : Bool} (R1 : Rel K cl P fp1 σ1 σV H1) (ef : ∀ v ∈ vs, freeAt σ1 v = true) (ht : ∀ i ∈ tgSlots tg, i ∈ vs)
    (one : ∀ e f r, cs ≠ .cons e (.cons f r)) (items : Reps K cl (avS P fp1) H1 its xs) (lim : its.length ≤ 16777216) (hgo : compGo (compF T tg cs x vs) its (wipeD σ1 vs) [] = .ok (acc, σ2))
    (hpu : pu = false → (imps cs || imp x) = false)
    (h : Post K cl cx W P σV fp1 H1 σ1 pu (RSe K cl P σV e) (.ok ((.own, .lst acc), putBack σ2 σ1 vs)) Q) {D1 : Addr} (hD : H1 D1 = none) :
    ∃ Pv : Nat → Hp → Prop, Pv 0 (upd H1 D1 (.lst [])) ∧ (∀ i H', Pv i H' → Fr H1 (ownS fp1) H' ∧ ((imps cs || imp x) = false → Ext H1 H')) ∧
      (∀ i v H', xs[i]? = some v → Pv i H' → Turn1 cl cx T K tg cs x vs σV v H' (fun y H4 => ∃ acc, H4 D1 = some (.lst acc) ∧ acc.length < sizeLine ∧ Pv (i + 1) (upd H4 D1 (.lst (acc ++ [y])))) (Pv (i + 1))) ∧
      (∀ H', Pv xs.length H' → Q (.ref D1) H') := by
  obtain ⟨Pv, p0, p1, p2, p3⟩ := comp_coreG R1 ef ht one lim hgo hpu h hD
  refine ⟨Pv, p0, p1, fun i v H' hv q => ?_, fun H' q => p3 H' (by rw [items.length]; exact q)⟩
  obtain ⟨d, hd, rd⟩ := items.getV hv
  exact p2 i d v H' H' hd q (Ext.refl H') fun A' m _ => rd.mv m
end
end DD
namespace DD
open L2 PyProof.Rows PySem PySem.Spec
variable [TabT]
section
variable {cl cx : Nat → Addr} {T : Tb} {M : Nm} {W : XK} {sc : Scope} {fb : Str → Bool} {X : Cx} {k : Nat}
variable {K : PySem.W.Frag} {P : Px} {σV : L2.St} {fp fp1 : Fp} {H H1 : Hp} {σ σ1 : Sg} {Q : VK}
theorem RepF.look {A : AS} : ∀ {fs : List (Str × D)} {gs : List (Str × V)} {f : Str} {d : D}, RepF K cl A H fs gs → fs.lookup f = some d → ∃ v, gs.lookup f = some v ∧ Rep K cl A H (nrmD d) v
  | _, _, f, d, .nil, h => by cases h
  | _, _, f, d, .cons (k := k) (d := d0) (v := v0) r q, h => by
    rw [List.lookup_cons] at h ⊢
    cases e : f == k with
    | true =>
      rw [e] at h
      cases h
      refine ⟨v0, rfl, ?_⟩
      cases r <;> first | exact .non | exact .bl _ | exact .int _ | exact .str _ | exact .tup ‹_› ‹_› ‹_› | exact .lst ‹_› ‹_› ‹_› ‹_› | exact .dct ‹_› ‹_› ‹_› | exact .obj ‹_› ‹_› ‹_› | exact .scr ‹_›
    | false =>
      rw [e] at h
      exact RepF.look q h
  | _, _, f, d, .odc (k := k) (a := a0) t r l q, h => by
    rw [List.lookup_cons] at h ⊢
    cases e : f == k with
    | true =>
      rw [e] at h
      cases h
      exact ⟨.ref a0, rfl, .dct t r l⟩
    | false =>
      rw [e] at h
      exact RepF.look q h
theorem CellF.look {A : AS} : ∀ {fs : List (Str × D)} {gs : List (Str × V)} {fr : List Addr} {f : Str} {d : D}, CellF K cl A H fs gs fr → fs.lookup f = some d →
    (isOdc d = false ∧ ∃ v, gs.lookup f = some v ∧ Rep K cl A H (nrmD d) v) ∨ (isOdc d = true ∧ ∃ a, gs.lookup f = some (.ref a) ∧ a ∈ fr ∧ Cell K cl A H (nrmD d) (.ref a) [a])
  | _, _, _, f, d, .nil, h => by cases h
  | _, _, _, f, d, .dat (k := k) (d := d0) (v := v0) r q, h => by
    rw [List.lookup_cons] at h ⊢
    cases e : f == k with
    | true =>
      rw [e] at h
      cases h
      refine .inl ⟨by cases r <;> rfl, v0, rfl, ?_⟩
      cases r <;> first | exact .non | exact .bl _ | exact .int _ | exact .str _ | exact .tup ‹_› ‹_› ‹_› | exact .lst ‹_› ‹_› ‹_› ‹_› | exact .dct ‹_› ‹_› ‹_› | exact .obj ‹_› ‹_› ‹_› | exact .scr ‹_›
    | false =>
      rw [e] at h
      exact CellF.look q h
  | _, _, _, f, d, .own (k := k) (a := a0) t r l z q, h => by
    rw [List.lookup_cons] at h ⊢
    cases e : f == k with
    | true =>
      rw [e] at h
      cases h
      exact .inr ⟨rfl, a0, rfl, List.mem_cons_self, .dct t r l⟩
    | false =>
      rw [e] at h
      rcases CellF.look q h with ⟨h1, v, h2, h3⟩ | ⟨h1, a, h2, h3, h4⟩
      · exact .inl ⟨h1, v, h2, h3⟩
      · exact .inr ⟨h1, a, h2, List.mem_cons_of_mem _ h3, h4⟩
theorem RepF.names {A : AS} : ∀ {fs : List (Str × D)} {gs : List (Str × V)}, RepF K cl A H fs gs → fs.map (·.1) = gs.map (·.1)
  | _, _, .nil => rfl
  | _, _, .cons _ q => by rw [List.map_cons, List.map_cons, q.names]
  | _, _, .odc _ _ _ q => by rw [List.map_cons, List.map_cons, q.names]
theorem CellF.names {A : AS} : ∀ {fs : List (Str × D)} {gs : List (Str × V)} {fr : List Addr}, CellF K cl A H fs gs fr → fs.map (·.1) = gs.map (·.1)
  | _, _, _, .nil => rfl
  | _, _, _, .dat _ q => by rw [List.map_cons, List.map_cons, q.names]
  | _, _, _, .own _ _ _ _ q => by rw [List.map_cons, List.map_cons, q.names]
theorem look_none {α β : Type} : ∀ {fs : List (Str × α)} {gs : List (Str × β)} {m : Str}, fs.map (·.1) = gs.map (·.1) → fs.lookup m = none → gs.lookup m = none
  | [], [], _, _, _ => rfl
  | (a, x) :: fs, (b, y) :: gs, m, e, h => by
    injection e with e1 e2
    have e1 : a = b := e1
    subst e1
    rw [List.lookup_cons] at h ⊢
    cases q : m == a with
    | true => rw [q] at h; cases h
    | false =>
      rw [q] at h
      exact look_none e2 h
  | [], _ :: _, _, e, _ => by cases e
  | _ :: _, [], _, e, _ => by cases e
theorem nox_objF (d : D) (f : Str) : NoX (objF d f) := by
  cases d <;> first | exact nox_ofO _ | exact nox_bad
theorem objF_ok {d d' : D} {f : Str} (h : objF d f = .ok d') : ∃ c fs, d = .obj c fs ∧ fs.lookup f = some d' := by
  cases d with
  | obj c fs => exact ⟨c, fs, rfl, ofO_ok h⟩
  | _ => cases h
end
end DD
namespace DD
open L2 PyProof.Rows PySem PySem.Spec
variable [TabT]
/-- nothing but the dict at d differs, and it has the same contents -/
structure Sim (d : Addr) (ks : List (Key × V)) (H H' : Hp) : Prop where
  out : ∀ b, b ≠ d → H' b = H b
  at1 : Rd H d (.dK ks)
  at2 : Rd H' d (.dK ks)
section
variable {K : PySem.W.Frag} {cl : Nat → Addr} {A : AS} {H H' : Hp} {d : Addr} {ks : List (Key × V)}
theorem Sim.symm (s : Sim d ks H H') : Sim d ks H' H := ⟨fun b n => (s.out b n).symm, s.at2, s.at1⟩
theorem Sim.no {u : HO} (s : Sim d ks H H') (n : ∀ k, u ≠ .dK k) (n2 : ∀ o k, u ≠ .frz o (.dK k)) {a : Addr} (h : H a = some u) : a ≠ d := fun z => by
  rw [z] at h
  rcases s.at1 with q | ⟨o, q⟩
  · rw [h] at q; exact n ks (Option.some.inj q)
  · rw [h] at q; exact n2 o ks (Option.some.inj q)
theorem Sim.rd {u : HO} (s : Sim d ks H H') (n : ∀ k, u ≠ .dK k) (n2 : ∀ o k, u ≠ .frz o (.dK k)) {a : Addr} (h : Rd H a u) : Rd H' a u := by
  rcases h with h | ⟨o, h⟩
  · exact .inl (by rw [s.out a (s.no n n2 h)]; exact h)
  · refine .inr ⟨o, ?_⟩
    rw [s.out a (s.no (by intro _ z; cases z) (fun o' k z => by injection z with z1 z2; exact n k z2) h)]
    exact h
theorem Sim.tup (s : Sim d ks H H') {a : Addr} {vs : List V} (h : TupAt K A H a vs) : TupAt K A H' a vs := by
  rcases h with ⟨h, n⟩ | h
  · exact .inl ⟨s.rd (by intro _ z; cases z) (by intro _ _ z; cases z) h, n⟩
  · exact .inr h
theorem Sim.scr (s : Sim d ks H H') {a : Addr} {ns : List Int} (h : ScrAt K A H a ns) : ScrAt K A H' a ns := by
  rcases h with ⟨h, n⟩ | h
  · exact .inl ⟨s.rd (by intro _ z; cases z) (by intro _ _ z; cases z) h, n⟩
  · exact .inr h
theorem rd_same {a : Addr} {k k' : List (Key × V)} (h : Rd H a (.dK k)) (h' : Rd H a (.dK k')) : k = k' := by
  rcases h with h | ⟨o, h⟩ <;> rcases h' with h' | ⟨o', h'⟩ <;> rw [h] at h' <;> first | (cases h'; rfl) | cases h'
theorem Sim.dct (s : Sim d ks H H') {a : Addr} {k : List (Key × V)} (h : DctAt K A H a k) : DctAt K A H' a k := by
  refine ⟨?_, h.2⟩
  by_cases z : a = d
  · subst z
    rw [rd_same h.1 s.at1]
    exact s.at2
  · rcases h.1 with q | ⟨o, q⟩
    · exact .inl (by rw [s.out a z]; exact q)
    · exact .inr ⟨o, by rw [s.out a z]; exact q⟩
theorem Sim.at (s : Sim d ks H H') {u : HO} (n : ∀ k, u ≠ .dK k) (n2 : ∀ o k, u ≠ .frz o (.dK k)) {a : Addr} (h : H a = some u) : H' a = some u := by
  rw [s.out a (s.no n n2 h)]; exact h
mutual
theorem Rep.sim (s : Sim d ks H H') : ∀ {x : D} {v : V}, Rep K cl A H x v → Rep K cl A H' x v
  | _, _, .non => .non
  | _, _, .bl b => .bl b
  | _, _, .int i => .int i
  | _, _, .str s => .str s
  | _, _, .tup t r l => .tup (s.tup t) (Reps.sim s r) l
  | _, _, .lst h n r l => .lst (s.at (by intro _ z; cases z) (by intro _ _ z; cases z) h) n (Reps.sim s r) l
  | _, _, .dct t r l => .dct (s.dct t) (RepK.sim s r) l
  | _, _, .obj h n r => .obj (s.at (by intro _ z; cases z) (by intro _ _ z; cases z) h) n (RepF.sim s r)
  | _, _, .scr t => .scr (s.scr t)
theorem Reps.sim (s : Sim d ks H H') : ∀ {ds : List D} {vs : List V}, Reps K cl A H ds vs → Reps K cl A H' ds vs
  | _, _, .nil => .nil
  | _, _, .cons h r => .cons (Rep.sim s h) (Reps.sim s r)
theorem RepK.sim (s : Sim d ks H H') : ∀ {ds : List (Key × D)} {vs : List (Key × V)}, RepK K cl A H ds vs → RepK K cl A H' ds vs
  | _, _, .nil => .nil
  | _, _, .cons h r => .cons (Rep.sim s h) (RepK.sim s r)
theorem RepF.sim (s : Sim d ks H H') : ∀ {ds : List (Str × D)} {vs : List (Str × V)}, RepF K cl A H ds vs → RepF K cl A H' ds vs
  | _, _, .nil => .nil
  | _, _, .cons h r => .cons (Rep.sim s h) (RepF.sim s r)
  | _, _, .odc t r l q => .odc (s.dct t) (RepK.sim s r) l (RepF.sim s q)
end
theorem CellF.sim (s : Sim d ks H H') : ∀ {fs : List (Str × D)} {gs : List (Str × V)} {fr : List Addr}, CellF K cl A H fs gs fr → d ∉ fr → CellF K cl A H' fs gs fr
  | _, _, _, .nil, _ => .nil
  | _, _, _, .dat r q, n => .dat (r.sim s) (CellF.sim s q n)
  | _, _, _, .own h r l z q, n => .own (by rw [s.out _ fun w => n (by rw [w]; exact List.mem_cons_self)]; exact h) (r.sim s) l z (CellF.sim s q fun w => n (List.mem_cons_of_mem _ w))
theorem Cell.sim (s : Sim d ks H H') {x : D} {v : V} {fr : List Addr} (h : Cell K cl A H x v fr) (n : d ∉ fr) : Cell K cl A H' x v fr := by
  cases h with
  | lst h r l => exact .lst (s.at (by intro _ z; cases z) (by intro _ _ z; cases z) h) (r.sim s) l
  | dct h r l => exact .dct (by rw [s.out _ fun w => n (List.mem_singleton.mpr w.symm)]; exact h) (r.sim s) l
  | obj h q z => exact .obj (s.at (by intro _ z; cases z) (by intro _ _ z; cases z) h) (q.sim s fun w => n (List.mem_cons_of_mem _ w)) z
end
section
variable {K : PySem.W.Frag} {cl cx : Nat → Addr} {W : XK} {P P' : Px} {σV σV' : L2.St} {fp fp' : Fp} {H H' H1 : Hp} {σ σ' : Sg} {d : Addr} {ks : List (Key × V)} {A : AS}
def Px.now (P : Px) (H : Hp) (fp : Fp) : Px := { P with H0 := H, O0 := ownS fp }
theorem SlR.px {P' : Px} {A : AS} {i : Nat} {f : List Addr} {x : Sl} {y : Option V} (s : SlR K cl P A H i f x y) (hB : P'.B = P.B) (hv : P'.vs = P.vs) : SlR K cl P' A H i f x y := by
  cases s with
  | none n => exact .none n
  | dat r n => exact .dat r n
  | own c => exact .own c
  | ino c n => exact .ino c (by rw [hv]; exact n)
  | brw c n f => exact .brw c (by rw [hB]; exact n) f
theorem Rel.now (R : Rel K cl P fp σ σV H) : Rel K cl (P.now H fp) fp σ σV H :=
  ⟨R.len, fun i => (R.sl i).px rfl rfl, R.dis, R.noX, R.trX, R.bX, Fr.refl _ _, fun _ h => .inl h, R.tabs⟩
theorem SlR.sim {i : Nat} {f : List Addr} {x : Sl} {y : Option V} (s : Sim d ks H H') (h : SlR K cl P A H i f x y) (hB : P'.B = P.B) (hv : P'.vs = P.vs) (n : d ∉ f) (nB : ¬ P.B d) : SlR K cl P' A H' i f x y := by
  cases h with
  | none n => exact .none n
  | dat r n => exact .dat (r.sim s) n
  | own c => exact .own (c.sim s n)
  | ino c q => exact .ino (c.sim s n) (by rw [hv]; exact q)
  | brw c q e => exact .brw (c.sim s fun z => nB (q d z)) (by rw [hB]; exact q) e
/-- locked -/
abbrev lockH (H : Hp) (d : Addr) (od : Obj) (ks : List (Key × V)) : Hp := upd H d (.frz od (.dK ks))
abbrev unlockH (H : Hp) (d : Addr) (ks : List (Key × V)) : Hp := upd H d (.dK ks)
theorem unlockH_same {H : Hp} {d : Addr} {ks : List (Key × V)} : unlockH H d ks d = some (.dK ks) := upd_same
theorem unlockH_ne {H : Hp} {d b : Addr} {ks : List (Key × V)} (n : b ≠ d) : unlockH H d ks b = H b := upd_ne n
theorem lockH_same {H : Hp} {d : Addr} {od : Obj} {ks : List (Key × V)} : lockH H d od ks d = some (.frz od (.dK ks)) := upd_same
theorem lockH_ne {H : Hp} {d b : Addr} {od : Obj} {ks : List (Key × V)} (n : b ≠ d) : lockH H d od ks b = H b := upd_ne n
theorem sim_lock {od : Obj} (h : H d = some (.dK ks)) : Sim d ks H (lockH H d od ks) := ⟨fun b n => upd_ne n, .inl h, .inr ⟨od, upd_same⟩⟩
theorem sim_unlock {od : Obj} (h : H d = some (.frz od (.dK ks))) : Sim d ks H (upd H d (.dK ks)) := ⟨fun b n => upd_ne n, .inr ⟨od, h⟩, .inl upd_same⟩
theorem tabs_lock {od : Obj} (h : H d = some (.dK ks)) (t : TabsK H) : TabsK (lockH H d od ks) := tabs_upd h nt_dK nx_dK t
theorem tabs_unlock {od : Obj} (h : H d = some (.frz od (.dK ks))) (t : TabsK H) : TabsK (upd H d (.dK ks)) := tabs_upd h nt_frz (fun _ z => nomatch z) t
theorem Rel.lock {od : Obj} (R : Rel K cl P fp σ σV H) (h : H d = some (.dK ks)) (n : ¬ avS P fp d) : Rel K cl (P.now (lockH H d od ks) fp) fp σ σV (lockH H d od ks) :=
  ⟨R.len, fun i => (R.sl i).sim (sim_lock h) rfl rfl (fun z => n (.inr ⟨i, z⟩)) fun z => n (.inl (R.bX d z)), R.dis, R.noX, fun a ha => there_upd (R.trX a ha), R.bX, Fr.refl _ _, fun a h => .inl h, tabs_lock h R.tabs⟩
/-- the passage within, seen from without -/
theorem Fr.unlock {od : Obj} {O : AS} (f : Fr (lockH H d od ks) O H') (h : H d = some (.dK ks)) (n : ¬ O d) : Fr H O (unlockH H' d ks) := by
  have e : H' d = some (.frz od (.dK ks)) := f.keep d _ upd_same nt_frz n
  refine ⟨fun b u hb nt nb => ?_, fun b hb nb => there_upd (f.there b (there_upd hb) nb), fun t => tabs_unlock e (f.tabs (tabs_lock h t))⟩
  by_cases z : b = d
  · rw [z, h] at hb
    rw [z, unlockH_same]; exact hb
  · rw [unlockH_ne z]
    exact f.keep b u (by rw [lockH_ne z]; exact hb) nt nb
theorem Ext.unlock {od : Obj} (f : Ext (lockH H d od ks) H') (h : H d = some (.dK ks)) : Ext H (unlockH H' d ks) := Fr.ext (Fr.unlock (Fr.of (O := noA) f) h id)
theorem own_lock {od : Obj} (n : ¬ avS P fp d) (R' : Rel K cl (P.now (lockH H d od ks) fp) fp' σ' σV' H') : ¬ ownS fp' d := fun z => by
  rcases R'.new d z with w | w
  · exact n (.inr w)
  · have w : lockH H d od ks d = none := w
    rw [lockH_same] at w
    cases w
theorem Rel.unlock {od : Obj} (R : Rel K cl P fp σ σV H) (h : H d = some (.dK ks)) (n : ¬ avS P fp d) (R' : Rel K cl (P.now (lockH H d od ks) fp) fp' σ' σV' H') : Rel K cl P fp' σ' σV' (upd H' d (.dK ks)) := by
  have no := own_lock n R'
  have e : H' d = some (.frz od (.dK ks)) := R'.fr0.keep d _ upd_same nt_frz fun z => n (.inr z)
  refine ⟨R'.len, fun i => (R'.sl i).sim (sim_unlock e) rfl rfl (fun z => no ⟨i, z⟩) fun z => n (.inl (R.bX d z)), R'.dis, R'.noX, fun a ha => there_upd (R'.trX a ha), R'.bX, ?_, fun a z => ?_, R.tb⟩
  · exact R.fr0.trans (R'.fr0.unlock h fun z => n (.inr z)) fun a z => R.new a z
  · rcases R'.new a z with w | w
    · exact R.new a w
    · refine fresh_new R ?_
      by_cases q : a = d
      · rw [q] at z; exact absurd z no
      · have w : lockH H d od ks a = none := w
        rw [lockH_ne q] at w
        exact w
theorem Rs.sim {Z : AS} {x : Fl × D} {v : V} (s : Sim d ks H H') (h : Rs K cl Z A H x v) (n : ∀ fr : List Addr, (∀ a ∈ fr, Z a) → d ∉ fr) : Rs K cl Z A H' x v := by
  obtain ⟨f, y⟩ := x
  cases f with
  | dat => exact Rep.sim s h
  | own =>
    obtain ⟨fr, c, n1, n2⟩ := h
    exact ⟨fr, c.sim s (n fr n2), n1, n2⟩
  | ino => exact h.elim
  | brw => exact h.elim
/-- the reading of a slot, exact -/
def rIxD (K : PySem.W.Frag) : R2 := fun x y H Q => rIx K x y H Q ∨ ∃ a v, x = .ref a ∧ DGet H a y (some v) ∧ Q v H
def tSlot (K : PySem.W.Frag) : E → TE
  | .var i => tVar i
  | .fld (.var i) f => tFld K (tVar i) f
  | .idx x (.int n) => tOp (rIxD K) (tSlot K x) (tC (.int n))
  | _ => fun _ _ _ => False
def isCont : D → Bool
  | .tup _ => true
  | .lst _ => true
  | .dct _ => true
  | _ => false
theorem idx_path {dx r : D} {n : Int} {x : V} (hx : Lk K cl A H dx x) (hb : idxD dx (.int n) = .ok r) (hc : isCont r = true) :
    isCont dx = true ∧ ∃ v, Rep K cl A H r v ∧ ∀ (d0 : Addr) (ks : List (Key × V)) (H' : Hp) (Rr : VK), Sim d0 ks H H' → Rr v H' → rIxD K x (.int n) H' Rr := by
  cases hx with
  | @tup ds a vs t rr l =>
    obtain ⟨v, e1, h1⟩ := rr.atI (ofO_ok hb)
    exact ⟨rfl, v, h1, fun d0 ks H' Rr sm q => .inl (.inr (.inl ⟨a, vs, n, v, rfl, rfl, (sm.tup t).sq, e1, q⟩))⟩
  | @lst ds a vs t rr l =>
    obtain ⟨v, e1, h1⟩ := rr.atI (ofO_ok hb)
    exact ⟨rfl, v, h1, fun d0 ks H' Rr sm q => .inl (.inl ⟨a, vs, n, v, rfl, rfl, SqL.of (sm.at (by intro _ z; cases z) (by intro _ _ z; cases z) t), e1, q⟩)⟩
  | @scr ns a t =>
    have e1 := ofO_ok hb
    cases q2 : L2.atI ns n with
    | none => rw [q2] at e1; cases e1
    | some m => rw [q2] at e1; cases e1; cases hc
  | str z =>
    obtain ⟨hl, hb⟩ := ifok hb
    have e1 := ofO_ok hb
    cases q2 : L2.atI z.cps.toList n with
    | none => rw [q2] at e1; cases e1
    | some c => rw [q2] at e1; cases e1; cases hc
  | @dct kvs a ks t rr l =>
    obtain ⟨k, e1, hb⟩ := DD.R.bind_eq_ok (x := ofO (keyD (.int n))) hb
    have e1 := ofO_ok e1
    have e2 := ofO_ok hb
    have ev : V.int n = kV k := (Lk.int n : Lk K cl A H (.int n) (.int n)).key e1
    rcases rr.val (k := k) with ⟨e3, _⟩ | ⟨d', v', e3, e4, h4⟩
    · rw [e3] at e2; cases e2
    · rw [e3] at e2; cases e2
      refine ⟨rfl, v', h4, fun d0 ks0 H' Rr sm q => .inr ⟨a, v', rfl, .inl ⟨ks, k, ?_, ev, e4.symm⟩, q⟩⟩
      by_cases z : a = d0
      · subst z
        rw [rd_same t sm.at1]
        exact sm.at2
      · rcases t with q | ⟨o, q⟩
        · exact .inl (by rw [sm.out a z]; exact q)
        · exact .inr ⟨o, by rw [sm.out a z]; exact q⟩
  | _ => cases hb
theorem ev_varR {T : Tb} {i : Nat} {x : Fl × D} {τ : Sg} (h : ev T (.var i) σ = .ok (x, τ)) : τ = σ ∧ ∃ fl, σ.at i = some (fl, x.2) ∧ (fl = .dat → x.1 = .dat) ∧ (fl ≠ .dat → x.1 = .brw) := by
  rw [ev] at h
  split at h
  · rename_i y e; cases h; exact ⟨rfl, .dat, e, (fun _ => rfl), fun z => absurd rfl z⟩
  · rename_i fl y n e; cases h; exact ⟨rfl, fl, e, (fun z => by subst z; exact absurd rfl n), fun _ => rfl⟩
  · cases h
/-- a place of what lies in a slot -/
theorem path_read {T : Tb} (R : Rel K cl P fp σ σV H) (e : E) {f : Fl} {dd : D} {σ1 : Sg} (he : pathE e = true) (hv : ev T e σ = .ok ((f, dd), σ1)) (hc : isCont dd = true) :
    σ1 = σ ∧ ∃ v, Lk K cl (avS P fp) H dd v ∧ (isVar e = false → Rep K cl (avS P fp) H dd v) ∧ ∀ (d0 : Addr) (ks : List (Key × V)) (H' : Hp) (Rr : VK), Sim d0 ks H H' → Rr v H' → tSlot K e σV H' Rr := by
  cases e with
  | var i =>
    obtain ⟨e1, fl, e2, _⟩ := ev_varR hv
    refine ⟨e1, ?_⟩
    have s := R.at i
    rw [show σ.at i = some (fl, dd) from e2] at s
    generalize hy : vAt σV i = y at s
    have fin : ∀ {v : V}, y = some v → Lk K cl (avS P fp) H dd v → ∃ v, Lk K cl (avS P fp) H dd v ∧ (isVar (.var i) = false → Rep K cl (avS P fp) H dd v) ∧ ∀ (d0 : Addr) (ks : List (Key × V)) (H' : Hp) (Rr : VK), Sim d0 ks H H' → Rr v H' → tSlot K (.var i) σV H' Rr := fun {v} ey l =>
      ⟨v, l, (fun z => nomatch z), fun d0 ks H' Rr _ q => ⟨v, vAt_some.mp (hy.trans ey), q⟩⟩
    cases s with
    | dat r _ => exact fin rfl r.lk
    | own c => exact fin rfl c.lk
    | ino c _ => exact fin rfl c.lk
    | brw c _ _ => exact fin rfl c.lk
  | idx x y =>
   cases y with
   | int n =>
    rw [ev] at hv
    obtain ⟨⟨w, τ⟩, h1, hv1⟩ := DD.R.bind_eq_ok hv
    obtain ⟨_, _, hv2⟩ := DD.R.bind_eq_ok hv1
    obtain ⟨⟨u, τ2⟩, h2, hv3⟩ := DD.R.bind_eq_ok hv2
    rw [ev] at h2
    cases h2
    obtain ⟨dx, l1, hv4⟩ := DD.R.bind_eq_ok hv3
    have hv5 : (idxD dx (.int n) >>= fun r => DD.R.ok ((Fl.dat, r), τ)) = .ok ((f, dd), σ1) := hv4
    obtain ⟨r, hb, hv6⟩ := DD.R.bind_eq_ok hv5
    clear hv hv1 hv2 hv3 hv4 hv5
    cases hv6
    obtain ⟨wf, wd⟩ := w
    have e3 : dx = wd := by cases wf <;> first | (cases l1; rfl) | cases l1
    subst e3
    have cx : isCont dx = true := by
      cases dx <;> first | rfl | skip
      all_goals first | (cases hb; done) | skip
      · obtain ⟨hl, hb⟩ := ifok hb
        have e1 := ofO_ok hb
        cases q2 : L2.atI _ n with
        | none => rw [q2] at e1; cases e1
        | some c => rw [q2] at e1; cases e1; cases hc
      · have e1 := ofO_ok hb
        cases q2 : L2.atI _ n with
        | none => rw [q2] at e1; cases e1
        | some c => rw [q2] at e1; cases e1; cases hc
    obtain ⟨e4, v, lv, _, rd⟩ := path_read R x he h1 cx
    obtain ⟨_, v2, rp, rd2⟩ := idx_path lv hb hc
    exact ⟨e4, v2, rp.lk, fun _ => rp, fun d0 ks H' Rr sm q => rd d0 ks H' _ sm (rd2 d0 ks H' Rr sm q)⟩
   | _ => cases he
  | _ => cases he
termination_by e
/-- where the dict of a slot lies -/
theorem slot_dct {T : Tb} {e : E} {kvs : List (Key × D)} {σ1 : Sg} (R : Rel K cl P fp σ σV H) (he : slotE e = true) (hx : ∀ x y, e ≠ .idx x y) (hv : ev T e σ = .ok ((.dat, .dct kvs), σ1)) :
    σ1 = σ ∧ ((∃ i v, e = .var i ∧ σV[i]? = some (some v) ∧ Rep K cl (avS P fp) H (.dct kvs) v) ∨
      ∃ i f v a c dx gs w, e = .fld (.var i) f ∧ σV[i]? = some (some v) ∧ v = .ref a ∧ H a = some (.ins (cl c) dx gs) ∧ gs.lookup f = some w ∧ Rep K cl (avS P fp) H (.dct kvs) w) := by
  have var : ∀ {i : Nat} {x : Fl × D} {τ : Sg}, ev T (.var i) σ = .ok (x, τ) → τ = σ ∧ ∃ fl, σ.at i = some (fl, x.2) ∧ (fl = .dat → x.1 = .dat) ∧ (fl ≠ .dat → x.1 = .brw) := by
    intro i x τ h
    rw [ev] at h
    split at h
    · rename_i y e; cases h; exact ⟨rfl, .dat, e, (fun _ => rfl), fun z => absurd rfl z⟩
    · rename_i fl y n e; cases h; exact ⟨rfl, fl, e, (fun z => by subst z; exact absurd rfl n), fun _ => rfl⟩
    · cases h
  cases e with
  | var i =>
    obtain ⟨e1, fl, e2, e3, e4⟩ := var hv
    refine ⟨e1, .inl ?_⟩
    have s := R.at i
    rw [e2] at s
    generalize hy : vAt σV i = y at s
    cases s with
    | dat r _ => exact ⟨i, _, rfl, vAt_some.mp hy, r⟩
    | own _ => have := e4 (fun z => nomatch z); cases this
    | ino _ _ => have := e4 (fun z => nomatch z); cases this
    | brw _ _ _ => have := e4 (fun z => nomatch z); cases this
  | fld x f =>
    cases x with
    | var i =>
      rw [ev] at hv
      obtain ⟨⟨w, τ⟩, h1, hv⟩ := DD.R.bind_eq_ok hv
      obtain ⟨e1, fl, e2, e3, e4⟩ := var h1
      obtain ⟨d0, hd, hv⟩ := DD.R.bind_eq_ok hv
      obtain ⟨c, fs, e5, e6⟩ := objF_ok hd
      obtain ⟨wf, wd⟩ := w
      have e5 : wd = .obj c fs := e5
      subst e5
      have s := R.at i
      rw [show σ.at i = some (fl, .obj c fs) from e2] at s
      generalize hy : vAt σV i = y at s
      have e1 : τ = σ := e1
      subst e1
      have own : ∀ {v : V} {fr : List Addr}, Cell K cl (avS P fp) H (.obj c fs) v fr → y = some v → wf = .brw → σ1 = τ ∧ ∃ i' f' v a c dx gs w, E.fld (.var i) f = .fld (.var i') f' ∧ σV[i']? = some (some v) ∧ v = .ref a ∧ H a = some (.ins (cl c) dx gs) ∧ gs.lookup f' = some w ∧ Rep K cl (avS P fp) H (.dct kvs) w := fun c1 ey ew => by
        subst ew
        have hv : (guard (isVar (.var i)) >>= fun _ => DD.R.ok ((if isOdc d0 then Fl.brw else Fl.dat, nrmD d0), τ)) = .ok ((.dat, .dct kvs), σ1) := hv
        have hv : DD.R.ok ((if isOdc d0 then Fl.brw else Fl.dat, nrmD d0), τ) = .ok ((.dat, .dct kvs), σ1) := hv
        cases c1 with
        | obj h3 q _ =>
          rcases q.look e6 with ⟨g1, w, g2, g3⟩ | ⟨g1, _⟩
          · injection hv with hv
            injection hv with hv1 hv2
            injection hv1 with hv3 hv4
            rw [hv4] at g3
            exact ⟨hv2.symm, i, f, _, _, _, _, _, w, rfl, vAt_some.mp (hy.trans ey), rfl, h3, g2, g3⟩
          · rw [g1] at hv
            injection hv with hv
            injection hv with hv1 hv2
            injection hv1 with hv3 hv4
            cases hv3
      cases s with
      | dat r _ =>
        have ew : wf = .dat := e3 rfl
        subst ew
        have hv : DD.R.ok ((Fl.dat, nrmD d0), τ) = .ok ((.dat, .dct kvs), σ1) := hv
        cases r with
        | obj h3 _ q =>
          obtain ⟨w, g2, g3⟩ := q.look e6
          injection hv with hv
          injection hv with hv1 hv2
          injection hv1 with hv3 hv4
          rw [hv4] at g3
          exact ⟨hv2.symm, .inr ⟨i, f, _, _, _, _, _, w, rfl, vAt_some.mp hy, rfl, h3, g2, g3⟩⟩
      | own c1 =>
        obtain ⟨q1, q2⟩ := own c1 rfl (e4 (fun z => nomatch z))
        exact ⟨q1, .inr q2⟩
      | ino c1 _ =>
        obtain ⟨q1, q2⟩ := own c1 rfl (e4 (fun z => nomatch z))
        exact ⟨q1, .inr q2⟩
      | brw c1 _ _ =>
        obtain ⟨q1, q2⟩ := own c1 rfl (e4 (fun z => nomatch z))
        exact ⟨q1, .inr q2⟩
    | _ => cases he
  | idx x y => exact absurd rfl (hx x y)
  | _ => cases he
end
end DD
namespace DD
open L2 PyProof.Rows PySem PySem.Spec
variable [TabT]
section
variable {cl cx : Nat → Addr} {T : Tb} {M : Nm} {W : XK} {sc : Scope} {fb : Str → Bool} {X : Cx} {k : Nat}
variable {K : PySem.W.Frag} {P : Px} {σV : L2.St} {fp fp1 : Fp} {H H1 : Hp} {σ σ1 : Sg} {Q : VK}
theorem evs_one (e : E) (σ : Sg) : evs T (.cons e .nil) σ = (ev T e σ >>= fun p => .ok ([p.1], p.2)) := by
  rw [evs]
  cases ev T e σ with
  | ok p =>
    obtain ⟨v, τ⟩ := p
    show (guard (!(v.1 == .brw && imps .nil)) >>= fun _ => evs T .nil τ >>= fun q => R.ok (v :: q.1, q.2)) = _
    rw [show imps .nil = false from rfl, Bool.and_false, evs]
    rfl
  | exc y => rfl
  | bad => rfl
theorem src_lst {f : Fl} {ds : List D} {v : V} {e : E} {b : Bool} (R : Rel K cl P fp σ σV H) (r : Res K cl P fp σV H e (f, .lst ds) v) (l : look (f, .lst ds) = .ok (.lst ds)) (g : (f == .brw && b) = false) :
    ∃ a vs, v = .ref a ∧ H a = some (.lst vs) ∧ Reps K cl (avS P fp) H ds vs ∧ ds.length ≤ 16777216 ∧ ∀ H', Fr H (ownS fp) H' → (b = false → Ext H H') → SqL K H' a vs := by
  cases r with
  | rs r =>
    cases f with
    | dat =>
      have r : Rep K cl (avS P fp) H (.lst ds) v := r
      cases r with
      | lst h1 n r2 l2 => exact ⟨_, _, rfl, h1, r2, l2, fun H' f _ => SqL.of (f.keep _ _ h1 nt_lst fun z => n (.inr z))⟩
    | own =>
      have r0 := r
      have rp := (Rs.rep (x := (.own, .lst ds)) r0)
      cases rp with
      | lst h1 n1 r2 l2 => exact ⟨_, _, rfl, h1, r2, l2, fun H' f _ => SqL.of (f.keep _ _ h1 nt_lst fun z => n1 (.inr z))⟩
    | ino => exact (show False from r).elim
    | brw => exact (show False from r).elim
  | brw c _ =>
    have hb : b = false := by cases b <;> first | rfl | cases g
    cases c with
    | lst h1 r l => exact ⟨_, _, rfl, h1, r, l, fun H' _ i => SqL.of ((i hb).keep _ _ h1 nt_lst)⟩
theorem src_tup {f : Fl} {ds : List D} {v : V} {e : E} (R : Rel K cl P fp σ σV H) (r : Res K cl P fp σV H e (f, .tup ds) v) :
    ∃ a vs, v = .ref a ∧ SqT K H a vs ∧ Reps K cl (avS P fp) H ds vs ∧ ds.length ≤ 16777216 ∧ ∀ H', Fr H (ownS fp) H' → SqT K H' a vs := by
  cases r with
  | rs r =>
    have rp := r.rep
    cases rp with
    | tup t r2 l2 => exact ⟨_, _, rfl, t.sq, r2, l2, fun H' f => (t.mv (Mv.of (A' := avS P fp) f (fun a h => .inr h) fun a h => .inl h)).sq⟩
  | brw c _ => cases c
variable (cl cx T W) in
def iSeq (K : PySem.W.Frag) (s : E) : TI := fun σ H R => (iList K (tE cl cx T W K s) σ H R ∨ iTup K (tE cl cx T W K s) σ H R) ∨ iKeys (tSlot K s) σ H R
theorem brw_any1 {v : Fl × D} {c : Bool} (h : (!([v].any (fun v => v.1 == .brw) && c)) = true) : (v.1 == .brw && c) = false := by
  have h := ng h
  rw [List.any_cons, List.any_nil, Bool.or_false] at h
  exact h
/-- the slot's reading, where the dict lies -/
theorem slot_read {s : E} {σ1 : Sg} {kvs : List (Key × D)} (R : Rel K cl P fp σ σV H) (clc : ∀ c, cl c = cl 0) (nat : ∀ i f, s = .fld (.var i) f → Cls K (cl 0) ∧ NoAttr K (cl 0) f) (he : slotE s = true) (hv : ev T s σ = .ok ((.dat, .dct kvs), σ1)) :
    σ1 = σ ∧ ∃ d ks, DctAt K (avS P fp) H d ks ∧ RepK K cl (avS P fp) H kvs ks ∧ kvs.length ≤ 16777216 ∧ ∀ (H' : Hp) (Rr : VK), Sim d ks H H' → Rr (.ref d) H' → tSlot K s σV H' Rr := by
  by_cases hx : ∃ x y, s = .idx x y
  · obtain ⟨x, y, rfl⟩ := hx
    have hp : pathE (.idx x y) = true := by
      cases y <;> first | exact he | cases he
    obtain ⟨e1, v, _, rp, rd⟩ := path_read R _ hp hv rfl
    have rp := rp rfl
    cases rp with
    | dct t rk l => exact ⟨e1, _, _, t, rk, l, fun H' Rr sm q => rd _ _ H' Rr sm q⟩
  have hx : ∀ x y, s ≠ .idx x y := fun x y e => hx ⟨x, y, e⟩
  obtain ⟨e1, alt⟩ := slot_dct R he hx hv
  refine ⟨e1, ?_⟩
  rcases alt with ⟨i, v, rfl, q1, r⟩ | ⟨i, f, v, a, c, dx, gs, w, rfl, q1, q2, q3, q4, r⟩
  · cases r with
    | dct t rk l => exact ⟨_, _, t, rk, l, fun H' Rr sm q => ⟨_, q1, q⟩⟩
  · cases r with
    | dct t rk l =>
      refine ⟨_, _, t, rk, l, fun H' Rr sm q => ⟨v, q1, a, _, dx, gs, _, q2, sm.at (by intro _ z; cases z) (by intro _ _ z; cases z) q3, ?_, ?_, q4, q⟩⟩
      · rw [clc]; exact (nat i f rfl).1
      · rw [clc]; exact (nat i f rfl).2
theorem Sim.refl {d : Addr} {ks : List (Key × V)} (h : Rd H d (.dK ks)) : Sim d ks H H := ⟨fun _ _ => rfl, h, h⟩
theorem imp_comp_seq {s : E} {tg : Tg} {cs : Es} {x : E} {vs : List Nat} (ht : ∀ i ∈ tgSlots tg, i ∈ vs) (one : ∀ e f r, cs ≠ .cons e (.cons f r)) (clc : ∀ c, cl c = cl 0) (nat : ∀ i f, s = .fld (.var i) f → Cls K (cl 0) ∧ NoAttr K (cl 0) f) (h : tE cl cx T W K (.comp .seq (.cons s .nil) tg cs x vs) σV H Q) :
    tLc (iSeq cl cx T W K s) (tgR K tg) (tCs cl cx T K cs) (tE cl cx T E0 K x) vs σV H Q ∨ tLockE (tLc (iSeq cl cx T W K s) (tgR K tg) (tCs cl cx T K cs) (tE cl cx T E0 K x) vs) σV H Q := by
  obtain ⟨P, fp, σ, R, h⟩ := h
  rw [ev_comp, evs_one, rb_assoc] at h
  have pu : imp (.comp .seq (.cons s .nil) tg cs x vs) = false → imp s = false ∧ (imps cs || imp x) = false := fun z => by
    have z : ((imp s || imps .nil) || imps cs || imp x) = false := z
    rw [show imps .nil = false from rfl, Bool.or_false, Bool.or_assoc] at z
    exact Bool.or_eq_false_iff.mp z
  cases hm : ev T s σ with
  | bad => rw [hm] at h; exact (show False from h).elim
  | exc y => rw [hm] at h; exact .inl (.inl (.inl ⟨P, fp, σ, R, by rw [hm]; exact fun od H' x f e => h od H' x f fun z => e (pu z).1⟩))
  | ok p =>
    obtain ⟨w, σ1⟩ := p
    rw [hm] at h
    have h : Post K cl cx W P σV fp H σ (imp (.comp .seq (.cons s .nil) tg cs x vs)) (RSe K cl P σV (.comp .seq (.cons s .nil) tg cs x vs)) (guard (dctSrc (.cons s .nil) [w] && (vs.all (freeAt σ1) && !([w].any (fun v => v.1 == .brw) && (imps cs || imp x)))) >>= fun _ => looks [w] >>= fun ds => wkD .seq ds >>= fun its =>
      calm (compGo (compF T tg cs x vs) its (wipeD σ1 vs) []) >>= fun q => .ok ((.own, .lst q.1), putBack q.2 σ1 vs)) Q := h
    obtain ⟨g, h⟩ := h.grd
    obtain ⟨g0, g⟩ := Bool.and_eq_true_iff.mp g
    rw [Bool.and_eq_true] at g
    obtain ⟨g1, g2⟩ := g
    have g2 := brw_any1 g2
    have ef : ∀ v ∈ vs, freeAt σ1 v = true := fun v hv => List.all_eq_true.mp g1 v hv
    obtain ⟨ds, hl, h2⟩ := h.pur (nox_looks _)
    obtain ⟨d, hd, hl⟩ := DD.R.bind_eq_ok hl
    cases hl
    clear h
    obtain ⟨f, d0⟩ := w
    have ed : d = d0 := by cases f <;> first | (cases hd; rfl) | cases hd
    subst ed
    cases d with
    | lst ds =>
      have h : Post K cl cx W P σV fp H σ (imp (.comp .seq (.cons s .nil) tg cs x vs)) (RSe K cl P σV (.comp .seq (.cons s .nil) tg cs x vs)) (calm (compGo (compF T tg cs x vs) ds (wipeD σ1 vs) []) >>= fun q => .ok ((.own, .lst q.1), putBack q.2 σ1 vs)) Q := h2
      obtain ⟨⟨acc, σ2⟩, hg, h⟩ := h.pur (nox_calm _)
      refine .inl (.inl (.inl ⟨P, fp, σ, R, ?_⟩))
      rw [hm]
      intro fp1 v1 H1 R1 s1 f1 i1 r1
      have h1 := Post.move h s1 f1 fun z => i1 (pu z).1
      obtain ⟨a, ws, ev, ha, items, lim, keep⟩ := src_lst R1 r1 hd g2
      refine ⟨a, ev, ⟨ws, SqL.of ha⟩, fun D1 hD => ?_⟩
      obtain ⟨Pv, p0, p1, p2, p3⟩ := comp_core R1 ef ht one items lim (calm_ok hg) (fun z => (pu z).2) h1 hD
      exact lc_list Pv p0 (fun i H' _ q => keep H' (p1 i H' q).1 (p1 i H' q).2) p2 p3
    | tup ds =>
      have h : Post K cl cx W P σV fp H σ (imp (.comp .seq (.cons s .nil) tg cs x vs)) (RSe K cl P σV (.comp .seq (.cons s .nil) tg cs x vs)) (calm (compGo (compF T tg cs x vs) ds (wipeD σ1 vs) []) >>= fun q => .ok ((.own, .lst q.1), putBack q.2 σ1 vs)) Q := h2
      obtain ⟨⟨acc, σ2⟩, hg, h⟩ := h.pur (nox_calm _)
      refine .inl (.inl (.inr ⟨P, fp, σ, R, ?_⟩))
      rw [hm]
      intro fp1 v1 H1 R1 s1 f1 i1 r1
      have h1 := Post.move h s1 f1 fun z => i1 (pu z).1
      obtain ⟨a, ws, ev, ha, items, lim, keep⟩ := src_tup R1 r1
      refine ⟨a, ev, ⟨ws, ha⟩, fun D1 hD => ?_⟩
      obtain ⟨Pv, p0, p1, p2, p3⟩ := comp_core R1 ef ht one items lim (calm_ok hg) (fun z => (pu z).2) h1 hD
      exact lc_tup Pv p0 (fun i H' _ q => keep H' (p1 i H' q).1) p2 p3
    | dct kvs =>
      have h : Post K cl cx W P σV fp H σ (imp (.comp .seq (.cons s .nil) tg cs x vs)) (RSe K cl P σV (.comp .seq (.cons s .nil) tg cs x vs)) (calm (compGo (compF T tg cs x vs) (keysD kvs) (wipeD σ1 vs) []) >>= fun q => .ok ((.own, .lst q.1), putBack q.2 σ1 vs)) Q := h2
      obtain ⟨⟨acc, σ2⟩, hg, hx⟩ := h.pur (nox_calm _)
      clear h
      obtain ⟨gf, ge⟩ := Bool.and_eq_true_iff.mp (show (f == .dat && slotE s) = true from g0)
      have gf : f = .dat := beq_iff_eq.mp gf
      subst gf
      obtain ⟨es, d, ks, dat, rk, lim, rd⟩ := slot_read R clc nat ge hm
      subst es
      have lim2 : (keysD kvs).length ≤ 16777216 := by unfold keysD; rw [List.length_map]; exact lim
      have nO : ¬ ownS fp d := fun z => dat.2 (.inr z)
      have walk : ∀ (P2 : Px) (H2 : Hp) (Q2 : VK) (o : Obj), Rel K cl P2 fp σ1 σV H2 → H2 d = some (.frz o (.dK ks)) → Sim d ks H H2 → Post K cl cx W P2 σV fp H2 σ1 (imp (.comp .seq (.cons s .nil) tg cs x vs)) (RSe K cl P2 σV (.comp .seq (.cons s .nil) tg cs x vs)) (.ok ((.own, .lst acc), putBack σ2 σ1 vs)) Q2 →
          tLc (iSeq cl cx T W K s) (tgR K tg) (tCs cl cx T K cs) (tE cl cx T E0 K x) vs σV H2 Q2 := by
        intro P2 H2 Q2 o R2 hd2 sm hp
        refine .inr (rd H2 _ sm ⟨d, o, rfl, .inl ⟨ks, hd2, fun D1 hD => ?_⟩⟩)
        obtain ⟨Pv, p0, p1, p2, p3⟩ := comp_core R2 ef ht one (reps_keys rk.fsts) lim2 (calm_ok hg) (fun z => (pu z).2) hp hD
        rw [List.length_map] at p3
        refine lc_it walk_keys Pv p0 (fun i H' _ q => (p1 i H' q).1.keep d _ hd2 nt_frz nO) (fun i y H3 H4 hi q w => ?_) p3
        obtain ⟨rfl, k, v, w1, rfl⟩ := w
        exact p2 i _ _ (by rw [List.getElem?_map, w1]; rfl) q
      rcases dat.1 with hd | ⟨o, hd⟩
      · refine .inr ⟨d, .dK ks, hd, trivial, fun od => walk _ _ _ od (R.lock hd dat.2) upd_same (sim_lock hd) ?_⟩
        intro fp' v H' R' s' f' i' r'
        have e := f'.keep d _ upd_same nt_frz nO
        refine ⟨e, hx fp' v _ (R.unlock hd dat.2 R') s' (f'.unlock hd nO) (fun z => ?_) ?_⟩
        · obtain ⟨a1, a2, a3⟩ := i' z
          exact ⟨a1, a2, a3.unlock hd⟩
        · have nw : ∀ a, newP (P.now (lockH H d od ks) fp) a → newP P a := fun a z => by
            rcases z with z | z
            · exact R.new a z
            · refine fresh_new R ?_
              by_cases q : a = d
              · have z : lockH H d od ks a = none := z
                rw [q, lockH_same] at z; cases z
              · have z : lockH H d od ks a = none := z
                rw [lockH_ne q] at z; exact z
          cases r' with
          | rs rr =>
            refine .rs ((Rs.sim (sim_unlock e) rr fun fr hz w => ?_).z nw)
            rcases hz d w with z | z
            · exact nO z
            · have z : lockH H d od ks d = none := z
              rw [lockH_same] at z; cases z
      · exact .inl (walk _ _ _ o R hd (Sim.refl dat.1) hx)
    | _ => exact (show False from h2).elim
theorem Lks.ints {A : AS} {ns : List Int} {ws : List V} (h : Lks K cl A H (ns.map .int) ws) : ws = ns.map V.int := by
  induction ns generalizing ws with
  | nil => cases h; rfl
  | cons n ns ih =>
    cases h with
    | cons h t => cases h; rw [ih t]; rfl
theorem reps_range {A : AS} (lo : Int) (n : Nat) : Reps K cl A H (rangeD lo n) ((List.range n).map fun (i : Nat) => V.int (lo + (i : Int))) := by
  unfold rangeD
  induction List.range n with
  | nil => exact .nil
  | cons i r ih => exact .cons (.int _) ih
theorem rangeD_len (lo : Int) (n : Nat) : (rangeD lo n).length = n := by
  unfold rangeD
  rw [List.length_map, List.length_range]
theorem wk_rng (ds : List D) : wkD .rng ds = .bad ∨ (∃ n, ds = [.int n] ∧ (inR n && decide (n ≤ 16777216)) = true ∧ wkD .rng ds = .ok (rangeD 0 n.toNat)) ∨
    ∃ a b, ds = [.int a, .int b] ∧ (inR a && inR b && decide (b - a ≤ 16777216)) = true ∧ wkD .rng ds = .ok (rangeD a (b - a).toNat) := by
  match ds with
  | [] => exact .inl rfl
  | [d] =>
    cases d with
    | int n =>
      by_cases c : (inR n && decide (n ≤ 16777216)) = true
      · exact .inr (.inl ⟨n, rfl, c, if_pos c⟩)
      · exact .inl (if_neg c)
    | _ => exact .inl rfl
  | [d, e] =>
    cases d with
    | int a =>
      cases e with
      | int b =>
        by_cases c : (inR a && inR b && decide (b - a ≤ 16777216)) = true
        · exact .inr (.inr ⟨a, b, rfl, c, if_pos c⟩)
        · exact .inl (if_neg c)
      | _ => exact .inl rfl
    | _ => exact .inl rfl
  | d :: e :: f :: r => cases d <;> first | exact .inl rfl | (cases e <;> exact .inl rfl)
abbrev RngW (cl cx : Nat → Addr) (T : Tb) (K : PySem.W.Frag) (tg : Tg) (cs : Es) (x : E) (vs : List Nat) (σV : L2.St) (Q : VK) (lo : Int) (n : Nat) (H1 : Hp) : Prop :=
  ∀ D, H1 D = none → ∃ W : Nat → Nat → Hp → Prop, (∃ m, W 0 m (upd H1 D (.lst []))) ∧ ∀ i m H, W i m H →
    ((Itr lo n).stop i H ∧ Q (.ref D) H) ∨ ((Itr lo n).go i H ∧ ∃ Nx : Hp → Prop, (∀ H', Nx H' → ∃ m', m' < m ∧ W (i + 1) m' H') ∧ ∀ v H', (Itr lo n).yld i H v H' → Turn1 cl cx T K tg cs x vs σV v H' (fun y H4 => ∃ acc, H4 D = some (.lst acc) ∧ acc.length < sizeLine ∧ Nx (upd H4 D (.lst (acc ++ [y])))) Nx)
theorem imp_comp_rng {src : Es} {tg : Tg} {cs : Es} {x : E} {vs : List Nat} (ht : ∀ i ∈ tgSlots tg, i ∈ vs) (one : ∀ e f r, cs ≠ .cons e (.cons f r)) (h : tE cl cx T W K (.comp .rng src tg cs x vs) σV H Q) :
    tS cl cx T W K src σV H fun ws H1 => (∃ n : Int, ws = [.int n] ∧ (-(2 ^ 62) ≤ n ∧ n < 2 ^ 62) ∧ RngW cl cx T K tg cs x vs σV Q 0 n.toNat H1) ∨
      (∃ a b : Int, ws = [.int a, .int b] ∧ (-(2 ^ 62) ≤ a ∧ a < 2 ^ 62 ∧ -(2 ^ 62) ≤ b ∧ b < 2 ^ 62) ∧ RngW cl cx T K tg cs x vs σV Q a (b - a).toNat H1) := by
  obtain ⟨P, fp, σ, R, h⟩ := h
  rw [ev_comp] at h
  have pu : imp (.comp .rng src tg cs x vs) = false → imps src = false ∧ (imps cs || imp x) = false := fun z => by
    have z : (imps src || imps cs || imp x) = false := z
    rw [Bool.or_assoc] at z
    exact Bool.or_eq_false_iff.mp z
  refine ⟨P, fp, σ, R, h.bind (fun z => (pu z).1) fun ys σ1 fp1 ws H1 _ R1 s1 f1 i1 r1 h => ?_⟩
  obtain ⟨g, h⟩ := h.grd
  have g := (Bool.and_eq_true_iff.mp g).2
  rw [Bool.and_eq_true] at g
  have ef : ∀ v ∈ vs, freeAt σ1 v = true := fun v hv => List.all_eq_true.mp g.1 v hv
  obtain ⟨ds, hl, h2⟩ := h.pur (nox_looks _)
  clear h
  have lk := r1.looks hl
  have fin : ∀ (lo : Int) (n : Nat), n ≤ 16777216 → wkD .rng ds = .ok (rangeD lo n) → RngW cl cx T K tg cs x vs σV Q lo n H1 := by
    intro lo n hn e
    rw [e] at h2
    have h2 : Post K cl cx W P σV fp1 H1 σ1 (imp (.comp .rng src tg cs x vs)) (RSe K cl P σV (.comp .rng src tg cs x vs)) (calm (compGo (compF T tg cs x vs) (rangeD lo n) (wipeD σ1 vs) []) >>= fun q => .ok ((.own, .lst q.1), putBack q.2 σ1 vs)) Q := h2
    obtain ⟨⟨acc, σ2⟩, hg, h3⟩ := h2.pur (nox_calm _)
    intro D1 hD
    obtain ⟨Pv, p0, p1, p2, p3⟩ := comp_core R1 ef ht one (reps_range lo n) (by rw [rangeD_len]; exact hn) (calm_ok hg) (fun z => (pu z).2) h3 hD
    refine lc_range Pv p0 (fun i H' hi q => p2 i _ H' ?_ q) fun H' q => p3 H' (by rw [List.length_map, List.length_range]; exact q)
    rw [List.getElem?_map, List.getElem?_range hi]; rfl
  rcases wk_rng ds with e | ⟨n, rfl, c, e⟩ | ⟨a, b, rfl, c, e⟩
  · rw [e] at h2; exact (show False from h2).elim
  · rw [Bool.and_eq_true, decide_eq_true_eq] at c
    have c1 := inR_iff.mp c.1
    exact .inl ⟨n, Lks.ints (ns := [n]) lk, c1, fin 0 n.toNat (by omega) e⟩
  · rw [Bool.and_eq_true, Bool.and_eq_true, decide_eq_true_eq] at c
    have c1 := inR_iff.mp c.1.1
    have c2 := inR_iff.mp c.1.2
    exact .inr ⟨a, b, Lks.ints (ns := [a, b]) lk, ⟨c1.1, c1.2, c2.1, c2.2⟩, fin a (b - a).toNat (by omega) e⟩
end
end DD
namespace DD
open L2 PyProof.Rows PySem PySem.Spec RZ
/-- an iterator `it` that walks what lies at `l`, its place told by `J` -/
structure Rn (prog : Program) (w : World) (it l : Addr) (xs : Array Value) (J : Heap → Nat → Prop) : Prop where
  nxt : ∀ {A : Around} {s : Shared} {k : Nat} {x : Value} {Q : Value → Shared → Prop} {E : Value → Shared → Prop}, J s.heap k → xs[k]? = some x → (∀ g, J g (k + 1) → Heap.SameBut it s.heap g → Q x { s with heap := g }) →
    wpAny (model prog w) A (Builtin.SmallTypes.nextOf (.ref it)) Q E s
  fin : ∀ {A : Around} {s : Shared} {k : Nat} {Q : Value → Shared → Prop} {E : Value → Shared → Prop}, A.handled = none → J s.heap k → xs[k]? = none →
    (∀ g e, Heap.ExtBut it s.heap g → (∃ o, g.get? e = some o ∧ o.cls = .type "StopIteration") → E (.ref e) { s with heap := g }) → wpAny (model prog w) A (Builtin.SmallTypes.nextOf (.ref it)) Q E s
  ext : ∀ {g g' : Heap} {c : Addr} {k : Nat}, Heap.ExtBut c g g' → it ≠ c → l ≠ c → J g k → J g' k
  obj : ∀ {g : Heap} {k : Nat}, J g k → ∃ o, g.get? it = some o ∧ ∀ v, o.data ≠ .cell v
section
variable {prog : Program} {w : World}
def JL (it l : Addr) (xs : Array Value) (g : Heap) (k : Nat) : Prop := g.IsListIter it l k ∧ g.IsList l xs
def JT (it l : Addr) (xs : Array Value) (g : Heap) (k : Nat) : Prop := g.IsTupleIter it l k ∧ g.IsTuple l xs
theorem rn_list {it l : Addr} {xs : Array Value} (n : l ≠ it) : Rn prog w it l xs (JL it l xs) where
  nxt := fun j hx q => wpAny_nextOf_list_item j.1 j.2 hx fun g a sb => q g ⟨a, j.2.extBut sb.extBut n⟩ sb
  fin := fun hh j hx q => wpAny_nextOf_list_end hh j.1 j.2 hx q
  ext := fun x n1 n2 j => ⟨j.1.extBut x n1, j.2.extBut x n2⟩
  obj := fun j => by
    obtain ⟨o, e, _, d⟩ := j.1
    exact ⟨o, e, fun v q => by rw [d] at q; cases q⟩
theorem rn_tup {it l : Addr} {xs : Array Value} (n : l ≠ it) : Rn prog w it l xs (JT it l xs) where
  nxt := fun j hx q => nextOf_tuple_item j.1 j.2 hx fun g a sb => q g ⟨a, j.2.extBut sb.extBut n⟩ sb
  fin := fun hh j hx q => nextOf_tuple_end hh j.1 j.2 hx q
  ext := fun x n1 n2 j => ⟨j.1.extBut x n1, j.2.extBut x n2⟩
  obj := fun j => by
    obtain ⟨o, e, _, d⟩ := j.1
    exact ⟨o, e, fun v q => by rw [d] at q; cases q⟩
variable {A : Around} {E : Value → Shared → Prop} {s : Shared} {zo ti to ia ib la lb : Addr} {J1 J2 : Heap → Nat → Prop} {xs ys : Array Value} {k : Nat} {x y a b : Value}
/-- what is left alone by a turn -/
abbrev Left (zo to ia ib : Addr) (g g' : Heap) : Prop := ∀ c o, c ≠ zo → c ≠ to → c ≠ ia → c ≠ ib → g.get? c = some o → g'.get? c = some o
theorem zn_item {Q : Value → Shared → Prop} (D : ZipApart zo ti to ia ib la lb) (R1 : Rn prog w ia la xs J1) (R2 : Rn prog w ib lb ys J2) (hz : IsZip s.heap zo ti to .none) (hI : IsPair s.heap ti (.ref ia) (.ref ib)) (hO : IsPair s.heap to a b)
    (h1 : J1 s.heap k) (h2 : J2 s.heap k) (hx : xs[k]? = some x) (hy : ys[k]? = some y)
    (hQ : ∀ g, IsZip g zo ti to (rawInt s.heap.objs.size) → IsPair g to x y → J1 g (k + 1) → J2 g (k + 1) → IsPair g s.heap.objs.size x y → g.objs.size = s.heap.objs.size + 1 → Left zo to ia ib s.heap g → Q (.ref s.heap.objs.size) { s with heap := g }) :
    wpAny (model prog w) A (Builtin.«zip.__next__» ⟨[.ref zo], []⟩) (fun r s' => ∃ v, r = .done (.ret v) ∧ Q v s') E s := by
  show wpAny _ _ (field (.ref zo) 2 >>= _) _ _ _
  refine wpAny_bind (wpAny_field hz rfl (x := .bool false) rfl ?_); show wpAny _ _ (field (.ref zo) 3 >>= _) _ _ _
  refine wpAny_bind (wpAny_field hz rfl (x := .ref ti) rfl ?_)
  refine wpAny_bind (wpAny_seqItems hI rfl ?_); show wpAny _ _ (Builtin.SmallTypes.ownedTupleIsFree (.ref zo) >>= _) _ _ _
  refine wpAny_bind ?_; unfold Builtin.SmallTypes.ownedTupleIsFree
  refine wpAny_bind (wpAny_field hz rfl (x := Value.none) rfl (wpAny_pure ?_)); simp only [if_true]
  refine wpAny_bind (wpAny_rule ?_); refine wpAny_bind (wpAny_field hz rfl (x := .ref to) rfl ?_)
  refine wpAny_bind (wpAny_setField_rec hz (by simp) fun g1 z1 b1 => ?_)
  have z1 : IsZip g1 zo ti to .ellipsis := z1
  refine wpAny_bind ?_; simp only [List.zipIdx_cons, List.zipIdx_nil, List.forIn_cons, List.forIn_nil]
  refine wpAny_bind (wpAny_bind (wpAny_onRaise ?_)); show wpAny _ _ (Builtin.SmallTypes.nextOf (.ref ia) >>= _) _ _ _
  refine wpAny_bind (R1.nxt (R1.ext b1.extBut D.i1z D.l1z h1) hx fun g2 j2 b2 => wpAny_pure ?_)
  have o2 : IsPair g2 to a b := b2.extBut _ _ D.TOi1 (b1.extBut _ _ D.TOz hO)
  refine wpAny_bind (wpAny_seqItems o2 rfl ?_); refine wpAny_bind (wpAny_updateSeq_pair o2 fun g3 o3 b3 => ?_)
  have o3 : IsPair g3 to x b := o3
  refine wpAny_bind (wpAny_letGo (wpAny_pure ?_)); refine wpAny_bind (wpAny_bind (wpAny_onRaise ?_))
  show wpAny _ _ (Builtin.SmallTypes.nextOf (.ref ib) >>= _) _ _ _
  refine wpAny_bind (R2.nxt (R2.ext b3.extBut D.TOi2.symm D.l2TO (R2.ext b2.extBut D.i12.symm D.l2i1 (R2.ext b1.extBut D.i2z D.l2z h2))) hy fun g4 j4 b4 => wpAny_pure ?_)
  have o4 : IsPair g4 to x b := b4.extBut _ _ D.TOi2 o3
  refine wpAny_bind (wpAny_seqItems o4 rfl ?_); refine wpAny_bind (wpAny_updateSeq_pair o4 fun g5 o5 b5 => ?_)
  have o5 : IsPair g5 to x y := o5
  refine wpAny_bind (wpAny_letGo (wpAny_pure (wpAny_pure ?_))); refine wpAny_bind (wpAny_seqItems o5 rfl ?_); refine wpAny_bind (wpAny_newTuple ?_)
  have n5 : g5.objs.size = s.heap.objs.size := by rw [b5.1, b4.1, b3.1, b2.1, b1.1]
  have z5 : IsZip g5 zo ti to .ellipsis := b5.extBut _ _ D.TOz.symm (b4.extBut _ _ D.i2z.symm (b3.extBut _ _ D.TOz.symm (b2.extBut _ _ D.i1z.symm z1)))
  have l5 : Left zo to ia ib s.heap g5 := fun c o c1 c2 c3 c4 e => b5.extBut _ _ c2 (b4.extBut _ _ c4 (b3.extBut _ _ c2 (b2.extBut _ _ c3 (b1.extBut _ _ c1 e))))
  have p1 : J1 g5 (k + 1) := R1.ext b5.extBut D.TOi1.symm D.l1TO (R1.ext b4.extBut D.i12 D.l1i2 (R1.ext b3.extBut D.TOi1.symm D.l1TO j2))
  have p2 : J2 g5 (k + 1) := R2.ext b5.extBut D.TOi2.symm D.l2TO j4
  have lz : zo < g5.objs.size := Heap.lt_size z5
  show wpAny _ _ (Builtin.SmallTypes.ownedTupleHandOut (.ref zo) (.ref g5.objs.size) >>= _) _ _ _
  refine wpAny_bind ?_; unfold Builtin.SmallTypes.ownedTupleHandOut
  have z6 : IsZip (g5.push { cls := .type "tuple", data := .seq #[x, y] }) zo ti to .ellipsis := Heap.get?_push_of_some _ z5
  refine wpAny_bind (wpAny_setField_rec z6 (by simp) fun g7 z7 b7 => ?_)
  have z7 : IsZip g7 zo ti to (rawInt g5.objs.size) := z7
  refine wpAny_setField_rec z7 (by simp) fun g8 z8 b8 => ?_
  have z8 : IsZip g8 zo ti to (rawInt g5.objs.size) := z8
  have up : Heap.ExtBut zo g5 g8 := fun c o c1 e => b8.extBut _ _ c1 (b7.extBut _ _ c1 (Heap.get?_push_of_some _ e))
  have t8 : IsPair g8 g5.objs.size x y := b8.extBut _ _ (Nat.ne_of_gt lz) (b7.extBut _ _ (Nat.ne_of_gt lz) (Heap.get?_push_size _ rfl))
  have n8 : g8.objs.size = g5.objs.size + 1 := by rw [b8.1, b7.1, Heap.size_push]
  rw [n5] at z8 t8 n8
  refine wpAny_pure ⟨_, rfl, ?_⟩; show Q (.ref g5.objs.size) _
  rw [n5]
  exact hQ g8 z8 (up _ _ D.TOz o5) (R1.ext up D.i1z D.l1z p1) (R2.ext up D.i2z D.l2z p2) t8 n8 fun c o c1 c2 c3 c4 e => up c o c1 (l5 c o c1 c2 c3 c4 e)
theorem zn_end {Q : Fin → Shared → Prop} (hh : A.handled = none) (D : ZipApart zo ti to ia ib la lb) (R1 : Rn prog w ia la xs J1) (R2 : Rn prog w ib lb ys J2) (hz : IsZip s.heap zo ti to .none) (hI : IsPair s.heap ti (.ref ia) (.ref ib)) (hO : IsPair s.heap to a b)
    (h1 : J1 s.heap k) (h2 : J2 s.heap k) (he : xs[k]? = none ∨ ys[k]? = none)
    (hE : ∀ g e, Left zo to ia ib s.heap g → (∃ o, g.get? e = some o ∧ o.cls = .type "StopIteration") → E (.ref e) { s with heap := g }) : wpAny (model prog w) A (Builtin.«zip.__next__» ⟨[.ref zo], []⟩) Q E s := by
  show wpAny _ _ (field (.ref zo) 2 >>= _) _ _ _
  refine wpAny_bind (wpAny_field hz rfl (x := .bool false) rfl ?_); show wpAny _ _ (field (.ref zo) 3 >>= _) _ _ _
  refine wpAny_bind (wpAny_field hz rfl (x := .ref ti) rfl ?_)
  refine wpAny_bind (wpAny_seqItems hI rfl ?_); show wpAny _ _ (Builtin.SmallTypes.ownedTupleIsFree (.ref zo) >>= _) _ _ _
  refine wpAny_bind ?_; unfold Builtin.SmallTypes.ownedTupleIsFree
  refine wpAny_bind (wpAny_field hz rfl (x := Value.none) rfl (wpAny_pure ?_)); simp only [if_true]
  refine wpAny_bind (wpAny_rule ?_); refine wpAny_bind (wpAny_field hz rfl (x := .ref to) rfl ?_)
  refine wpAny_bind (wpAny_setField_rec hz (by simp) fun g1 z1 b1 => ?_)
  have z1 : IsZip g1 zo ti to .ellipsis := z1
  refine wpAny_bind ?_; simp only [List.zipIdx_cons, List.zipIdx_nil, List.forIn_cons, List.forIn_nil]
  refine wpAny_bind (wpAny_bind (wpAny_onRaise ?_)); show wpAny _ _ (Builtin.SmallTypes.nextOf (.ref ia) >>= _) _ _ _
  cases hx : xs[k]? with
  | none =>
    refine wpAny_bind (R1.fin hh (R1.ext b1.extBut D.i1z D.l1z h1) hx fun g2 e b2 st => ?_)
    obtain ⟨oe, q1, q2⟩ := st
    have z2 : IsZip g2 zo ti to .ellipsis := b2 _ _ D.i1z.symm z1
    have ne : e ≠ zo := fun q => by subst q; rw [z2] at q1; cases q1; simp at q2
    exact wpAny_setField_rec z2 (by simp) fun g3 _ b3 => hE g3 e (fun c o c1 _ c3 _ q => b3.extBut _ _ c1 (b2 _ _ c3 (b1.extBut _ _ c1 q))) ⟨oe, b3.extBut _ _ ne q1, q2⟩
  | some x =>
    have hy : ys[k]? = none := he.elim (fun q => by rw [hx] at q; cases q) id
    refine wpAny_bind (R1.nxt (R1.ext b1.extBut D.i1z D.l1z h1) hx fun g2 j2 b2 => wpAny_pure ?_)
    have o2 : IsPair g2 to a b := b2.extBut _ _ D.TOi1 (b1.extBut _ _ D.TOz hO)
    refine wpAny_bind (wpAny_seqItems o2 rfl ?_); refine wpAny_bind (wpAny_updateSeq_pair o2 fun g3 o3 b3 => ?_)
    refine wpAny_bind (wpAny_letGo (wpAny_pure ?_)); refine wpAny_bind (wpAny_bind (wpAny_onRaise ?_))
    show wpAny _ _ (Builtin.SmallTypes.nextOf (.ref ib) >>= _) _ _ _
    refine wpAny_bind (R2.fin hh (R2.ext b3.extBut D.TOi2.symm D.l2TO (R2.ext b2.extBut D.i12.symm D.l2i1 (R2.ext b1.extBut D.i2z D.l2z h2))) hy fun g4 e b4 st => ?_)
    obtain ⟨oe, q1, q2⟩ := st
    have z4 : IsZip g4 zo ti to .ellipsis := b4 _ _ D.i2z.symm (b3.extBut _ _ D.TOz.symm (b2.extBut _ _ D.i1z.symm z1))
    have ne : e ≠ zo := fun q => by subst q; rw [z4] at q1; cases q1; simp at q2
    exact wpAny_setField_rec z4 (by simp) fun g5 _ b5 => hE g5 e (fun c o c1 c2 c3 c4 q => b5.extBut _ _ c1 (b4 _ _ c4 (b3.extBut _ _ c2 (b2.extBut _ _ c3 (b1.extBut _ _ c1 q))))) ⟨oe, b5.extBut _ _ ne q1, q2⟩
theorem zp_item {Q : Option Value → Shared → Prop} (D : ZipApart zo ti to ia ib la lb) (R1 : Rn prog w ia la xs J1) (R2 : Rn prog w ib lb ys J2) (hz : IsZip s.heap zo ti to .none) (hI : IsPair s.heap ti (.ref ia) (.ref ib)) (hO : IsPair s.heap to a b)
    (h1 : J1 s.heap k) (h2 : J2 s.heap k) (hx : xs[k]? = some x) (hy : ys[k]? = some y)
    (hQ : ∀ g, IsZip g zo ti to (rawInt s.heap.objs.size) → IsPair g to x y → J1 g (k + 1) → J2 g (k + 1) → IsPair g s.heap.objs.size x y → g.objs.size = s.heap.objs.size + 1 → Left zo to ia ib s.heap g → Q (some (.ref s.heap.objs.size)) { s with heap := g }) :
    wpAny (model prog w) A (pyNext (.ref zo)) Q E s := by
  have ht : s.TypeIs (.ref zo) "zip" := ⟨_, hz, rfl⟩
  unfold pyNext
  refine wpAny_bind (wpAny_attempt (wpAny_callSpecial?_slot (name := Str.ofString "__next__") ht F.slot_zip_next (wpAny_call_entry F.slot_zip_next ht F.entry_zip_next ?_ (F.args_zip_next_1 _))))
  exact zn_item D R1 R2 hz hI hO h1 h2 hx hy fun g a1 a2 a3 a4 a5 a6 a7 => wpAny_pure (hQ g a1 a2 a3 a4 a5 a6 a7)
theorem zp_end {Q : Option Value → Shared → Prop} (hh : A.handled = none) (D : ZipApart zo ti to ia ib la lb) (R1 : Rn prog w ia la xs J1) (R2 : Rn prog w ib lb ys J2) (hz : IsZip s.heap zo ti to .none) (hI : IsPair s.heap ti (.ref ia) (.ref ib)) (hO : IsPair s.heap to a b)
    (h1 : J1 s.heap k) (h2 : J2 s.heap k) (he : xs[k]? = none ∨ ys[k]? = none) (hQ : ∀ g, Left zo to ia ib s.heap g → Q none { s with heap := g }) : wpAny (model prog w) A (pyNext (.ref zo)) Q E s := by
  have ht : s.TypeIs (.ref zo) "zip" := ⟨_, hz, rfl⟩
  unfold pyNext
  refine wpAny_bind (wpAny_attempt (wpAny_callSpecial?_slot (name := Str.ofString "__next__") ht F.slot_zip_next (wpAny_call_entry F.slot_zip_next ht F.entry_zip_next ?_ (F.args_zip_next_1 _))))
  refine zn_end hh D R1 R2 hz hI hO h1 h2 he fun g e lf st => ?_
  obtain ⟨o, q1, q2⟩ := st
  exact wpAny_bind (wpAny_isInstance (T := "StopIteration") (b := true) ⟨o, q1, q2⟩ isSubtype_stop (wpAny_pure (hQ _ lf)))
end
abbrev mz1 (h : Heap) (la : Addr) : Heap := h.push { cls := .type "list_iterator", data := .fields #[.ref la, .int 0 0] }
abbrev mz2 (h : Heap) (la lb : Addr) : Heap := (mz1 h la).push { cls := .type "tuple_iterator", data := .fields #[.ref lb, .int 0 0] }
abbrev mz3 (h : Heap) (la lb : Addr) : Heap := (mz2 h la lb).push { cls := .type "tuple", data := .seq #[.ref h.objs.size, .ref (mz1 h la).objs.size] }
abbrev mz4 (h : Heap) (la lb : Addr) : Heap := (mz3 h la lb).push { cls := .type "tuple", data := .seq #[.none, .none] }
abbrev mz5 (h : Heap) (la lb : Addr) : Heap := (mz4 h la lb).push { cls := .type "zip", data := .fields #[.none, .bool false, .bool false, .ref (mz2 h la lb).objs.size, .ref (mz3 h la lb).objs.size] }
theorem meets_mz (la lb : Addr) (xs ys : Array Value) : Meets (Builtin.«zip.__new__» ⟨[.type "zip", .ref la, .ref lb], []⟩) (fun _ R s => s.heap.IsList la xs ∧ s.heap.IsTuple lb ys ∧ R (.ok (.ret (.ref (mz4 s.heap la lb).objs.size))) { s with heap := mz5 s.heap la lb }) :=
  .of_wp fun prog w A R s h => by
    obtain ⟨g0, g, d, tk, os⟩ := s; obtain ⟨q1, q2, h⟩ := h
    have sz := sub_zip
    have i1 : Heap.IsList (Shared.heap ⟨g0, g, d, tk, os⟩) la xs := q1
    have i2 : Heap.IsTuple (Shared.heap ⟨g0.push { cls := .type "list_iterator", data := .fields #[.ref la, .int 0 0] }, g, d, tk, os⟩) lb ys := Heap.IsTuple.push q2 _
    wp_walk using wpAny_pyIter_list i1, wpAny_pyIter_tuple i2
    exact ⟨_, rfl, h⟩
section
variable {prog : Program} {w : World} {A : Around} {E : Value → Shared → Prop} {s : Shared}
theorem call_mz {la lb : Addr} {xs ys : Array Value} {Q : Value → Shared → Prop} (q1 : s.heap.IsList la xs) (q2 : s.heap.IsTuple lb ys)
    (h : ∀ g, IsZip g (s.heap.objs.size + 4) (s.heap.objs.size + 2) (s.heap.objs.size + 3) .none → IsPair g (s.heap.objs.size + 2) (.ref s.heap.objs.size) (.ref (s.heap.objs.size + 1)) → IsPair g (s.heap.objs.size + 3) .none .none →
      g.IsListIter s.heap.objs.size la 0 → g.IsTupleIter (s.heap.objs.size + 1) lb 0 → (∀ c o, s.heap.get? c = some o → g.get? c = some o) → Q (.ref (s.heap.objs.size + 4)) { s with heap := g }) :
    wpAny (model prog w) A (call (.type "zip") [.ref la, .ref lb]) Q E s := by
  refine callType_new F.called_zip (by decide) (F.typeCall_zip_2 _ _) (F.newCall_zip_2 _ _) (fun o => F.args_object_init_3 o _ _) F.entry_zip_new (meets_mz la lb xs ys) ⟨q1, q2, ?_⟩
  have n1 : (mz1 s.heap la).objs.size = s.heap.objs.size + 1 := Heap.size_push ..
  have n2 : (mz2 s.heap la lb).objs.size = s.heap.objs.size + 2 := by rw [Heap.size_push, n1]
  have n3 : (mz3 s.heap la lb).objs.size = s.heap.objs.size + 3 := by rw [Heap.size_push, n2]
  have n4 : (mz4 s.heap la lb).objs.size = s.heap.objs.size + 4 := by rw [Heap.size_push, n3]
  have e5 : (mz5 s.heap la lb).get? (mz4 s.heap la lb).objs.size = some _ := Heap.get?_push_size _ rfl
  have e4 : (mz5 s.heap la lb).get? (mz3 s.heap la lb).objs.size = some _ := Heap.get?_push_of_some _ (Heap.get?_push_size _ rfl)
  have e3 : (mz5 s.heap la lb).get? (mz2 s.heap la lb).objs.size = some _ := Heap.get?_push_of_some _ (Heap.get?_push_of_some _ (Heap.get?_push_size _ rfl))
  have e2 : (mz5 s.heap la lb).get? (mz1 s.heap la).objs.size = some _ := Heap.get?_push_of_some _ (Heap.get?_push_of_some _ (Heap.get?_push_of_some _ (Heap.get?_push_size _ rfl)))
  have e1 : (mz5 s.heap la lb).get? s.heap.objs.size = some _ := Heap.get?_push_of_some _ (Heap.get?_push_of_some _ (Heap.get?_push_of_some _ (Heap.get?_push_of_some _ (Heap.get?_push_size _ rfl))))
  show _ ∧ _
  rw [n2, n3, n4] at e5
  rw [n1, n2] at e3
  rw [n3] at e4
  rw [n1] at e2
  rw [n4]
  exact ⟨⟨_, e5, rfl⟩, h _ e5 e3 e4 ⟨_, e1, rfl, rfl⟩ ⟨_, e2, rfl, rfl⟩ fun c o q => Heap.get?_push_of_some _ (Heap.get?_push_of_some _ (Heap.get?_push_of_some _ (Heap.get?_push_of_some _ (Heap.get?_push_of_some _ q))))⟩
end
/-- the list at a and the tuple at b as they stand at each turn, in new pairs -/
def ItzM (K : PySem.W.Frag) (a b : Addr) : It :=
  ⟨fun i H => ∃ (vs us : List V) (x y : V), SqL K H a vs ∧ SqT K H b us ∧ vs[i]? = some x ∧ us[i]? = some y,
    fun i H v H' => ∃ c x y, v = .ref c ∧ H c = none ∧ H' = upd H c (.tup [x, y]) ∧ (∀ vs, SqL K H a vs → vs[i]? = some x) ∧ ∀ us, SqT K H b us → us[i]? = some y,
    fun i H => ∃ vs us : List V, SqL K H a vs ∧ SqT K H b us ∧ (vs.length ≤ i ∨ us.length ≤ i)⟩
theorem walk_zipM {K : PySem.W.Frag} {a b : Addr} {xs ys : List V} {n : Nat} (hn : n = min xs.length ys.length) : Walk (ItzM K a b) n (fun H => SqL K H a xs ∧ SqT K H b ys) (YPair (fun i => xs[i]?) (fun i => ys[i]?)) := by
  subst hn
  refine ⟨fun i _ hi q => ?_, fun _ q => ⟨xs, ys, q.1, q.2, by omega⟩, fun i H v H' _ q y => ?_⟩
  · have l1 : i < xs.length := by omega
    have l2 : i < ys.length := by omega
    exact ⟨xs, ys, xs[i], ys[i], q.1, q.2, by simp [l1], by simp [l2]⟩
  · obtain ⟨c, x, z, e1, e2, e3, e4, e5⟩ := y
    exact ⟨c, x, z, e1, e2, e3, e4 xs q.1, e5 ys q.2⟩
theorem five {c zo ti to ia ib : Addr} (h : c ∈ [zo, ti, to, ia, ib]) : c = zo ∨ c = ti ∨ c = to ∨ c = ia ∨ c = ib := by simpa using h
theorem turn_zipM {P : Program} {w : World} {K : PySem.W.Frag} {es : List Expr} {kk : Nat} {tp : Pos} {a b zo ti to ia ib : Addr} (D : ZipApart zo ti to ia ib a b) :
    Turn P w K (.Tuple es kk tp) (ItzM K a b) [zo, ti, to, ia, ib] zo (fun i g => IsZip g zo ti to .none ∧ IsPair g ti (.ref ia) (.ref ib) ∧ (∃ x y, IsPair g to x y) ∧ g.IsListIter ia a i ∧ g.IsTupleIter ib b i) where
  mem := by simp
  obj := fun i g st c hc => by
    obtain ⟨z1, z2, ⟨x, y, z3⟩, ⟨o1, e1, _, d1⟩, ⟨o2, e2, _, d2⟩⟩ := st
    rcases five hc with rfl | rfl | rfl | rfl | rfl
    · exact ⟨_, z1, nofun⟩
    · exact ⟨_, z2, nofun⟩
    · exact ⟨_, z3, nofun⟩
    · exact ⟨o1, e1, fun v q => by rw [d1] at q; cases q⟩
    · exact ⟨o2, e2, fun v q => by rw [d2] at q; cases q⟩
  keep := fun i g g' st kp => by
    obtain ⟨z1, z2, ⟨x, y, z3⟩, z4, z5⟩ := st
    exact ⟨kp zo (by simp) _ z1, kp ti (by simp) _ z2, ⟨x, y, kp to (by simp) _ z3⟩, z4.at fun o q => kp ia (by simp) o q, z5.at fun o q => kp ib (by simp) o q⟩
  item := by
    intro X hP hw hK hc i pins s σ H E I hf st hg
    subst hP hw hK
    obtain ⟨z1, z2, ⟨x0, y0, z3⟩, z4, z5⟩ := st
    obtain ⟨vs, us, x, y, sa, sb, hx, hy⟩ := hg
    obtain ⟨as, ra, pa, _⟩ := I.list sa
    obtain ⟨bs, rb, pb, _⟩ := I.tuple sb
    obtain ⟨u, hu, ru⟩ := ra.get hx
    obtain ⟨v, hv, rv⟩ := rb.get hy
    have zl : zo < s.heap.objs.size := Heap.lt_size z1
    refine zp_item (J1 := JL ia a as.toArray) (J2 := JT ib b bs.toArray) D (rn_list D.l1i1) (rn_tup D.l2i2) z1 z2 z3 ⟨z4, pa.isList⟩ ⟨z5, pb⟩ (x := u) (y := v) (by simpa using hu) (by simpa using hv) fun g a1 a2 a3 a4 a5 a6 lf => ?_
    refine ⟨_, rfl, wpAny_letOwnedTupleGo_zip (s := { s with heap := g }) a1 fun g2 a7 keep2 => ?_⟩
    have t2 : g2.get? s.heap.objs.size = some { cls := .type "tuple", data := .seq #[u, v] } := (keep2.2 _ (Nat.ne_of_gt zl)).trans a5
    have nw : ObjOk X.prog X.w (upd H s.heap.objs.size (.tup [x, y])) g2 s.heap.objs.size (.tup [x, y]) := ⟨by show 2 ≤ sizeLine; decide, [u, v], .cons ru (.cons rv .nil), ⟨_, t2, rfl, _, rfl⟩⟩
    have I1 : Inv X pins σ (upd H s.heap.objs.size (.tup [x, y])) { s with heap := g2 } :=
      I.turnedNew (t' := s.toks) (ch := [zo, ti, to, ia, ib]) (fun c o nb q => (keep2.2 c fun z => nb (by simp [z])).trans (lf c o (fun z => nb (by simp [z])) (fun z => nb (by simp [z])) (fun z => nb (by simp [z])) (fun z => nb (by simp [z])) q)) hf (Nat.le_refl _) nw
    refine ⟨.ref s.heap.objs.size, _, I1, rfl, ⟨_, x, y, rfl, I.hok.fresh (Nat.le_refl _), rfl, fun l hl => by rw [I.list_inj hl sa]; exact hx, fun l hl => by rw [I.tuple_inj hl sb]; exact hy⟩, ⟨a7, ?_, ⟨u, v, ?_⟩, ?_, ?_⟩, fun c hcm => ?_⟩
    · exact (keep2.2 _ D.TIz).trans (lf _ _ D.TIz D.TITO D.TIi1 D.TIi2 z2)
    · exact (keep2.2 _ D.TOz).trans a2
    · exact a3.1.at fun o q => (keep2.2 _ D.i1z).trans q
    · exact a4.1.at fun o q => (keep2.2 _ D.i2z).trans q
    · have lt : c < s.heap.objs.size := by
        rcases five hcm with rfl | rfl | rfl | rfl | rfl
        · exact zl
        · exact Heap.lt_size z2
        · exact Heap.lt_size z3
        · obtain ⟨_, e1, _⟩ := z4; exact Heap.lt_size e1
        · obtain ⟨_, e2, _⟩ := z5; exact Heap.lt_size e2
      rw [upd_ne (Nat.ne_of_lt lt)]
      exact (hf c hcm).1
  done := by
    intro X hP hw hK hc i pins s σ H E I hf st hg
    subst hP hw hK
    obtain ⟨z1, z2, ⟨x0, y0, z3⟩, z4, z5⟩ := st
    obtain ⟨vs, us, sa, sb, he⟩ := hg
    obtain ⟨as, ra, pa, _⟩ := I.list sa
    obtain ⟨bs, rb, pb, _⟩ := I.tuple sb
    have l1 := ra.length
    have l2 := rb.length
    have hn : as.toArray[i]? = none ∨ bs.toArray[i]? = none := he.elim (fun q => .inl (by simp; omega)) fun q => .inr (by simp; omega)
    refine zp_end (I.ok.hd hc) (J1 := JL ia a as.toArray) (J2 := JT ib b bs.toArray) D (rn_list D.l1i1) (rn_tup D.l2i2) z1 z2 z3 ⟨z4, pa.isList⟩ ⟨z5, pb⟩ hn fun g lf => ⟨rfl, ?_⟩
    exact I.turnedL (t' := s.toks) (ch := [zo, ti, to, ia, ib]) (fun c o nb q => lf c o (fun z => nb (by simp [z])) (fun z => nb (by simp [z])) (fun z => nb (by simp [z])) (fun z => nb (by simp [z])) q) hf
  self := fun A i s Q E st h => wpAny_pyIter_zip st.1 h
/-- two lists, two tuples, a list and a tuple -/
def iZipB (K : PySem.W.Frag) (ta : TA) : TI := fun σ H R => ta σ H fun vs H1 => ∃ a b xs ys, vs = [.ref a, .ref b] ∧ ((SqL K H1 a xs ∧ SqL K H1 b ys ∧ R (Itz K a b) H1) ∨ (SqT K H1 a xs ∧ SqT K H1 b ys ∧ R (ItzT K a b) H1) ∨ (SqL K H1 a xs ∧ SqT K H1 b ys ∧ R (ItzM K a b) H1))
theorem pi_zipB {X : Cx} {e e2 : Expr} {ta : TA} {p pos tpos : Pos} {elts : List Expr} {kk : Nat} (hg : Gl X "zip") (hm : X.mg "zip" = none) (ha : PA X [e, e2] ta)
    (hs : starEach [e, e2] X.env = (false, eval e X.env) :: starEach [e2] X.env := by rfl) (hpl : (backTo pos (starEach [e2] X.env)).any (·.1) = false := by rfl) : PI X (.Tuple elts kk tpos) (.Call (.Name "zip" p) [e, e2] [] pos) (iZipB X.K ta) := by
  refine ⟨fun pins s σ H R I h => Call_ (ld_blt I hg hm PyProof.Rows.boot_zip (PyProof.Rows.callWith_type1 (thn (ha.run pos pins s σ H _ I h) fun us s1 ⟨vs, H1, I1, r1, q1⟩ => ?_) hs hpl))⟩
  obtain ⟨a, b, xs, ys, rfl, q1⟩ := q1
  cases r1 with
  | cons r r1 =>
    cases r1 with
    | cons r' r1 =>
      cases r1
      cases r
      cases r'
      have fr : ∀ c, c ∈ [s1.heap.objs.size + 4, s1.heap.objs.size + 2, s1.heap.objs.size + 3, s1.heap.objs.size, s1.heap.objs.size + 1] → FpOk X pins H1 c := fun c hc => by
        have le : s1.heap.objs.size ≤ c := by
          rcases five hc with q | q | q | q | q <;> rw [q] <;> first | exact Nat.le_add_right _ _ | exact Nat.le_refl _
        exact I1.fpOk le (I1.hok.fresh le)
      rcases q1 with ⟨sa, sb, q⟩ | ⟨sa, sb, q⟩ | ⟨sa, sb, q⟩
      · obtain ⟨as, ra, pa, _⟩ := I1.list sa
        obtain ⟨bs, rb, pb, _⟩ := I1.list sb
        exact call_zip_2 pa.isList pb.isList fun g k1 k2 k3 k4 k5 _ lf => wpAny_pyIter_zip k1 ⟨s1.heap.objs.size + 4, [s1.heap.objs.size + 4, s1.heap.objs.size + 2, s1.heap.objs.size + 3, s1.heap.objs.size, s1.heap.objs.size + 1], _, _, H1, rfl, I1.kept (t' := s1.toks) lf, turn_zip (PySem.W.ktu_apart s1.heap.objs.size a b pa.lt pb.lt), ⟨k1, k2, ⟨_, _, k3⟩, k4, k5⟩, fr, q⟩
      · obtain ⟨as, ra, pa, _⟩ := I1.tuple sa
        obtain ⟨bs, rb, pb, _⟩ := I1.tuple sb
        obtain ⟨o1, ho1, _⟩ := id pa
        obtain ⟨o2, ho2, _⟩ := id pb
        exact call_zipT (show s1.heap.IsTuple a as.toArray from pa) (show s1.heap.IsTuple b bs.toArray from pb) fun g k1 k2 k3 k4 k5 _ lf => wpAny_pyIter_zip k1 ⟨s1.heap.objs.size + 4, [s1.heap.objs.size + 4, s1.heap.objs.size + 2, s1.heap.objs.size + 3, s1.heap.objs.size, s1.heap.objs.size + 1], _, _, H1, rfl, I1.kept (t' := s1.toks) lf, turn_zipT (PySem.W.ktu_apart s1.heap.objs.size a b (Heap.lt_size ho1) (Heap.lt_size ho2)), ⟨k1, k2, ⟨_, _, k3⟩, k4, k5⟩, fr, q⟩
      · obtain ⟨as, ra, pa, _⟩ := I1.list sa
        obtain ⟨bs, rb, pb, _⟩ := I1.tuple sb
        obtain ⟨o2, ho2, _⟩ := id pb
        exact call_mz (show s1.heap.IsList a as.toArray from pa.isList) (show s1.heap.IsTuple b bs.toArray from pb) fun g k1 k2 k3 k4 k5 lf => wpAny_pyIter_zip k1 ⟨s1.heap.objs.size + 4, [s1.heap.objs.size + 4, s1.heap.objs.size + 2, s1.heap.objs.size + 3, s1.heap.objs.size, s1.heap.objs.size + 1], _, _, H1, rfl, I1.kept (t' := s1.toks) lf, turn_zipM (PySem.W.ktu_apart s1.heap.objs.size a b pa.lt (Heap.lt_size ho2)), ⟨k1, k2, ⟨_, _, k3⟩, k4, k5⟩, fr, q⟩
end DD
namespace DD
open L2 PyProof.Rows PySem PySem.Spec RZ
theorem draws_tup {prog : Program} {w : World} {A : Around} (hh : A.handled = none) {it l : Addr} (hne : l ≠ it) (xs : Array Value) :
    Draws prog w A it [it, l] xs.size (fun i v => xs[i]? = some v) (fun i h => JT it l xs h i) where
  live := fun _ _ j => by
    obtain ⟨o, e, _⟩ := j.1
    exact ⟨o, e⟩
  frame := fun _ _ _ j kp => by
    obtain ⟨j1, o, e, r⟩ := j
    exact ⟨j1.at fun o e => kp it (by simp) o e, o, kp l (by simp) o e, r⟩
  item := fun i s Q E hi j hQ => (rn_tup hne).nxt j (x := xs[i]) (by simp [hi]) fun g j' sb => hQ _ g s.toks (by simp [hi]) j' sb
  done := fun s Q E j hE => (rn_tup hne).fin hh j (by simp) hE
abbrev me1 (h : Heap) (l : Addr) : Heap := h.push { cls := .type "tuple_iterator", data := .fields #[.ref l, .int 0 0] }
abbrev me2 (h : Heap) (l : Addr) : Heap := (me1 h l).push { cls := .type "enumerate", data := .fields #[.none, .bool false, .ref h.objs.size, rawInt 0, .none, .none] }
theorem meets_me (l : Addr) (xs : Array Value) (n : Nat) (dt : Option Addr) (sl : Array (Option Value)) : Meets (Builtin.«enumerate.__new__» ⟨[.type "enumerate", .ref l], []⟩) (fun _ R s => s.heap.get? l = some { cls := .type "tuple", dict := dt, data := .seq xs n, slots := sl } ∧ R (.ok (.ret (.ref (me1 s.heap l).objs.size))) { s with heap := me2 s.heap l }) :=
  .of_wp fun prog w A R s h => by
    obtain ⟨g0, g, d, tk, os⟩ := s; obtain ⟨q1, h⟩ := h
    have sz := sub_enumerate
    have i1 : Heap.IsTuple (Shared.heap ⟨g0, g, d, tk, os⟩) l xs := ⟨_, q1, rfl, n, rfl⟩
    wp_walk using AutoSeq1.wpAny_loadPart' q1
    refine wpAny_stack_any fun st => wpAny_pure ?_
    split
    · rename_i c _ _ _ _ _
      cases (c == Value.type "enumerate")
      · wp_walk using AutoSeq1.wpAny_loadPart' q1, wpAny_pyIter_tuple i1
        exact ⟨_, rfl, h⟩
      · wp_walk using AutoSeq1.wpAny_loadPart' q1, wpAny_pyIter_tuple i1
        exact ⟨_, rfl, h⟩
    · wp_walk using AutoSeq1.wpAny_loadPart' q1, wpAny_pyIter_tuple i1
      exact ⟨_, rfl, h⟩
section
variable {prog : Program} {w : World} {A : Around} {E : Value → Shared → Prop} {s : Shared}
theorem call_me {l : Addr} {xs : Array Value} {Q : Value → Shared → Prop} (q1 : s.heap.IsTuple l xs)
    (h : ∀ g, IsEnum g (s.heap.objs.size + 1) s.heap.objs.size 0 .none → g.IsTupleIter s.heap.objs.size l 0 → (∀ c o, s.heap.get? c = some o → g.get? c = some o) → Q (.ref (s.heap.objs.size + 1)) { s with heap := g }) :
    wpAny (model prog w) A (call (.type "enumerate") [.ref l]) Q E s := by
  obtain ⟨⟨c, dt, da, sl⟩, hl, hc, n, hd⟩ := q1
  have hc : c = .type "tuple" := hc
  have hd : da = .seq xs n := hd
  subst hc hd
  refine callType_new F.called_enumerate (by decide) (F.typeCall_enumerate_1 _) (F.newCall_enumerate_1 _) (fun o => F.args_object_init_2 o _) F.entry_enumerate_new (meets_me l xs n dt sl) ⟨hl, ?_⟩
  have n1 : (me1 s.heap l).objs.size = s.heap.objs.size + 1 := Heap.size_push ..
  have e2 : (me2 s.heap l).get? (me1 s.heap l).objs.size = some _ := Heap.get?_push_size _ rfl
  have e1 : (me2 s.heap l).get? s.heap.objs.size = some _ := Heap.get?_push_of_some _ (Heap.get?_push_size _ rfl)
  show _ ∧ _
  rw [n1] at e2
  rw [n1]
  exact ⟨⟨_, e2, rfl⟩, h _ e2 ⟨_, e1, rfl, rfl⟩ fun c o q => Heap.get?_push_of_some _ (Heap.get?_push_of_some _ q)⟩
end
/-- the tuple at a, each item in a new pair -/
def IteT (K : PySem.W.Frag) (a : Addr) : It :=
  ⟨fun i H => ∃ (us : List V) (x : V), SqT K H a us ∧ us[i]? = some x, fun i H v H' => ∃ c x, v = .ref c ∧ H c = none ∧ H' = upd H c (.tup [.int (i : Nat), x]) ∧ ∀ us, SqT K H a us → us[i]? = some x,
    fun i H => ∃ us : List V, SqT K H a us ∧ us.length ≤ i⟩
theorem walk_enumT {K : PySem.W.Frag} {a : Addr} {xs : List V} : Walk (IteT K a) xs.length (fun H => SqT K H a xs) (YPair (fun i => some (.int (i : Nat))) (fun i => xs[i]?)) := by
  refine ⟨fun i _ hi q => ⟨xs, xs[i], q, by simp [hi]⟩, fun _ q => ⟨xs, q, Nat.le_refl _⟩, fun i H v H' _ q y => ?_⟩
  obtain ⟨c, x, e1, e2, e3, e4⟩ := y
  exact ⟨c, _, x, e1, e2, e3, rfl, e4 xs q⟩
theorem turn_enumT {P : Program} {w : World} {K : PySem.W.Frag} {es : List Expr} {kk : Nat} {tp : Pos} {a e it : Addr} (na : a ≠ it) (ne : e ≠ it) :
    Turn P w K (.Tuple es kk tp) (IteT K a) [e, it] e (fun i g => (∃ old, IsEnum g e it ((i : Nat) : Int) old) ∧ g.IsTupleIter it a i) where
  mem := by simp
  obj := fun i g st c hc => by
    obtain ⟨⟨old, z1⟩, o, e1, _, d1⟩ := st
    have hc : c = e ∨ c = it := by simpa using hc
    rcases hc with rfl | rfl
    · exact ⟨_, z1, nofun⟩
    · exact ⟨o, e1, fun v q => by rw [d1] at q; cases q⟩
  keep := fun i g g' st kp => by
    obtain ⟨⟨old, z1⟩, z2⟩ := st
    exact ⟨⟨old, kp e (by simp) _ z1⟩, z2.at fun o q => kp it (by simp) o q⟩
  item := by
    intro X hP hw hK hc i pins s σ H E I hf st hg
    subst hP hw hK
    obtain ⟨⟨old, z1⟩, z2⟩ := st
    obtain ⟨us, x, sa, hx⟩ := hg
    obtain ⟨as, ra, pa, _⟩ := I.tuple sa
    obtain ⟨u, hu, ru⟩ := ra.get hx
    have le : e < s.heap.objs.size := Heap.lt_size z1
    have li : it < s.heap.objs.size := by obtain ⟨_, q, _⟩ := z2; exact Heap.lt_size q
    have hi : i < as.toArray.size := by simpa using (List.getElem?_eq_some_iff.mp hu).1
    have hea : e ≠ a := fun q => by
      obtain ⟨o, e1, e2, _⟩ := id pa
      rw [← q, z1] at e1
      cases e1
      simp at e2
    refine wpAny_pyNext_enum_itemD (fp := [it, a]) (draws_tup (A := X.A.in1) (I.ok.hd hc) na as.toArray) z1 ⟨z2, pa⟩ hi ne (by simp [ne, hea]) fun y g tk hy a1 a2 a3 a4 a5 => ?_
    have hy : u = y := by
      have q : as.toArray[i]? = some u := by simpa using hu
      exact Option.some.inj (q.symm.trans hy)
    subst hy
    refine ⟨_, rfl, wpAny_letOwnedTupleGo_enum (s := { s with heap := g, toks := tk + 1 }) a1 fun g2 a7 keep2 => ?_⟩
    have t2 : g2.get? s.heap.objs.size = some { cls := .type "tuple", data := .seq #[.int i tk, u] } := (keep2.2 _ (Nat.ne_of_gt le)).trans a3
    have nw : ObjOk X.prog X.w (upd H s.heap.objs.size (.tup [.int (i : Nat), x])) g2 s.heap.objs.size (.tup [.int (i : Nat), x]) := ⟨by show 2 ≤ sizeLine; decide, [.int i tk, u], .cons ⟨_, rfl⟩ (.cons ru .nil), ⟨_, t2, rfl, _, rfl⟩⟩
    have I1 : Inv X pins σ (upd H s.heap.objs.size (.tup [.int (i : Nat), x])) { s with heap := g2, toks := tk + 1 } :=
      I.turnedNew (t' := tk + 1) (ch := [e, it]) (fun c o nb q => (keep2.2 c fun z => nb (by simp [z])).trans (a5 c o (fun z => nb (by simp [z])) (fun z => nb (by simp [z])) q)) hf (Nat.le_refl _) nw
    refine ⟨.ref s.heap.objs.size, _, I1, rfl, ⟨_, x, rfl, I.hok.fresh (Nat.le_refl _), rfl, fun l hl => by rw [I.tuple_inj hl sa]; exact hx⟩, ⟨⟨u, ?_⟩, ?_⟩, fun c hcm => ?_⟩
    · have e1 : ((i + 1 : Nat) : Int) = (i : Int) + 1 := by omega
      rw [e1]; exact a7
    · exact a2.1.at fun o q => (keep2.2 it ne.symm).trans q
    · have lt : c < s.heap.objs.size := by
        have hcm : c = e ∨ c = it := by simpa using hcm
        rcases hcm with rfl | rfl
        · exact le
        · exact li
      rw [upd_ne (Nat.ne_of_lt lt)]
      exact (hf c hcm).1
  done := by
    intro X hP hw hK hc i pins s σ H E I hf st hg
    subst hP hw hK
    obtain ⟨⟨old, z1⟩, z2⟩ := st
    obtain ⟨us, sa, he⟩ := hg
    obtain ⟨as, ra, pa, _⟩ := I.tuple sa
    have l1 := ra.length
    have hT : s.TypeIs (.ref e) "enumerate" := ⟨_, z1, rfl⟩
    obtain ⟨f0, f1, f2, f3, f4, f5⟩ := hf it (by simp)
    have hn : as.toArray[i]? = none := by simp; omega
    unfold pyNext
    refine wpAny_bind (wpAny_attempt (wpAny_callSpecial?_slot (name := Str.ofString "__next__") hT F.slot_enumerate_next (wpAny_call_entry F.slot_enumerate_next hT F.entry_enumerate_next ?_ (F.args_enumerate_next_1 _))))
    show wpAny _ _ (field (.ref e) 2 >>= _) _ _ _
    refine wpAny_bind (wpAny_field z1 rfl (x := .ref it) rfl ((wpAny_bind ((rn_tup na).fin (I.ok.hd hc) ⟨z2, pa⟩ hn fun g x eb hx => ?_))))
    obtain ⟨o, q1, q2⟩ := hx
    exact wpAny_bind (wpAny_isInstance (T := "StopIteration") (b := true) ⟨o, q1, q2⟩ isSubtype_stop (wpAny_pure ⟨rfl, I.turned (t' := s.toks) (fun b o hb q => eb b o hb q) f0 f1 f3 f4 f5⟩))
  self := fun A i s Q E st h => by
    obtain ⟨⟨_, z⟩, _⟩ := st
    exact wpAny_pyIter_enum z h
/-- a list, a tuple -/
def iEnumB (K : PySem.W.Frag) (ta : TA) : TI := fun σ H R => ta σ H fun vs H1 => ∃ a xs, vs = [.ref a] ∧ ((SqL K H1 a xs ∧ R (Ite K a) H1) ∨ (SqT K H1 a xs ∧ R (IteT K a) H1))
theorem pi_enumB {X : Cx} {e : Expr} {ta : TA} {p pos tpos : Pos} {elts : List Expr} {kk : Nat} (hg : Gl X "enumerate") (hm : X.mg "enumerate" = none) (ha : PA X [e] ta) (hs : starEach [e] X.env = [(false, eval e X.env)] := by rfl) :
    PI X (.Tuple elts kk tpos) (.Call (.Name "enumerate" p) [e] [] pos) (iEnumB X.K ta) := by
  refine ⟨fun pins s σ H R I h => Call_ (ld_blt I hg hm boot_enumerate (PyProof.Rows.callWith_type1 (thn (ha.run pos pins s σ H _ I h) fun us s1 ⟨vs, H1, I1, r1, q1⟩ => ?_) hs rfl))⟩
  obtain ⟨a, xs, rfl, q1⟩ := q1
  cases r1 with
  | cons r r1 =>
    cases r1
    cases r
    have fr : ∀ c, c ∈ [s1.heap.objs.size + 1, s1.heap.objs.size] → FpOk X pins H1 c := fun c hc => by
      have hc : c = s1.heap.objs.size + 1 ∨ c = s1.heap.objs.size := by simpa using hc
      have le : s1.heap.objs.size ≤ c := by
        rcases hc with q | q <;> rw [q] <;> first | exact Nat.le_add_right _ _ | exact Nat.le_refl _
      exact I1.fpOk le (I1.hok.fresh le)
    rcases q1 with ⟨sa, q⟩ | ⟨sa, q⟩
    · obtain ⟨as, ra, pa, _⟩ := I1.list sa
      exact call_enumerate_list pa.isList fun g k1 k2 k3 k4 => wpAny_pyIter_enum k1 ⟨s1.heap.objs.size + 1, [s1.heap.objs.size + 1, s1.heap.objs.size], _, _, H1, rfl, I1.kept (t' := s1.toks) k4, turn_enum a (s1.heap.objs.size + 1) s1.heap.objs.size, ⟨⟨.none, k1⟩, k2, Nat.succ_ne_self _⟩, fr, q⟩
    · obtain ⟨as, ra, pa, _⟩ := I1.tuple sa
      obtain ⟨o, ho, _⟩ := id pa
      exact call_me (show s1.heap.IsTuple a as.toArray from pa) fun g k1 k2 k4 => wpAny_pyIter_enum k1 ⟨s1.heap.objs.size + 1, [s1.heap.objs.size + 1, s1.heap.objs.size], _, _, H1, rfl, I1.kept (t' := s1.toks) k4, turn_enumT (Nat.ne_of_lt (Heap.lt_size ho)) (Nat.succ_ne_self _), ⟨⟨.none, k1⟩, k2⟩, fr, q⟩
end DD
namespace DD
open L2 PyProof.Rows PySem PySem.Spec
variable [TabT]
section
variable {cl cx : Nat → Addr} {T : Tb} {M : Nm} {W : XK} {sc : Scope} {fb : Str → Bool} {X : Cx} {k : Nat}
variable {K : PySem.W.Frag} {P : Px} {σV σV1 : L2.St} {fp fp1 : Fp} {H H1 : Hp} {σ σ1 : Sg} {Q : VK}
theorem zipD_get {xa xb : List D} {i : Nat} {d : D} (h : (zipD xa xb)[i]? = some d) : ∃ x y, xa[i]? = some x ∧ xb[i]? = some y ∧ d = .tup [x, y] := by
  unfold zipD at h
  rw [List.getElem?_map] at h
  cases e : (xa.zip xb)[i]? with
  | none => rw [e] at h; cases h
  | some p =>
    rw [e] at h
    cases h
    obtain ⟨h1, h2⟩ := List.getElem?_zip_eq_some.mp e
    exact ⟨p.1, p.2, h1, h2, rfl⟩
theorem zipD_len (xa xb : List D) : (zipD xa xb).length = min xa.length xb.length := by
  unfold zipD
  rw [List.length_map, List.length_zip]
theorem walk_zipT {a b : Addr} {xs ys : List V} {n : Nat} (hn : n = min xs.length ys.length) : Walk (RZ.ItzT K a b) n (fun H => SqT K H a xs ∧ SqT K H b ys) (YPair (fun i => xs[i]?) (fun i => ys[i]?)) := by
  subst hn
  refine ⟨fun i _ hi q => ?_, fun _ q => ⟨xs, ys, q.1, q.2, by omega⟩, fun i H v H' _ q y => ?_⟩
  · have h1 : i < xs.length := by omega
    have h2 : i < ys.length := by omega
    exact ⟨xs, ys, xs[i], ys[i], q.1, q.2, by simp [h1], by simp [h2]⟩
  · obtain ⟨T, x, z, h1, h2, h3, h4, h5⟩ := y
    exact ⟨T, x, z, h1, h2, h3, h4 xs q.1, h5 ys q.2⟩
theorem wk_zip (ds : List D) : wkD .zip ds = .bad ∨ (∃ xa xb, ds = [.tup xa, .tup xb] ∧ wkD .zip ds = .ok (zipD xa xb)) ∨ (∃ xa xb, ds = [.lst xa, .lst xb] ∧ wkD .zip ds = .ok (zipD xa xb)) ∨ ∃ xa xb, ds = [.lst xa, .tup xb] ∧ wkD .zip ds = .ok (zipD xa xb) := by
  match ds with
  | [] => exact .inl rfl
  | [_] => exact .inl (by cases ‹D› <;> rfl)
  | [x, y] =>
    cases x with
    | tup xa => cases y <;> first | exact .inr (.inl ⟨_, _, rfl, rfl⟩) | exact .inl rfl
    | lst xa => cases y <;> first | exact .inr (.inr (.inl ⟨_, _, rfl, rfl⟩)) | exact .inr (.inr (.inr ⟨_, _, rfl, rfl⟩)) | exact .inl rfl
    | _ => exact .inl (by cases y <;> rfl)
  | x :: y :: z :: r => exact .inl (by cases x <;> first | rfl | (cases y <;> rfl))
theorem rep_pair {A A' : AS} {H1 H' H5 : Hp} {T : Addr} {dx dy : D} {x y : V} (e : H5 = upd H' T (.tup [x, y])) (hT : H' T = none) (tk : ∀ a, A' a → H' a ≠ none) (m : Mv A H1 A' H5) (rx : Rep K cl A H1 dx x) (ry : Rep K cl A H1 dy y) : Rep K cl A' H5 (.tup [dx, dy]) (.ref T) :=
  .tup (.inl ⟨.inl (by rw [e]; exact upd_same), fun z => tk T z hT⟩) (.cons (rx.mv m) (.cons (ry.mv m) .nil)) (by simp)
theorem imp_comp_zip {src : Es} {tg : Tg} {cs : Es} {x : E} {vs : List Nat} (ht : ∀ i ∈ tgSlots tg, i ∈ vs) (one : ∀ e f r, cs ≠ .cons e (.cons f r)) (pur : (imps cs || imp x) = false) (h : tE cl cx T W K (.comp .zip src tg cs x vs) σV H Q) :
    tLc (iZipB K (tS cl cx T W K src)) (tgR K tg) (tCs cl cx T K cs) (tE cl cx T E0 K x) vs σV H Q := by
  obtain ⟨P, fp, σ, R, h⟩ := h
  rw [ev_comp] at h
  have pu : imp (.comp .zip src tg cs x vs) = false → imps src = false ∧ (imps cs || imp x) = false := fun z => by
    have z : (imps src || imps cs || imp x) = false := z
    rw [Bool.or_assoc] at z
    exact Bool.or_eq_false_iff.mp z
  refine ⟨P, fp, σ, R, h.bind (fun z => (pu z).1) fun ys σ1 fp1 ws H1 _ R1 s1 f1 i1 r1 h => ?_⟩
  obtain ⟨g, h⟩ := h.grd
  have g := (Bool.and_eq_true_iff.mp g).2
  rw [Bool.and_eq_true] at g
  have ef : ∀ v ∈ vs, freeAt σ1 v = true := fun v hv => List.all_eq_true.mp g.1 v hv
  obtain ⟨ds, hl, h2⟩ := h.pur (nox_looks _)
  clear h
  have lk := r1.looks hl
  have fin : ∀ (xa xb : List D) (va vb : List V), Reps K cl (avS P fp1) H1 xa va → Reps K cl (avS P fp1) H1 xb vb → xa.length ≤ 16777216 → wkD .zip ds = .ok (zipD xa xb) → ∀ D1, H1 D1 = none →
      ∃ Pv : Nat → Hp → Prop, Pv 0 (upd H1 D1 (.lst [])) ∧ (∀ i H', Pv i H' → Ext H1 H') ∧
        (∀ i v H' H5, i < min va.length vb.length → Pv i H' → YPair (fun i => va[i]?) (fun i => vb[i]?) i H' v H5 → Turn1 cl cx T K tg cs x vs σV v H5 (fun y H4 => ∃ acc, H4 D1 = some (.lst acc) ∧ acc.length < sizeLine ∧ Pv (i + 1) (upd H4 D1 (.lst (acc ++ [y])))) (Pv (i + 1))) ∧
        ∀ H', Pv (min va.length vb.length) H' → Q (.ref D1) H' := by
    intro xa xb va vb ra rb la e D1 hD
    rw [e] at h2
    have h2 : Post K cl cx W P σV fp1 H1 σ1 (imp (.comp .zip src tg cs x vs)) (RSe K cl P σV (.comp .zip src tg cs x vs)) (calm (compGo (compF T tg cs x vs) (zipD xa xb) (wipeD σ1 vs) []) >>= fun q => .ok ((.own, .lst q.1), putBack q.2 σ1 vs)) Q := h2
    obtain ⟨⟨acc, σ2⟩, hg, h3⟩ := h2.pur (nox_calm _)
    obtain ⟨Pv, p0, p1, p2, p3⟩ := comp_coreG R1 ef ht one (by rw [zipD_len]; omega) (calm_ok hg) (fun z => (pu z).2) h3 hD
    have en : (zipD xa xb).length = min va.length vb.length := by rw [zipD_len, ra.length, rb.length]
    refine ⟨Pv, p0, fun i H' q => (p1 i H' q).2 pur, fun i v H' H5 hi q y => ?_, fun H' q => p3 H' (by rw [en]; exact q)⟩
    obtain ⟨T', x', y', rfl, hT, e5, hx, hy⟩ := y
    obtain ⟨dx, hdx, rx⟩ := ra.getV hx
    obtain ⟨dy, hdy, ry⟩ := rb.getV hy
    refine p2 i (.tup [dx, dy]) (.ref T') H' H5 ?_ q (by rw [e5]; exact Ext.new hT) fun A' m tk => rep_pair e5 hT tk m rx ry
    unfold zipD
    have ez : (xa.zip xb)[i]? = some (dx, dy) := List.getElem?_zip_eq_some.mpr ⟨hdx, hdy⟩
    rw [List.getElem?_map, ez]
    rfl
  rcases wk_zip ds with e | ⟨xa, xb, rfl, e⟩ | ⟨xa, xb, rfl, e⟩ | ⟨xa, xb, rfl, e⟩
  · rw [e] at h2; exact (show False from h2).elim
  · cases lk with
    | cons l1 lk =>
      cases lk with
      | cons l2 lk =>
        cases lk
        cases l1 with
        | @tup _ a va ta ra la =>
          cases l2 with
          | @tup _ b vb tb rb lb =>
            refine ⟨a, b, va, vb, rfl, .inr (.inl ⟨ta.sq, tb.sq, fun D1 hD => ?_⟩)⟩
            obtain ⟨Pv, p0, p1, p2, p3⟩ := fin xa xb va vb ra rb la e D1 hD
            exact lc_it (walk_zipT rfl) Pv p0 (fun i H' _ q => ⟨(ta.mv (Mv.ext (p1 i H' q))).sq, (tb.mv (Mv.ext (p1 i H' q))).sq⟩) p2 p3
  · cases lk with
    | cons l1 lk =>
      cases lk with
      | cons l2 lk =>
        cases lk
        cases l1 with
        | @lst _ a va ta ra la =>
          cases l2 with
          | @lst _ b vb tb rb lb =>
            refine ⟨a, b, va, vb, rfl, .inl ⟨SqL.of ta, SqL.of tb, fun D1 hD => ?_⟩⟩
            obtain ⟨Pv, p0, p1, p2, p3⟩ := fin xa xb va vb ra rb la e D1 hD
            exact lc_it (walk_zip rfl) Pv p0 (fun i H' _ q => ⟨SqL.of ((p1 i H' q).keep _ _ ta nt_lst), SqL.of ((p1 i H' q).keep _ _ tb nt_lst)⟩) p2 p3
  · cases lk with
    | cons l1 lk =>
      cases lk with
      | cons l2 lk =>
        cases lk
        cases l1 with
        | @lst _ a va ta ra la =>
          cases l2 with
          | @tup _ b vb tb rb lb =>
            refine ⟨a, b, va, vb, rfl, .inr (.inr ⟨SqL.of ta, tb.sq, fun D1 hD => ?_⟩)⟩
            obtain ⟨Pv, p0, p1, p2, p3⟩ := fin xa xb va vb ra rb la e D1 hD
            exact lc_it (walk_zipM rfl) Pv p0 (fun i H' _ q => ⟨SqL.of ((p1 i H' q).keep _ _ ta nt_lst), (tb.mv (Mv.ext (p1 i H' q))).sq⟩) p2 p3
end
end DD
namespace DD
open L2 PyProof.Rows PySem PySem.Spec
variable [TabT]
section
variable {cl cx : Nat → Addr} {T : Tb} {W : XK}
variable {K : PySem.W.Frag} {P : Px} {σV σV1 : L2.St} {fp fp1 : Fp} {H H1 : Hp} {σ σ1 : Sg} {Q : VK}
theorem enuD_get {xa : List D} {i : Nat} {x : D} (h : xa[i]? = some x) : (enuD xa)[i]? = some (.tup [.int (i : Nat), x]) := by
  unfold enuD
  rw [List.getElem?_map, List.getElem?_zipIdx, h]
  simp
theorem enuD_len (xa : List D) : (enuD xa).length = xa.length := by
  unfold enuD
  rw [List.length_map, List.length_zipIdx]
theorem wk_enu (ds : List D) : wkD .enu ds = .bad ∨ (∃ xa, ds = [.tup xa] ∧ wkD .enu ds = .ok (enuD xa)) ∨ ∃ xa, ds = [.lst xa] ∧ wkD .enu ds = .ok (enuD xa) := by
  match ds with
  | [] => exact .inl rfl
  | [x] => cases x <;> first | exact .inr (.inl ⟨_, rfl, rfl⟩) | exact .inr (.inr ⟨_, rfl, rfl⟩) | exact .inl rfl
  | x :: y :: r => exact .inl (by cases x <;> rfl)
theorem walk_enumL {a : Addr} {xs : List V} : Walk (Ite K a) xs.length (fun H => SqL K H a xs) (YPair (fun i => some (.int (i : Nat))) (fun i => xs[i]?)) := walk_enum
theorem imp_comp_enu {src : Es} {tg : Tg} {cs : Es} {x : E} {vs : List Nat} (ht : ∀ i ∈ tgSlots tg, i ∈ vs) (one : ∀ e f r, cs ≠ .cons e (.cons f r)) (pur : (imps cs || imp x) = false) (h : tE cl cx T W K (.comp .enu src tg cs x vs) σV H Q) :
    tLc (iEnumB K (tS cl cx T W K src)) (tgR K tg) (tCs cl cx T K cs) (tE cl cx T E0 K x) vs σV H Q := by
  obtain ⟨P, fp, σ, R, h⟩ := h
  rw [ev_comp] at h
  have pu : imp (.comp .enu src tg cs x vs) = false → imps src = false ∧ (imps cs || imp x) = false := fun z => by
    have z : (imps src || imps cs || imp x) = false := z
    rw [Bool.or_assoc] at z
    exact Bool.or_eq_false_iff.mp z
  refine ⟨P, fp, σ, R, h.bind (fun z => (pu z).1) fun ys σ1 fp1 ws H1 _ R1 s1 f1 i1 r1 h => ?_⟩
  obtain ⟨g, h⟩ := h.grd
  have g := (Bool.and_eq_true_iff.mp g).2
  rw [Bool.and_eq_true] at g
  have ef : ∀ v ∈ vs, freeAt σ1 v = true := fun v hv => List.all_eq_true.mp g.1 v hv
  obtain ⟨ds, hl, h2⟩ := h.pur (nox_looks _)
  clear h
  have lk := r1.looks hl
  have fin : ∀ (xa : List D) (va : List V), Reps K cl (avS P fp1) H1 xa va → xa.length ≤ 16777216 → wkD .enu ds = .ok (enuD xa) → ∀ D1, H1 D1 = none →
      ∃ Pv : Nat → Hp → Prop, Pv 0 (upd H1 D1 (.lst [])) ∧ (∀ i H', Pv i H' → Ext H1 H') ∧
        (∀ i v H' H5, i < va.length → Pv i H' → YPair (fun i => some (.int (i : Nat))) (fun i => va[i]?) i H' v H5 → Turn1 cl cx T K tg cs x vs σV v H5 (fun y H4 => ∃ acc, H4 D1 = some (.lst acc) ∧ acc.length < sizeLine ∧ Pv (i + 1) (upd H4 D1 (.lst (acc ++ [y])))) (Pv (i + 1))) ∧
        ∀ H', Pv va.length H' → Q (.ref D1) H' := by
    intro xa va ra la e D1 hD
    rw [e] at h2
    have h2 : Post K cl cx W P σV fp1 H1 σ1 (imp (.comp .enu src tg cs x vs)) (RSe K cl P σV (.comp .enu src tg cs x vs)) (calm (compGo (compF T tg cs x vs) (enuD xa) (wipeD σ1 vs) []) >>= fun q => .ok ((.own, .lst q.1), putBack q.2 σ1 vs)) Q := h2
    obtain ⟨⟨acc, σ2⟩, hg, h3⟩ := h2.pur (nox_calm _)
    obtain ⟨Pv, p0, p1, p2, p3⟩ := comp_coreG R1 ef ht one (by rw [enuD_len]; omega) (calm_ok hg) (fun z => (pu z).2) h3 hD
    have en : (enuD xa).length = va.length := by rw [enuD_len, ra.length]
    refine ⟨Pv, p0, fun i H' q => (p1 i H' q).2 pur, fun i v H' H5 hi q y => ?_, fun H' q => p3 H' (by rw [en]; exact q)⟩
    obtain ⟨T', x', y', rfl, hT, e5, hx, hy⟩ := y
    cases hx
    obtain ⟨dy, hdy, ry⟩ := ra.getV hy
    exact p2 i (.tup [.int (i : Nat), dy]) (.ref T') H' H5 (enuD_get hdy) q (by rw [e5]; exact Ext.new hT) fun A' m tk => rep_pair e5 hT tk m (.int _) ry
  rcases wk_enu ds with e | ⟨xa, rfl, e⟩ | ⟨xa, rfl, e⟩
  · rw [e] at h2; exact (show False from h2).elim
  · cases lk with
    | cons l1 lk =>
      cases lk
      cases l1 with
      | @tup _ a va ta ra la =>
        refine ⟨a, va, rfl, .inr ⟨ta.sq, fun D1 hD => ?_⟩⟩
        obtain ⟨Pv, p0, p1, p2, p3⟩ := fin xa va ra la e D1 hD
        exact lc_it walk_enumT Pv p0 (fun i H' _ q => (ta.mv (Mv.ext (p1 i H' q))).sq) p2 p3
  · cases lk with
    | cons l1 lk =>
      cases lk
      cases l1 with
      | @lst _ a va ta ra la =>
        refine ⟨a, va, rfl, .inl ⟨SqL.of ta, fun D1 hD => ?_⟩⟩
        obtain ⟨Pv, p0, p1, p2, p3⟩ := fin xa va ra la e D1 hD
        exact lc_it walk_enumL Pv p0 (fun i H' _ q => SqL.of ((p1 i H' q).keep _ _ ta nt_lst)) p2 p3
end
end DD
namespace DD
open L2 PyProof.Rows PySem PySem.Spec
variable [TabT]
section
variable {cl cx : Nat → Addr} {T : Tb} {W : XK}
variable {K : PySem.W.Frag} {P : Px} {σV : L2.St} {fp fp1 : Fp} {H H1 : Hp} {σ σ1 : Sg} {Q : VK}
/-- a datum's type -/
def tyD : D → String
  | .non => "NoneType" | .bl _ => "bool" | .int _ => "int" | .str _ => "str" | .tup _ => "tuple" | .lst _ => "list" | .scr _ => "list" | .dct _ => "dict"
  | .obj _ _ => ""
  | .odc _ => ""
theorem isiD_ok {t : Ty} {d : D} {b : Bool} (h : isiD t d = some b) : (∀ c fs, d ≠ .obj c fs) ∧ kitB (tyD d) (tyS t) = some b := by
  cases t <;> cases d <;> first | (cases h; done) | (cases h; exact ⟨fun _ _ z => (nomatch z), by dsimp only [tyD, tyS]; decide +kernel⟩)
theorem Lk.ty {A : AS} {d : D} {v : V} (h : Lk K cl A H d v) (n : ∀ c fs, d ≠ .obj c fs) : TyX K H v (.type (tyD d)) := by
  cases h with
  | non => exact .base .non
  | bl b => exact .base (.bl b)
  | int i => exact .base (.int i)
  | str s => exact .base (.str s)
  | tup t r l =>
    rcases t with ⟨t | ⟨o, t⟩, _⟩ | ⟨o, its, n, h1, h2, _⟩
    · exact .base (.tup t)
    · exact .fTuple t
    · exact .kTuple h1 h2
  | lst t r l => exact .base (.lst t)
  | dct t r l =>
    rcases t with t | ⟨o, t⟩
    · exact .base (.dK t)
    · exact .fDict t
  | obj _ => exact absurd rfl (n _ _)
  | scr t =>
    rcases t with ⟨t | ⟨o, t⟩, _⟩ | ⟨o, its, n, h1, h2, _⟩
    · exact .base (.lst t)
    · exact .base (.frz t)
    · exact .kList h1 h2
theorem imp_isi {t : Ty} {x : E} (h : tE cl cx T W K (.isi t x) σV H Q) : tCB (rIsi K) (tCons (tE cl cx T W K x) (tCons (tC (.ty (tyS t))) tNil)) σV H Q := by
  obtain ⟨P, fp, σ, R, h⟩ := h
  rw [ev] at h
  refine ⟨P, fp, σ, R, h.bind (fun z => z) fun v σ1 fp1 v1 H1 _ R1 s1 f1 i1 r1 h => ?_⟩
  obtain ⟨d, l1, h⟩ := h.pur (nox_look v)
  obtain ⟨b, hb, h⟩ := h.pur (nox_ofO _)
  obtain ⟨n, k⟩ := isiD_ok (ofO_ok hb)
  exact ⟨v1, .ty (tyS t), .type (tyD d), .type (tyS t), b, rfl, .ty _, (r1.lk0 l1).ty n, kit_ty k, h.doneD R1 (.bl _)⟩
theorem nox_setI (d : D) : NoX (setI d) := by
  cases d <;> first | exact nox_bad | exact nox_bind (nox_ofO _) fun _ => nox_if (nox_ok _) nox_bad
theorem nox_srk (d : D) : NoX (srkD d) := by
  cases d <;> first | exact nox_bind (nox_ofO _) fun _ => nox_ok _ | exact nox_bad
theorem heads_cons {d : D} {ds : List D} {bs : List (D × Int)} (h : headsD (d :: ds) = some bs) : ∃ i r cs, d = .tup (.int i :: r) ∧ headsD ds = some cs ∧ bs = (d, i) :: cs := by
  cases d with
  | tup es =>
    cases es with
    | nil => cases h
    | cons e r =>
      cases e with
      | int i =>
        have h : (headsD ds).map ((D.tup (.int i :: r), i) :: ·) = some bs := h
        cases q : headsD ds with
        | none => rw [q] at h; cases h
        | some cs => rw [q] at h; cases h; exact ⟨i, r, cs, rfl, rfl, rfl⟩
      | _ => cases h
  | _ => cases h
theorem reps_heads {A : AS} : ∀ {ds : List D} {bs : List (D × Int)} {vs : List V}, headsD ds = some bs → Reps K cl A H ds vs →
    ∃ cs : List (V × Int), cs.map Prod.fst = vs ∧ (∀ b ∈ cs, Head1 K H b.1 b.2) ∧ cs.map Prod.snd = bs.map Prod.snd ∧ bs.map Prod.fst = ds
  | [], bs, _, h, .nil => by cases h; exact ⟨[], rfl, (fun _ z => nomatch z), rfl, rfl⟩
  | d :: ds, bs, _, h, .cons (v := v) r0 r => by
    obtain ⟨i, es, cs, rfl, h2, rfl⟩ := heads_cons h
    obtain ⟨ws, e1, e2, e3, e4⟩ := reps_heads h2 r
    refine ⟨(v, i) :: ws, by rw [List.map_cons, e1], fun b hb => ?_, by rw [List.map_cons, List.map_cons, e3], by rw [List.map_cons, e4]⟩
    rcases List.mem_cons.mp hb with e | hb
    · rw [e]
      cases r0 with
      | tup t rr l =>
        cases rr with
        | cons ri rr => cases ri; exact ⟨_, _, rfl, t.sq⟩
    · exact e2 b hb
/-- both lists are sorted alike -/
theorem sortB_pair {α β : Type} {R : α → β → Prop} {bs : List (α × Int)} {cs : List (β × Int)} (e : cs.map Prod.snd = bs.map Prod.snd) (h : ∀ x, x ∈ bs.zip cs → R x.1.1 x.2.1) :
    ∀ x, x ∈ (sortB bs).zip (sortB cs) → R x.1.1 x.2.1 := by
  have len : bs.length = cs.length := by have := congrArg List.length e; simpa using this.symm
  have key : ∀ x ∈ bs.zip cs, x.1.2 = x.2.2 := by
    intro x hx
    obtain ⟨i, hi, e2⟩ := List.mem_iff_getElem.mp hx
    have e3 : (cs.map Prod.snd)[i]? = (bs.map Prod.snd)[i]? := by rw [e]
    rw [List.length_zip] at hi
    rw [List.getElem?_map, List.getElem?_map, List.getElem?_eq_getElem (by omega), List.getElem?_eq_getElem (by omega)] at e3
    rw [← e2, List.getElem_zip]
    exact (Option.some.inj e3).symm
  let zs := (bs.zip cs).mergeSort fun x y => decide (x.1.2 ≤ y.1.2)
  have m1 : zs.map Prod.fst = sortB bs := by
    unfold sortB
    show ((bs.zip cs).mergeSort _).map Prod.fst = _
    rw [List.map_mergeSort (r := fun x y : (α × Int) × (β × Int) => decide (x.1.2 ≤ y.1.2)) (s := fun x y : α × Int => decide (x.2 ≤ y.2)) (f := Prod.fst) (l := bs.zip cs) (fun a _ b _ => rfl), List.map_fst_zip (by omega)]
  have m2 : zs.map Prod.snd = sortB cs := by
    unfold sortB
    show ((bs.zip cs).mergeSort _).map Prod.snd = _
    rw [List.map_mergeSort (r := fun x y : (α × Int) × (β × Int) => decide (x.1.2 ≤ y.1.2)) (s := fun x y : β × Int => decide (x.2 ≤ y.2)) (f := Prod.snd) (l := bs.zip cs) (fun a ha b hb => by rw [key a ha, key b hb]), List.map_snd_zip (by omega)]
  intro x hx
  rw [← m1, ← m2] at hx
  have hx : x ∈ zs := by
    have e4 : (zs.map Prod.fst).zip (zs.map Prod.snd) = zs := by
      rw [List.zip_map']; simp
    rwa [e4] at hx
  exact h x ((List.mergeSort_perm _ _).mem_iff.mp hx)
theorem reps_of {A : AS} : ∀ {ds : List D} {vs : List V}, ds.length = vs.length → (∀ x, x ∈ ds.zip vs → Rep K cl A H x.1 x.2) → Reps K cl A H ds vs
  | [], [], _, _ => .nil
  | d :: ds, v :: vs, l, h => .cons (h (d, v) List.mem_cons_self) (reps_of (Nat.succ.inj l) fun x hx => h x (List.mem_cons_of_mem _ hx))
  | [], _ :: _, l, _ => by cases l
  | _ :: _, [], l, _ => by cases l
theorem Reps.zip {A : AS} : ∀ {ds : List D} {vs : List V}, Reps K cl A H ds vs → ∀ x, x ∈ ds.zip vs → Rep K cl A H x.1 x.2
  | _, _, .nil, x, h => by cases h
  | _, _, .cons h r, x, hx => by
    rw [List.zip_cons_cons] at hx
    rcases List.mem_cons.mp hx with e | hx
    · rw [e]; exact h
    · exact Reps.zip r x hx
theorem reps_sort {A : AS} {ds : List D} {bs : List (D × Int)} {cs : List (V × Int)} (r : Reps K cl A H ds (cs.map Prod.fst)) (e : cs.map Prod.snd = bs.map Prod.snd) (e2 : bs.map Prod.fst = ds) : Reps K cl A H ((sortB bs).map Prod.fst) ((sortB cs).map Prod.fst) := by
  have lb : (sortB bs).length = bs.length := List.length_mergeSort _
  have lc : (sortB cs).length = cs.length := List.length_mergeSort _
  have len : bs.length = cs.length := by have := congrArg List.length e; simpa using this.symm
  refine reps_of (by rw [List.length_map, List.length_map, lb, lc, len]) fun x hx => ?_
  have q := sortB_pair (R := fun d v => Rep K cl A H d v) e fun y hy => ?_
  · rw [List.zip_map] at hx
    obtain ⟨y, hy, rfl⟩ := List.mem_map.mp hx
    exact q y hy
  · refine r.zip (y.1.1, y.2.1) ?_
    rw [← e2, List.zip_map]
    exact List.mem_map.mpr ⟨y, hy, rfl⟩
theorem nox_vals (d : D) : NoX (valsD d) := by cases d <;> first | exact nox_ok _ | exact nox_bad
theorem RepK.snds {A : AS} : ∀ {ds : List (Key × D)} {vs : List (Key × V)}, RepK K cl A H ds vs → Reps K cl A H (ds.map (·.2)) (vs.map (·.2))
  | _, _, .nil => .nil
  | _, _, .cons h r => .cons h (RepK.snds r)
/-- list(d.values()) -/
theorem imp_lvs {x : E} (h : tE cl cx T W K (.lvs x) σV H Q) : tLvals (tE cl cx T W K x) σV H Q := by
  obtain ⟨P, fp, σ, R, h⟩ := h
  rw [ev] at h
  refine ⟨P, fp, σ, R, h.bind (fun z => z) fun v σ1 fp1 v1 H1 _ R1 s1 f1 i1 r1 h => ?_⟩
  obtain ⟨d, l1, h⟩ := h.pur (nox_look v)
  obtain ⟨rs, hs, h⟩ := h.pur (nox_vals _)
  have lk := r1.lk0 l1
  cases lk with
  | @dct kvs a ks t r l =>
    cases hs
    exact ⟨a, ks, rfl, t, fun p hp => h.done R1 _ _ (Ext.new hp) (Rs.newL hp R1.trk r.snds (by rw [List.length_map]; exact l))⟩
  | _ => cases hs
/-- shared from now on -/
theorem imp_shr {x : E} (h : tE cl cx T W K (.shr x) σV H Q) : tE cl cx T W K x σV H Q := by
  obtain ⟨P, fp, σ, R, h⟩ := h
  rw [ev] at h
  refine ⟨P, fp, σ, R, h.bind (fun z => z) fun v σ1 fp1 v1 H1 _ R1 s1 f1 i1 r1 h => ?_⟩
  obtain ⟨d, hd, h⟩ := h.pur (nox_keep v)
  exact h.doneD R1 (r1.keep hd (fun _ _ z => z) (Fr.refl _ _))
theorem reps_flat {A : AS} : ∀ {ds : List D} {vs : List V}, Reps K cl A H ds vs → ds.all flatD = true → ∀ A', Reps K cl A' H ds vs
  | _, _, .nil, _, _ => .nil
  | d :: ds, _, .cons r t, h, A' => by
    rw [List.all_cons, Bool.and_eq_true] at h
    refine .cons ?_ (reps_flat t h.2 A')
    cases r with
    | non => exact .non
    | bl b => exact .bl b
    | int i => exact .int i
    | str s => exact .str s
    | tup _ _ _ => exact nomatch h.1
    | lst _ _ _ _ => exact nomatch h.1
    | dct _ _ _ => exact nomatch h.1
    | obj _ _ _ => exact nomatch h.1
    | scr _ => exact nomatch h.1
/-- an own thing taken as shared for the time being: nothing of it is kept -/
theorem imp_lnt {i : Nat} {x : E} (h : tE cl cx T W K (.lnt i x) σV H Q) : tE cl cx T W K x σV H Q := by
  obtain ⟨P, fp, σ, R, h⟩ := h
  rw [ev] at h
  obtain ⟨g, h⟩ := h.grd
  have g : imp x = false := ng g
  have s := R.at i
  generalize hx : σ.at i = y at s h
  generalize hy : vAt σV i = yv at s
  cases s with
  | none n => exact (show False from h).elim
  | dat r n => exact (show False from h).elim
  | ino c n => exact (show False from h).elim
  | brw c f n => exact (show False from h).elim
  | @own d v c =>
    have e0 : clr fp i i = [] := if_pos rfl
    have rp := c.rep (A' := avS P (clr fp i)) (Mv.less fun a z => sub_av (clr_sub fp i) a z) fun a ha z => by
      rcases z with z | ⟨j, z⟩
      · exact R.noX i a ha z
      · unfold clr at z
        split at z
        · cases z
        · rename_i n; exact n (R.dis j i a z ha)
    have R1 : Rel K cl P (clr fp i) (σ.set i (some (.dat, d))) σV H := R.upd1 (clr_sub fp i) (fun j n => if_neg n) (by rw [hy]; exact .dat rp e0)
    refine ⟨P.now H (clr fp i), clr fp i, σ.set i (some (.dat, d)), R1.now, ?_⟩
    have h : Post K cl cx W P σV fp H σ (imp (.lnt i x)) (RSe K cl P σV (.lnt i x)) (ev T x (σ.set i (some (.dat, d))) >>= fun p => guard (flatR p.1) >>= fun _ => .ok (p.1, σ)) Q := h
    cases hm : ev T x (σ.set i (some (.dat, d))) with
    | bad => rw [hm] at h; exact h
    | exc z => rw [hm] at h; exact fun od H' e f j => h od H' e (f.mono (sub_own (clr_sub fp i))) fun _ => j g
    | ok p =>
      obtain ⟨r, σ1⟩ := p
      rw [hm] at h
      have h : Post K cl cx W P σV fp H σ (imp (.lnt i x)) (RSe K cl P σV (.lnt i x)) (guard (flatR r) >>= fun _ => .ok (r, σ)) Q := h
      obtain ⟨g2, h⟩ := h.grd
      intro fp1 v1 H1 R2 s1 f1 i1 r1
      obtain ⟨_, _, t⟩ := i1 g
      refine h fp v1 H1 (R.ext t) (fun _ _ z => z) (Fr.of t) (fun _ => ⟨rfl, rfl, t⟩) (.rs ?_)
      obtain ⟨fl, d1⟩ := r
      cases fl with
      | dat => cases g2
      | brw => cases g2
      | ino => cases g2
      | own =>
        cases d1 with
        | lst ds =>
          cases r1 with
          | rs q =>
            obtain ⟨fr, c1, n1, z1⟩ := q
            cases c1 with
            | @lst _ a vs w rr l =>
              have hn : ∀ b ∈ [a], H b = none := fun b hb => by
                rcases z1 b hb with z | z
                · have e : ownS (clr fp i) b := z
                  obtain ⟨_, e2, _⟩ := i1 g
                  exact absurd (.inr (by rw [e2]; exact e)) (n1 b hb)
                · exact z
              refine ⟨[a], .lst w (reps_flat rr g2 _) l, fun b hb z => ?_, fun b hb => fresh_new R (hn b hb)⟩
              exact R.trk b z (hn b hb)
        | _ => cases g2
theorem imp_srk {x : E} (h : tE cl cx T W K (.srk x) σV H Q) : tSortK K TabT.T (tE cl cx T W K x) σV H Q := by
  obtain ⟨P, fp, σ, R, h⟩ := h
  rw [ev] at h
  refine ⟨P, fp, σ, R, h.bind (fun z => z) fun v σ1 fp1 v1 H1 _ R1 s1 f1 i1 r1 h => ?_⟩
  obtain ⟨d, l1, h⟩ := h.pur (nox_look v)
  obtain ⟨rs, hs, h3⟩ := h.pur (nox_srk _)
  have lk := r1.lk0 l1
  have fin : ∀ (ds : List D) (bs : List (D × Int)) (vs : List V), headsD ds = some bs → rs = (sortB bs).map Prod.fst → Reps K cl (avS P fp1) H1 ds vs → ds.length ≤ 16777216 → ∃ cs : List (V × Int), vs = cs.map Prod.fst ∧ (∀ b ∈ cs, Head1 K H1 b.1 b.2) ∧
      ∀ (H2 : Hp) (p : Addr), LamX.ExtN H1 H2 → (∀ b, H1 b ≠ none → H2 b ≠ none) → LamX.Tabs TabT.T H2 → H2 p = none → Q (.ref p) (upd H2 p (.lst ((sortB cs).map Prod.fst))) := by
    intro ds bs vs hb er r l
    obtain ⟨cs, e1, e2, e3, e4⟩ := reps_heads hb r
    refine ⟨cs, e1.symm, e2, fun H2 p eN th tt hp => ?_⟩
    subst er
    have ex : Ext H1 H2 := ⟨fun b o h n => eN b o h n, th, fun _ => tt⟩
    rw [← e1] at r
    have r2 : Reps K cl (avS P fp1) H2 ds (cs.map Prod.fst) := r.mv (Mv.ext ex)
    have R2 := R1.ext ex
    have lb : ((sortB bs).map Prod.fst).length = ds.length := by
      rw [List.length_map, ← e4, List.length_map]
      exact List.length_mergeSort _
    exact h3.done R1 _ _ (ex.trans (Ext.new hp)) ((Rs.newL hp R2.trk (reps_sort r2 e3 e4) (by rw [lb]; exact l)).z fun a ha => ex.back ha)
  refine ⟨R1.tabs, ?_⟩
  cases lk with
  | @lst ds a vs t r l =>
    obtain ⟨bs, hb, hs⟩ := DD.R.bind_eq_ok hs
    cases hs
    obtain ⟨cs, e1, e2, q⟩ := fin ds bs vs (ofO_ok hb) rfl r l
    rw [e1] at t
    exact ⟨a, cs, rfl, .inl (SqL.of t), e2, q⟩
  | @tup ds a vs t r l =>
    obtain ⟨bs, hb, hs⟩ := DD.R.bind_eq_ok hs
    cases hs
    obtain ⟨cs, e1, e2, q⟩ := fin ds bs vs (ofO_ok hb) rfl r l
    rw [e1] at t
    exact ⟨a, cs, rfl, .inr t.sq, e2, q⟩
  | _ => cases hs
theorem imp_sset {x : E} (h : tE cl cx T W K (.sset x) σV H Q) : tSS K (tE cl cx T W K x) σV H Q := by
  obtain ⟨P, fp, σ, R, h⟩ := h
  rw [ev] at h
  refine ⟨P, fp, σ, R, h.bind (fun z => z) fun v σ1 fp1 v1 H1 _ R1 s1 f1 i1 r1 h => ?_⟩
  obtain ⟨d, l1, h⟩ := h.pur (nox_look v)
  obtain ⟨ns, hs, h3⟩ := h.pur (nox_setI _)
  have lk := r1.lk0 l1
  cases lk with
  | @lst ds a vs t r l =>
    obtain ⟨ms, h1, hs⟩ := DD.R.bind_eq_ok hs
    obtain ⟨g, hs⟩ := ifok hs
    cases hs
    have e := Reps.ofInts (ofO_ok h1) r
    subst e
    refine ⟨a, ns, rfl, .inl (SqL.of t), of_decide_eq_true g, fun p hp => h3.done R1 _ _ (Ext.new hp) (Rs.newL hp R1.trk Reps.ints ?_)⟩
    rw [List.length_map, (sortZ_perm _).length_eq]
    have := of_decide_eq_true g
    omega
  | @tup ds a vs t r l =>
    obtain ⟨ms, h1, hs⟩ := DD.R.bind_eq_ok hs
    obtain ⟨g, hs⟩ := ifok hs
    cases hs
    have e := Reps.ofInts (ofO_ok h1) r
    subst e
    refine ⟨a, ns, rfl, .inr t.sq, of_decide_eq_true g, fun p hp => h3.done R1 _ _ (Ext.new hp) (Rs.newL hp R1.trk Reps.ints ?_)⟩
    rw [List.length_map, (sortZ_perm _).length_eq]
    have := of_decide_eq_true g
    omega
  | _ => cases hs
theorem nox_wk (w : Wk) (ds : List D) : NoX (wkD w ds) := by
  unfold wkD
  split <;> first | exact nox_ok _ | exact nox_bad | exact nox_if (nox_ok _) nox_bad
theorem rg_reps {A : AS} (a b : Int) : Reps K cl A H (rangeD a (b - a).toNat) (rgV a b) := reps_range a (b - a).toNat
theorem imp_lrng {es : Es} (h : tE cl cx T W K (.lrng es) σV H Q) : tS cl cx T W K es σV H fun ws H1 => (∃ n : Int, ws = [.int n] ∧ RgOk 0 n ∧ ∀ q, H1 q = none → Q (.ref q) (upd H1 q (.lst (rgV 0 n)))) ∨
    (∃ a b : Int, ws = [.int a, .int b] ∧ RgOk a b ∧ ∀ q, H1 q = none → Q (.ref q) (upd H1 q (.lst (rgV a b)))) := by
  obtain ⟨P, fp, σ, R, h⟩ := h
  rw [ev] at h
  refine ⟨P, fp, σ, R, h.bind (fun z => z) fun ys σ1 fp1 ws H1 _ R1 s1 f1 i1 r1 h => ?_⟩
  obtain ⟨ds, hl, h2⟩ := h.pur (nox_looks _)
  have lk := r1.looks hl
  obtain ⟨its, hw, h3⟩ := h2.pur (nox_wk _ _)
  rcases wk_rng ds with e | ⟨n, rfl, c, e⟩ | ⟨a, b, rfl, c, e⟩
  · rw [e] at hw; cases hw
  · rw [e] at hw; cases hw
    rw [Bool.and_eq_true, decide_eq_true_eq] at c
    have c1 := inR_iff.mp c.1
    refine .inl ⟨n, Lks.ints (ns := [n]) lk, ⟨by omega, by omega, c1.1, c1.2, by omega⟩, fun p hp => h3.done R1 _ _ (Ext.new hp) (Rs.newL hp R1.trk ?_ (by rw [rangeD_len]; omega))⟩
    have := rg_reps (K := K) (cl := cl) (H := H1) (A := avS P fp1) 0 n
    rwa [Int.sub_zero] at this
  · rw [e] at hw; cases hw
    rw [Bool.and_eq_true, Bool.and_eq_true, decide_eq_true_eq] at c
    have c1 := inR_iff.mp c.1.1
    have c2 := inR_iff.mp c.1.2
    exact .inr ⟨a, b, Lks.ints (ns := [a, b]) lk, ⟨c1.1, c1.2, c2.1, c2.2, by omega⟩, fun p hp => h3.done R1 _ _ (Ext.new hp) (Rs.newL hp R1.trk (rg_reps a b) (by rw [rangeD_len]; omega))⟩
end
end DD
namespace DD
open L2 PyProof.Rows PySem PySem.Spec
variable [TabT]
section
variable {cl cx : Nat → Addr} {T : Tb} {M : Nm} {W : XK} {sc : Scope} {fb : Str → Bool} {X : Cx} {k : Nat}
variable {K : PySem.W.Frag} {P : Px} {σV : L2.St} {fp fp1 : Fp} {H H1 : Hp} {σ σ1 : Sg} {Q : VK}
/-- x.f -/
theorem imp_fld {x : E} {f : Str} (clc : ∀ c, cl c = cl 0) (nat : Cls K (cl 0) ∧ NoAttr K (cl 0) f) (h : tE cl cx T W K (.fld x f) σV H Q) : tFld K (tE cl cx T W K x) f σV H Q := by
  obtain ⟨P, fp, σ, R, h⟩ := h
  rw [ev] at h
  refine ⟨P, fp, σ, R, h.bind (fun z => z) fun v σ1 fp1 v1 H1 _ R1 s1 f1 i1 r1 h => ?_⟩
  obtain ⟨d, hd, h⟩ := h.pur (nox_objF _ _)
  obtain ⟨c, fs, e1, e2⟩ := objF_ok hd
  obtain ⟨fl, d0⟩ := v
  have e1 : d0 = .obj c fs := e1
  subst e1
  have shared : Rep K cl (avS P fp1) H1 (.obj c fs) v1 → Post K cl cx W P σV fp1 H1 σ1 (imp (.fld x f)) (RSe K cl P σV (.fld x f)) (.ok ((.dat, nrmD d), σ1)) Q →
      ∃ a C dx fs v, v1 = .ref a ∧ H1 a = some (.ins C dx fs) ∧ Cls K C ∧ NoAttr K C f ∧ fs.lookup f = some v ∧ Q v H1 := by
    intro r h
    cases r with
    | obj h1 n q =>
      obtain ⟨v, h2, h3⟩ := q.look e2
      exact ⟨_, _, _, _, v, rfl, h1, by rw [clc]; exact nat.1, by rw [clc]; exact nat.2, h2, h.doneD R1 h3⟩
  cases r1 with
  | rs r =>
    cases fl with
    | dat => exact shared r h
    | own =>
      obtain ⟨fr0, cc, n1, n2⟩ := r
      have h : Post K cl cx W P σV fp1 H1 σ1 (imp (.fld x f)) (RSe K cl P σV (.fld x f)) (.ok ((if isOdc d then .own else .dat, nrmD d), σ1)) Q := h
      cases cc with
      | @obj _ _ a dx gs fr h1 q nd =>
        rcases q.look e2 with ⟨g1, v, h2, h3⟩ | ⟨g1, b, h2, h3, h4⟩
        · rw [g1] at h
          exact ⟨_, _, _, _, v, rfl, h1, by rw [clc]; exact nat.1, by rw [clc]; exact nat.2, h2, h.doneD R1 (h3.mv (Mv.less fun _ z => .inl z))⟩
        · rw [g1] at h
          refine ⟨_, _, _, _, _, rfl, h1, by rw [clc]; exact nat.1, by rw [clc]; exact nat.2, h2, ?_⟩
          refine h fp1 _ H1 R1 (fun _ _ z => z) (Fr.refl _ _) (fun _ => ⟨rfl, rfl, Ext.refl _⟩) (.rs ⟨_, h4.mv (Mv.less fun z w => w.elim .inl fun w => .inr (by rw [List.mem_singleton.mp w]; exact List.mem_cons_of_mem _ h3)) (fun _ _ _ h _ => h), fun z hz => ?_, fun z hz => ?_⟩)
          · rw [List.mem_singleton.mp hz]
            exact n1 b (List.mem_cons_of_mem _ h3)
          · rw [List.mem_singleton.mp hz]
            exact n2 b (List.mem_cons_of_mem _ h3)
    | ino => exact (show False from r).elim
    | brw => exact (show False from r).elim
  | @brw _ _ fr cc hb =>
    have h : Post K cl cx W P σV fp1 H1 σ1 (imp (.fld x f)) (RSe K cl P σV (.fld x f)) (guard (isVar x) >>= fun _ => .ok ((if isOdc d then .brw else .dat, nrmD d), σ1)) Q := h
    obtain ⟨g, h⟩ := h.grd
    cases cc with
    | @obj _ _ a dx gs fr h1 q nd =>
      rcases q.look e2 with ⟨g1, v, h2, h3⟩ | ⟨g1, b, h2, h3, h4⟩
      · rw [g1] at h
        exact ⟨_, _, _, _, v, rfl, h1, by rw [clc]; exact nat.1, by rw [clc]; exact nat.2, h2, h.doneD R1 h3⟩
      · rw [g1] at h
        refine ⟨_, _, _, _, _, rfl, h1, by rw [clc]; exact nat.1, by rw [clc]; exact nat.2, h2, ?_⟩
        refine h fp1 _ H1 R1 (fun _ _ z => z) (Fr.refl _ _) (fun _ => ⟨rfl, rfl, Ext.refl _⟩) (.brw h4 ?_)
        cases x with
        | var i =>
          rcases hb with hb | ⟨j, hj, hb⟩
          · exact .inl fun z hz => by
              rw [List.mem_singleton.mp hz]
              exact hb b (List.mem_cons_of_mem _ h3)
          · cases hj
            exact .inr ⟨i, rfl, fun z hz => by
              rw [List.mem_singleton.mp hz]
              exact hb b (List.mem_cons_of_mem _ h3)⟩
        | _ => cases g
theorem mem_one {x a : Addr} {i : Nat} (z : a ∈ (if i = 0 then [x] else [])) : a = x := by
  split at z
  · exact List.mem_singleton.mp z
  · cases z
/-- o.m(..) -/
theorem imp_mth {m : Str} {f i n : Nat} {r : Es} (clc : ∀ c, cl c = cl 0) (h : tE cl cx T W K (.mth m f (.cons (.var i) r)) σV H Q) (hn : ∀ vs : List V, vs.length = (ioAt (.cons (.var i) r)).length → vs.length = n) :
    tMeth (cl 0) m (spF K cl cx n (T.C f)) [] W (tVar i) (tS cl cx T W K r) σV H Q := by
  have ob : ∃ v a dx gs, σV[i]? = some (some v) ∧ v = .ref a ∧ H a = some (.ins (cl 0) dx gs) ∧ gs.lookup m = none := by
    obtain ⟨P, fp, σ, R, h⟩ := h
    rw [ev] at h
    obtain ⟨g, _⟩ := h.grd
    have g : (match σ.at i with
      | some (_, .obj _ fs) => (fs.lookup m).isNone
      | _ => false) = true := g
    have s := R.at i
    split at g
    · rename_i fl c fs e
      rw [e] at s
      generalize hy : vAt σV i = y at s
      have g := Option.isNone_iff_eq_none.mp g
      have own : ∀ {A : AS} {v : V} {fr : List Addr}, Cell K cl A H (.obj c fs) v fr → y = some v → ∃ v a dx gs, σV[i]? = some (some v) ∧ v = .ref a ∧ H a = some (.ins (cl 0) dx gs) ∧ gs.lookup m = none := fun c1 e1 => by
        cases c1 with
        | obj h1 q _ => exact ⟨_, _, _, _, vAt_some.mp (hy.trans e1), rfl, by rw [← clc]; exact h1, look_none q.names g⟩
      cases s with
      | dat r _ =>
        cases r with
        | obj h1 _ q => exact ⟨_, _, _, _, vAt_some.mp hy, rfl, by rw [← clc]; exact h1, look_none q.names g⟩
      | own c1 => exact own c1 rfl
      | ino c1 _ => exact own c1 rfl
      | brw c1 _ _ => exact own c1 rfl
    · cases g
  obtain ⟨v, a, dx, gs, e1, e2, e3, e4⟩ := ob
  have h2 : tE cl cx T W K (.call f (.cons (.var i) r)) σV H Q := by
    obtain ⟨P, fp, σ, R, h⟩ := h
    rw [ev] at h
    obtain ⟨_, h⟩ := h.grd
    refine ⟨P, fp, σ, R, ?_⟩
    rw [ev]
    refine post_rs h fun fp H r v q => ?_
    cases q with
    | rs q => exact .rs q
    | brw c q =>
      refine .brw c (q.elim .inl fun ⟨j, hj, _⟩ => ?_)
      cases hj
    | ino e _ => cases e
  have h3 := imp_var (imp_cons (imp_call h2 hn))
  obtain ⟨v2, e5, h3⟩ := h3
  rw [e1] at e5
  cases e5
  exact ⟨v, e1, a, dx, gs, e2, e3, e4, h3⟩
/-- what is handed to an __init__ -/
theorem fill_none : ∀ {es : Es}, iosE es = [] → ∀ {j : Nat} {o : Option Nat}, (ioAt es)[j]? = some o → o = none := by
  intro es h j o hj
  cases o with
  | none => rfl
  | some i =>
    have : i ∈ iosE es := List.mem_filterMap.mpr ⟨some i, List.mem_of_getElem? hj, rfl⟩
    rw [h] at this
    cases this
/-- a new instance is made -/
theorem imp_mk {c f n : Nat} {es : Es} (clc : ∀ c, cl c = cl 0) (h : tE cl cx T W K (.mk c f es) σV H Q) (hn : ∀ vs : List V, vs.length = (ioAt es).length → vs.length + 1 = n) :
    tMake (cl 0) (spI K cl cx c n (T.I c f)) [] W (tS cl cx T W K es) σV H Q := by
  obtain ⟨P, fp, σ, R, h⟩ := h
  rw [ev] at h
  refine ⟨P, fp, σ, R, h.bind (fun z => z) fun xs σ1 fp1 vs H1 _ R1 s1 f1 i1 r1 h => ?_⟩
  obtain ⟨g, h⟩ := h.grd
  have g : iosE es = [] := List.isEmpty_iff.mp g
  obtain ⟨as, hfill, h⟩ := h.pur nox_fill
  obtain ⟨la, lio, each⟩ := fill_each r1 hfill
  intro x dx hx hdx ne
  rw [List.append_nil]
  have hx2 : upd H1 dx (.own x) x = none := by rw [upd_ne ne.symm]; exact hx
  have e1 : Ext H1 (upd H1 dx (.own x)) := Ext.new hdx
  have e2 : Ext H1 (upd (upd H1 dx (.own x)) x (.ins (cl 0) dx [])) := e1.trans (Ext.new hx2)
  have R2 := R1.ext e2
  generalize hH2 : upd (upd H1 dx (.own x)) x (.ins (cl 0) dx []) = H2 at e2 R2
  have h2x : H2 x = some (.ins (cl 0) dx []) := by rw [← hH2]; exact upd_same
  have nx : ¬ avS P fp1 x := fun z => R1.trk x z hx
  have mx : Mv (avS P fp1) H1 (fun a => avS P fp1 a ∨ a = x) H2 := ⟨fun b u hb nt _ => e2.keep b u hb nt, fun a z => z.elim .inl fun z => .inr (by rw [z]; exact hx)⟩
  have argsR : ArgsR K cl (fun a => avS P fp1 a ∨ a = x) H2 (fun j => if j = 0 then [x] else []) ((.ino, .obj c []) :: as) (.ref x :: vs) := by
    refine ⟨congrArg (· + 1) la, fun j y v hy hv => ?_, fun i j a h1 h2 => ?_, fun j hj => if_neg fun z => by rw [z] at hj; cases hj⟩
    · cases j with
      | zero =>
        cases hy
        cases hv
        refine .ino ?_ fun a ha => .inr (List.mem_singleton.mp ha)
        exact .obj (by rw [clc]; exact h2x) .nil (fun z => nomatch z)
      | succ j =>
        rcases each j y v hy hv with ⟨i, fl, d, q1, _⟩ | ⟨q1, ⟨d, q2, q3⟩ | ⟨d, fr, q2, c1, q3⟩⟩
        · have := fill_none g q1
          cases this
        · subst q2
          exact .dat (q3.mv mx) rfl
        · subst q2
          refine .brw (c1.mv mx fun a _ o q nt => e2.keep a o q nt) (fun a ha => ?_) rfl
          have av : avS P fp1 a := by
            rcases q3 with q3 | ⟨i, _, q3⟩
            · exact .inl (R1.bX a (q3 a ha))
            · exact .inr ⟨i, q3 a ha⟩
          refine ⟨.inl av, fun ⟨i, z⟩ => ?_⟩
          rw [mem_one z] at av; exact nx av
    · split at h1
      · rename_i e1
        split at h2
        · rename_i e2; rw [e1, e2]
        · cases h2
      · cases h1
  have ext : ∀ {H' : Hp}, Fr H2 (fun a => a = x) H' → Ext H1 H' := fun {H'} fr => by
    refine ⟨fun b o hb nt => fr.keep b o (e2.keep b o hb nt) nt fun z => ?_, fun b hb => ?_, fun z => fr.tabs (e2.tabs z)⟩
    · rw [z, hx] at hb; cases hb
    · exact fr.there b (e2.there b hb) fun z => by rw [z] at hb; exact hb hx
  have trk : Trk (fun a => avS P fp1 a ∨ a = x) H2 := fun a z => by
    rcases z with z | z
    · exact R2.trk a z
    · rw [z, h2x]; exact fun w => nomatch w
  refine ⟨fun a => avS P fp1 a ∨ a = x, _, as, x, rfl, argsR, fun a ⟨i, z⟩ => ?_, ⟨trk, R2.tabs⟩, hn vs lio.symm, ?_⟩
  · exact mem_one z
  cases hc : T.I c f as with
  | bad => rw [hc] at h; exact (show False from h).elim
  | exc y =>
    rw [hc] at h
    exact fun od H' ex fr => h od H' ex (Fr.of (ext fr)) fun _ => ext fr
  | ok d =>
    rw [hc] at h
    intro H' fr f' cc n1 n2
    have e3 := ext f'
    have eq : ∀ a, avS P fp1 a → (avS P fp1 a ∨ a = x) ∧ a ≠ x := fun a z => ⟨.inl z, fun w => nx (by rw [← w]; exact z)⟩
    refine ⟨rfl, h fp1 _ H' (R1.ext e3) (fun _ _ z => z) (Fr.of e3) (fun _ => ⟨rfl, rfl, e3⟩) (.rs ⟨fr, cc.mv (Mv.less fun a z => z.elim (fun z => .inl (eq a z)) .inr) fun _ _ _ h _ => h, fun a ha z => n1 a ha (eq a z), fun a ha => fresh_new R1 ?_⟩)⟩
    rcases n2 a ha with z | z
    · rw [z]; exact hx
    · exact e2.back z
end
end DD
namespace DD
open L2 PyProof.Rows PySem PySem.Spec
variable [TabT]
section
variable {N : List Str} {M : Nm} {sc : Scope} {fb : Str → Bool} {a : Expr}
theorem ck_bin {o : Op} {x y : E} (h : ck N M sc fb (.bin o x y) a = true) : ∃ x' y' pos, a = .BinOp x' (opA o) y' pos ∧ ck N M sc fb x x' = true ∧ ck N M sc fb y y' = true := by
  cases a with
  | BinOp x' p y' pos =>
    unfold ck at h
    rw [Bool.and_eq_true, Bool.and_eq_true, decide_eq_true_eq] at h
    obtain ⟨⟨rfl, h1⟩, h2⟩ := h
    exact ⟨x', y', pos, rfl, h1, h2⟩
  | _ => cases h
theorem and2 {a b : Bool} (h : (a && b) = true) : a = true ∧ b = true := by rwa [Bool.and_eq_true] at h
theorem and3 {a b c : Bool} (h : (a && b && c) = true) : a = true ∧ b = true ∧ c = true := by
  obtain ⟨h, h3⟩ := and2 h
  obtain ⟨h1, h2⟩ := and2 h
  exact ⟨h1, h2, h3⟩
theorem and4 {a b c d : Bool} (h : (a && b && c && d) = true) : a = true ∧ b = true ∧ c = true ∧ d = true := by
  obtain ⟨h, h4⟩ := and2 h
  obtain ⟨h1, h2, h3⟩ := and3 h
  exact ⟨h1, h2, h3, h4⟩
theorem ck_name {e : E} {i : Nat} (he : e = .var i ∨ e = .mov i ∨ e = .frz i ∨ e = .io i) (h : ck N M sc fb e a = true) : ∃ x pos, a = .Name x pos ∧ N[i]? = some x ∧ visB sc x = true ∧ okN x = true := by
  rcases he with rfl | rfl | rfl | rfl <;>
  · cases a with
    | Name x pos =>
      unfold ck at h
      obtain ⟨h1, h2, h3⟩ := and3 h
      exact ⟨x, pos, rfl, of_decide_eq_true h1, h2, h3⟩
    | _ => cases h
theorem ck_glb {g : Nat} (h : ck N M sc fb (.glb g) a = true) : ∃ x pos, a = .Name x pos ∧ M.gls[g]? = some x ∧ glB sc x = true ∧ okN x = true := by
  cases a with
  | Name x pos =>
    unfold ck at h
    obtain ⟨h1, h2, h3⟩ := and3 h
    exact ⟨x, pos, rfl, of_decide_eq_true h1, h2, h3⟩
  | _ => cases h
theorem ck_non (h : ck N M sc fb .non a = true) : ∃ j pos, a = .Constant .none j pos := by
  cases a with
  | Constant c j pos => cases c <;> first | exact ⟨j, pos, rfl⟩ | cases h
  | _ => cases h
theorem ck_bl {b : Bool} (h : ck N M sc fb (.bl b) a = true) : ∃ j pos, a = .Constant (.bool b) j pos := by
  cases a with
  | Constant c j pos =>
    cases c with
    | bool c => unfold ck at h; cases beq_iff_eq.mp h; exact ⟨j, pos, rfl⟩
    | _ => cases h
  | _ => cases h
theorem ck_int {b : Int} (h : ck N M sc fb (.int b) a = true) : ∃ j pos, a = .Constant (.int b) j pos := by
  cases a with
  | Constant c j pos =>
    cases c with
    | int c => unfold ck at h; cases beq_iff_eq.mp h; exact ⟨j, pos, rfl⟩
    | _ => cases h
  | _ => cases h
theorem ck_str {b : Str} (h : ck N M sc fb (.str b) a = true) : ∃ j pos, a = .Constant (.str b) j pos := by
  cases a with
  | Constant c j pos =>
    cases c with
    | str c => unfold ck at h; cases of_decide_eq_true h; exact ⟨j, pos, rfl⟩
    | _ => cases h
  | _ => cases h
theorem ck_tup {es : Es} (h : ck N M sc fb (.tup es) a = true) : ∃ as k pos, a = .Tuple as k pos ∧ cks N M sc fb es as = true := by
  cases a with
  | Tuple as k pos => unfold ck at h; exact ⟨as, k, pos, rfl, h⟩
  | _ => cases h
theorem ck_lst {es : Es} (h : ck N M sc fb (.lst es) a = true) : ∃ as pos, a = .List as pos ∧ cks N M sc fb es as = true := by
  cases a with
  | List as pos => unfold ck at h; exact ⟨as, pos, rfl, h⟩
  | _ => cases h
theorem ck_dct {es : Es} (h : ck N M sc fb (.dct es) a = true) : ∃ ks vs pos, a = .Dict ks vs pos ∧ ckK N M sc fb es ks vs = true ∧ ks.all (·.isSome) = true ∧ ks.length = vs.length ∧ ks.length ≤ 15 := by
  cases a with
  | Dict ks vs pos =>
    unfold ck at h
    obtain ⟨h1, h2, h3, h4⟩ := and4 h
    exact ⟨ks, vs, pos, rfl, h1, h2, of_decide_eq_true h3, of_decide_eq_true h4⟩
  | _ => cases h
theorem ck_ite {c x y : E} (h : ck N M sc fb (.ite c x y) a = true) : ∃ c' x' y' pos, a = .IfExp c' x' y' pos ∧ notIf c = true ∧ ck N M sc fb c c' = true ∧ ck N M sc fb x x' = true ∧ ck N M sc fb y y' = true := by
  cases a with
  | IfExp c' x' y' pos =>
    unfold ck at h
    obtain ⟨h0, h1, h2, h3⟩ := and4 h
    exact ⟨c', x', y', pos, rfl, h0, h1, h2, h3⟩
  | _ => cases h
theorem ck_and {es : Es} (h : ck N M sc fb (.and es) a = true) : ∃ b as pos, a = .BoolOp .And (b :: as) pos ∧ noIfs es = true ∧ cks N M sc fb es (b :: as) = true := by
  cases a with
  | BoolOp o as pos =>
    cases o with
    | And =>
      unfold ck at h
      obtain ⟨h1, h2, h3⟩ := and3 h
      cases as with
      | nil => cases h1
      | cons b as => exact ⟨b, as, pos, rfl, h2, h3⟩
    | Or => cases h
  | _ => cases h
theorem ck_or {es : Es} (h : ck N M sc fb (.or es) a = true) : ∃ b as pos, a = .BoolOp .Or (b :: as) pos ∧ noIfs es = true ∧ cks N M sc fb es (b :: as) = true := by
  cases a with
  | BoolOp o as pos =>
    cases o with
    | Or =>
      unfold ck at h
      obtain ⟨h1, h2, h3⟩ := and3 h
      cases as with
      | nil => cases h1
      | cons b as => exact ⟨b, as, pos, rfl, h2, h3⟩
    | And => cases h
  | _ => cases h
theorem ck_not {x : E} (h : ck N M sc fb (.not x) a = true) : ∃ x' pos, a = .UnaryOp .Not x' pos ∧ notIf x = true ∧ ck N M sc fb x x' = true := by
  cases a with
  | UnaryOp o x' pos =>
    cases o with
    | Not => unfold ck at h; obtain ⟨h1, h2⟩ := and2 h; exact ⟨x', pos, rfl, h1, h2⟩
    | _ => cases h
  | _ => cases h
theorem ck_neg {x : E} (h : ck N M sc fb (.neg x) a = true) : ∃ x' pos, a = .UnaryOp .USub x' pos ∧ ck N M sc fb x x' = true := by
  cases a with
  | UnaryOp o x' pos =>
    cases o with
    | USub => unfold ck at h; exact ⟨x', pos, rfl, h⟩
    | _ => cases h
  | _ => cases h
theorem ck_cmp {o : CO} {x y : E} (h : ck N M sc fb (.cmp o x y) a = true) : ∃ x' y' pos, a = .Compare x' [coA o] [y'] pos ∧ ck N M sc fb x x' = true ∧ ck N M sc fb y y' = true := by
  cases a with
  | Compare x' ps ys pos =>
    match ps, ys, h with
    | [p], [y'], h =>
      unfold ck at h
      obtain ⟨h1, h2, h3⟩ := and3 h
      cases of_decide_eq_true h1
      exact ⟨x', y', pos, rfl, h2, h3⟩
    | [], _, h => cases h
    | [_], [], h => cases h
    | [_], _ :: _ :: _, h => cases h
    | _ :: _ :: _, _, h => cases h
  | _ => cases h
theorem ck_chn {o q : CO} {x y z : E} (h : ck N M sc fb (.chn o q x y z) a = true) : ∃ x' y' z' pos, a = .Compare x' [coA o, coA q] [y', z'] pos ∧ ck N M sc fb x x' = true ∧ ck N M sc fb y y' = true ∧ ck N M sc fb z z' = true := by
  cases a with
  | Compare x' ps ys pos =>
    match ps, ys, h with
    | [p, r], [y', z'], h =>
      unfold ck at h
      obtain ⟨h, h5⟩ := and2 h
      obtain ⟨h1, h2, h3, h4⟩ := and4 h
      cases of_decide_eq_true h1
      cases of_decide_eq_true h2
      exact ⟨x', y', z', pos, rfl, h3, h4, h5⟩
    | [], _, h => cases h
    | [_], _, h => cases h
    | [_, _], [], h => cases h
    | [_, _], [_], h => cases h
    | [_, _], _ :: _ :: _ :: _, h => cases h
    | _ :: _ :: _ :: _, _, h => cases h
  | _ => cases h
theorem ck_idx {x y : E} (h : ck N M sc fb (.idx x y) a = true) : ∃ x' y' pos, a = .Subscript x' y' pos ∧ ck N M sc fb x x' = true ∧ ck N M sc fb y y' = true := by
  cases a with
  | Subscript x' y' pos =>
    unfold ck at h
    obtain ⟨h1, h2⟩ := and2 h
    exact ⟨x', y', pos, rfl, h1, h2⟩
  | _ => cases h
theorem ck_slc {x : E} {lo hi : Es} (h : ck N M sc fb (.slc x lo hi) a = true) : ∃ x' l h' p2 pos, a = .Subscript x' (.Slice l h' none p2) pos ∧ ck N M sc fb x x' = true ∧ cks N M sc fb lo l.toList = true ∧ cks N M sc fb hi h'.toList = true := by
  cases a with
  | Subscript x' y' pos =>
    cases y' with
    | Slice l h' st p2 =>
      cases st with
      | none =>
        unfold ck at h
        obtain ⟨h1, h2, h3⟩ := and3 h
        exact ⟨x', l, h', p2, pos, rfl, h1, h2, h3⟩
      | some _ => cases h
    | _ => cases h
  | _ => cases h
theorem ck_rev {x : E} (h : ck N M sc fb (.rev x) a = true) : ∃ x' j p1 p2 p3 pos, a = .Subscript x' (.Slice none none (some (.UnaryOp .USub (.Constant (.int 1) j p1) p2)) p3) pos ∧ ck N M sc fb x x' = true := by
  unfold ck at h
  split at h <;> first | cases h; done | skip
  all_goals (rename_i e; first | (cases e; done) | skip)
  all_goals (first | (cases e; exact ⟨_, _, _, _, _, _, rfl, h⟩) | skip)
theorem ck_upp {x : E} (h : ck N M sc fb (.upp x) a = true) : ∃ y p apos cpos, a = .Call (.Attribute (.Name y p) "upper" apos) [] [] cpos ∧ ck N M sc fb x (.Name y p) = true ∧ (apos.endLine == cpos.line) = true := by
  cases a with
  | Call f as kw pos =>
    cases f with
    | Attribute o name apos =>
      cases o with
      | Name y p =>
        cases as with
        | nil =>
          cases kw with
          | nil =>
            unfold ck at h
            obtain ⟨h, h3⟩ := and2 h
            obtain ⟨h1, h2⟩ := and2 h
            cases of_decide_eq_true h1
            exact ⟨y, p, apos, pos, rfl, h2, h3⟩
          | cons _ _ => cases h
        | cons _ _ => cases h
      | _ => cases h
    | _ => cases h
  | _ => cases h
theorem ck_idv {i : Nat} {y : E} (h : ck N M sc fb (.idv i y) a = true) : ∃ x p y' pos, a = .Subscript (.Name x p) y' pos ∧ N[i]? = some x ∧ visB sc x = true ∧ okN x = true ∧ ck N M sc fb y y' = true := by
  unfold ck at h
  split at h <;> first | cases h; done | skip
  all_goals (rename_i e; first | (cases e; done) | skip)
  all_goals (first | (cases e; obtain ⟨h1, h2, h3, h4⟩ := and4 h; exact ⟨_, _, _, _, rfl, of_decide_eq_true h1, h2, h3, h4⟩) | skip)
theorem ck_get1 {x y z : E} (h : ck N M sc fb (.get false x y z) a = true) : ∃ o b apos cpos, z = .non ∧ a = .Call (.Attribute o "get" apos) [b] [] cpos ∧ baseB o = true ∧ ck N M sc fb x o = true ∧ ck N M sc fb y b = true ∧ (apos.endLine == cpos.line) = true := by
  unfold ck at h
  split at h <;> first | cases h; done | skip
  all_goals (rename_i e; first | (cases e; done) | skip)
  all_goals (first | (cases e; obtain ⟨h, h5⟩ := and2 h; obtain ⟨h1, h2, h3, h4⟩ := and4 h; cases of_decide_eq_true h1; exact ⟨_, _, _, _, rfl, rfl, h2, h3, h4, h5⟩) | skip)
theorem ck_get2 {x y z : E} (h : ck N M sc fb (.get true x y z) a = true) : ∃ o b c apos cpos, a = .Call (.Attribute o "get" apos) [b, c] [] cpos ∧ baseB o = true ∧ ck N M sc fb x o = true ∧ ck N M sc fb y b = true ∧ (apos.endLine == cpos.line) = true ∧ ck N M sc fb z c = true := by
  unfold ck at h
  split at h <;> first | cases h; done | skip
  all_goals (rename_i e; first | (cases e; done) | skip)
  all_goals (first | (cases e; obtain ⟨h, h6⟩ := and2 h; obtain ⟨h, h5⟩ := and2 h; obtain ⟨h1, h2, h3, h4⟩ := and4 h; cases of_decide_eq_true h1; exact ⟨_, _, _, _, _, rfl, h2, h3, h4, h5, h6⟩) | skip)
theorem ck_isi {t : Ty} {x : E} (h : ck N M sc fb (.isi t x) a = true) : ∃ p x' p2 pos, a = .Call (.Name "isinstance" p) [x', .Name (tyN t) p2] [] pos ∧ glB sc "isinstance" = true ∧ glB sc (tyN t) = true ∧ ck N M sc fb x x' = true := by
  unfold ck at h
  split at h <;> first | cases h; done | skip
  all_goals (rename_i e; first | (cases e; done) | skip)
  all_goals (first | (cases e; obtain ⟨h, h5⟩ := and2 h; obtain ⟨h1, h2, h3, h4⟩ := and4 h; cases of_decide_eq_true h1; cases of_decide_eq_true h3; exact ⟨_, _, _, _, rfl, h2, h4, h5⟩) | skip)
theorem par_of {params : Arguments} {y : Str} (h : (match params with
    | ⟨[], [a], none, [], [], none, []⟩ => decide (a.arg = y)
    | _ => false) = true) : ∃ a : Arg, params = par1 a ∧ a.arg = y := by
  split at h
  · exact ⟨_, rfl, of_decide_eq_true h⟩
  · cases h
theorem lamB_ok {params : Arguments} {y : Str} {scope : Scope} (h : lamB params y scope = true) : ∃ a : Arg, params = par1 a ∧ a.arg = y ∧ (y == ("__debug__" : Str)) = false ∧ LamC scope y := by
  unfold lamB at h
  obtain ⟨h, h7⟩ := and2 h
  obtain ⟨h, h6⟩ := and2 h
  obtain ⟨h, h5⟩ := and2 h
  obtain ⟨h1, h2, h3, h4⟩ := and4 h
  obtain ⟨a, e1, e2⟩ := par_of h1
  refine ⟨a, e1, e2, beq_iff_eq.mp h2, ⟨of_decide_eq_true h3, ng h4, ng h5, fun z hz e => ?_, fun z hz e => ?_, of_decide_eq_true h7⟩⟩
  · have := (and2 (List.all_eq_true.mp h6 z hz)).1
    rw [e] at this; cases this
  · have := (and2 (List.all_eq_true.mp h6 z hz)).2
    rw [e] at this; cases this
theorem ck_fld {x : E} {f : Str} (h : ck N M sc fb (.fld x f) a = true) : ∃ x' pos, a = .Attribute x' f pos ∧ f ∈ M.flds ∧ baseB x' = true ∧ ck N M sc fb x x' = true := by
  unfold ck at h
  split at h <;> first | cases h; done | skip
  all_goals (rename_i e; first | (cases e; done) | skip)
  all_goals (first | (cases e; obtain ⟨h1, h2, h3, h4⟩ := and4 h; cases of_decide_eq_true h1; exact ⟨_, _, rfl, of_decide_eq_true h2, h3, h4⟩) | skip)
theorem ne_of {as : List Expr} (h : (!as.isEmpty) = true) : ∃ c r, as = c :: r := by
  cases as with
  | nil => cases h
  | cons c r => exact ⟨c, r, rfl⟩
theorem ck_mth {m : Str} {f : Nat} {es : Es} (h : ck N M sc fb (.mth m f es) a = true) : ∃ i r y p apos c as pos, es = .cons (.var i) r ∧ a = .Call (.Attribute (.Name y p) m apos) (c :: as) [] pos ∧ (m, f) ∈ M.mts ∧ ck N M sc fb (.var i) (.Name y p) = true ∧ cks N M sc fb r (c :: as) = true ∧ (c :: as).length + 1 = M.ars.getD f 0 ∧ (apos.endLine == pos.line) = true ∧ (c :: as).length < 30 := by
  unfold ck at h
  split at h <;> first | cases h; done | skip
  all_goals (rename_i e; first | (cases e; done) | skip)
  all_goals (first | (cases e; obtain ⟨h, h8⟩ := and2 h; obtain ⟨h, h7⟩ := and2 h; obtain ⟨h, h6⟩ := and2 h; obtain ⟨h, h5⟩ := and2 h; obtain ⟨h1, h2, h3, h4⟩ := and4 h; cases of_decide_eq_true h1; obtain ⟨c, r, rfl⟩ := ne_of h5; exact ⟨_, _, _, _, _, _, _, _, rfl, rfl, of_decide_eq_true h2, h3, h4, of_decide_eq_true h6, h7, of_decide_eq_true h8⟩) | skip)
theorem ck_mk {c f : Nat} {es : Es} (h : ck N M sc fb (.mk c f es) a = true) : ∃ x p b as pos, a = .Call (.Name x p) (b :: as) [] pos ∧ (x, c, f) ∈ M.mks ∧ glB sc x = true ∧ okN x = true ∧ cks N M sc fb es (b :: as) = true ∧ (b :: as).length + 1 = M.ars.getD f 0 := by
  unfold ck at h
  split at h <;> first | cases h; done | skip
  all_goals (rename_i e; first | (cases e; done) | skip)
  all_goals (first | (cases e; obtain ⟨h, h6⟩ := and2 h; obtain ⟨h, h5⟩ := and2 h; obtain ⟨h1, h2, h3, h4⟩ := and4 h; obtain ⟨c, r, rfl⟩ := ne_of h5; exact ⟨_, _, _, _, _, rfl, of_decide_eq_true h1, h2, h3, h4, of_decide_eq_true h6⟩) | skip)
theorem ck_lvs {x : E} (h : ck N M sc fb (.lvs x) a = true) : ∃ p o apos mpos pos, a = .Call (.Name "list" p) [.Call (.Attribute o "values" apos) [] [] mpos] [] pos ∧ glB sc "list" = true ∧ baseB o = true ∧ (apos.endLine == mpos.line) = true ∧ ck N M sc fb x o = true := by
  unfold ck at h
  split at h <;> first | cases h; done | skip
  all_goals (rename_i e; first | (cases e; done) | skip)
  all_goals (first | (cases e; obtain ⟨h, h6⟩ := and2 h; obtain ⟨h, h5⟩ := and2 h; obtain ⟨h1, h2, h3, h4⟩ := and4 h; cases of_decide_eq_true h1; cases of_decide_eq_true h2; exact ⟨_, _, _, _, _, rfl, h3, h4, h5, h6⟩) | skip)
theorem ck_lnt {i : Nat} {x : E} (h : ck N M sc fb (.lnt i x) a = true) : (∃ w src tg cs y vs, x = .comp w src tg cs y vs) ∧ ck N M sc fb x a = true := by
  cases a with
  | ListComp elt gs scope pos =>
    unfold ck at h
    obtain ⟨h1, h2⟩ := and2 h
    refine ⟨?_, h2⟩
    cases x with
    | comp w src tg cs y vs => exact ⟨_, _, _, _, _, _, rfl⟩
    | _ => cases h1
  | _ => cases h
theorem ck_shr {x : E} (h : ck N M sc fb (.shr x) a = true) : plainX a = true ∧ noLc a = true ∧ ck N M sc fb x a = true := by
  unfold ck at h
  obtain ⟨h, h3⟩ := and2 h
  obtain ⟨h1, h2⟩ := and2 h
  exact ⟨h1, h2, h3⟩
theorem ck_srk {x : E} (h : ck N M sc fb (.srk x) a = true) : ∃ p x' params y p1 j p2 p3 scope p4 p5 pos, a = .Call (.Name "sorted" p) [x'] [⟨some "key", .Lambda params (.Subscript (.Name y p1) (.Constant (.int 0) j p2) p3) scope p4, p5⟩] pos ∧
    M.lm = true ∧ glB sc "sorted" = true ∧ lamB params y scope = true ∧ ck N M sc fb x x' = true := by
  unfold ck at h
  split at h <;> first | cases h; done | skip
  all_goals (rename_i e; first | (cases e; done) | skip)
  all_goals (first | (cases e; obtain ⟨h, h6⟩ := and2 h; obtain ⟨h, h5⟩ := and2 h; obtain ⟨h1, h2, h3, h4⟩ := and4 h; cases of_decide_eq_true h2; cases of_decide_eq_true h4; exact ⟨_, _, _, _, _, _, _, _, _, _, _, _, rfl, h1, h3, h5, h6⟩) | skip)
theorem ck_sset {x : E} (h : ck N M sc fb (.sset x) a = true) : ∃ p p2 x' p3 pos, a = .Call (.Name "sorted" p) [.Call (.Name "set" p2) [x'] [] p3] [] pos ∧ glB sc "sorted" = true ∧ glB sc "set" = true ∧ ck N M sc fb x x' = true := by
  unfold ck at h
  split at h <;> first | cases h; done | skip
  all_goals (rename_i e; first | (cases e; done) | skip)
  all_goals (first | (cases e; obtain ⟨h, h5⟩ := and2 h; obtain ⟨h1, h2, h3, h4⟩ := and4 h; cases of_decide_eq_true h1; cases of_decide_eq_true h3; exact ⟨_, _, _, _, _, rfl, h2, h4, h5⟩) | skip)
theorem ck_lrng {es : Es} (h : ck N M sc fb (.lrng es) a = true) : ∃ p p2 c as p3 pos, a = .Call (.Name "list" p) [.Call (.Name "range" p2) (c :: as) [] p3] [] pos ∧ glB sc "list" = true ∧ glB sc "range" = true ∧ cks N M sc fb es (c :: as) = true ∧ (c :: as).length ≤ 2 := by
  cases a with
  | Call g1 as1 kw1 pos =>
    cases g1 with
    | Name f p =>
      cases kw1 with
      | cons _ _ => simp [ck] at h
      | nil =>
        cases as1 with
        | nil => cases h
        | cons a1 r1 =>
          cases r1 with
          | cons _ _ => simp [ck] at h
          | nil =>
            cases a1 with
            | Call g2 as2 kw2 p3 =>
              cases g2 with
              | Name g p2 =>
                cases kw2 with
                | cons _ _ => cases h
                | nil =>
                  unfold ck at h
                  obtain ⟨h, h7⟩ := and2 h
                  obtain ⟨h, h6⟩ := and2 h
                  obtain ⟨h, h5⟩ := and2 h
                  obtain ⟨h1, h2, h3, h4⟩ := and4 h
                  cases of_decide_eq_true h1
                  cases of_decide_eq_true h3
                  cases as2 with
                  | nil => cases h6
                  | cons c as => exact ⟨_, _, _, _, _, _, rfl, h2, h4, h5, of_decide_eq_true h7⟩
              | _ => cases h
            | _ => cases h
    | _ => cases h
  | _ => cases h
theorem ck_orl {x y : E} (h : ck N M sc fb (.orl x y) a = true) : ∃ x' y' pos, a = .BoolOp .Or [x', y'] pos ∧ ck N M sc fb x x' = true ∧ ck N M sc fb y y' = true := by
  unfold ck at h
  split at h <;> first | cases h; done | skip
  all_goals (rename_i e; first | (cases e; done) | skip)
  all_goals (first | (cases e; obtain ⟨h1, h2⟩ := and2 h; exact ⟨_, _, _, rfl, h1, h2⟩) | skip)
theorem ck_mtd {m : Mt} {x : E} {es : Es} (h : ck N M sc fb (.mtd m x es) a = true) : ∃ o apos c cpos, a = .Call (.Attribute o (mtN m) apos) [c] [] cpos ∧ baseB o = true ∧ ck N M sc fb x o = true ∧ cks N M sc fb es [c] = true ∧ (apos.endLine == cpos.line) = true := by
  cases a with
  | Call g as kw pos =>
    cases g with
    | Attribute o name apos =>
      cases kw with
      | nil =>
        unfold ck at h
        obtain ⟨h, h6⟩ := and2 h
        obtain ⟨h, h5⟩ := and2 h
        obtain ⟨h1, h2, h3, h4⟩ := and4 h
        cases of_decide_eq_true h1
        have h6 := of_decide_eq_true h6
        match as, h6 with
        | [c], _ => exact ⟨o, apos, c, pos, rfl, h2, h3, h4, h5⟩
      | cons _ _ => cases h
    | _ => cases h
  | _ => cases h
theorem sameF_eq {x y : D} (h : sameF x y = true) : x = y := by
  cases x <;> cases y <;> first | rfl | cases h | exact congrArg _ (beq_iff_eq.mp h) | exact congrArg _ (of_decide_eq_true h)
theorem sameH_ok : ∀ {x y : List (Nat × Hv)}, sameH x y = true → x = y
  | [], [], _ => rfl
  | (c, .con d) :: r, (c', .con d') :: r', h => by
    unfold sameH at h
    obtain ⟨h1, h2, h3⟩ := and3 h
    rw [of_decide_eq_true h1, sameF_eq h2, sameH_ok h3]
  | (c, .fld d) :: r, (c', .fld d') :: r', h => by
    unfold sameH at h
    obtain ⟨h1, h2, h3⟩ := and3 h
    rw [of_decide_eq_true h1, of_decide_eq_true h2, sameH_ok h3]
  | [], (_, _) :: _, h => by cases h
  | (_, .con _) :: _, [], h => by cases h
  | (_, .fld _) :: _, [], h => by cases h
  | (_, .con _) :: _, (_, .fld _) :: _, h => by cases h
  | (_, .fld _) :: _, (_, .con _) :: _, h => by cases h
theorem noPar_ok {p : Arguments} (h : noPar p = true) : p = ⟨[], [], none, [], [], none, []⟩ := by
  unfold noPar at h
  split at h
  · rfl
  · cases h
theorem ck_ask {b : Str} {hs : List (Nat × Hv)} {dn : D} {x : E} (h : ck N M sc fb (.ask b hs dn x) a = true) : ∃ p params body scope lpos pos, a = .Call (.Name b p) [.Lambda params body scope lpos] [] pos ∧ M.lm = true ∧ glB sc b = true ∧ okN b = true ∧ (b, hs, dn) ∈ M.aks ∧
    params = ⟨[], [], none, [], [], none, []⟩ ∧ LamX.lamSB sc scope = true ∧ ck N { M with lm := false } scope (fun _ => false) x body = true := by
  cases a with
  | Call g as kw pos =>
    cases g with
    | Name y p =>
      cases kw with
      | nil =>
        cases as with
        | nil => cases h
        | cons a1 r1 =>
          cases r1 with
          | cons _ _ => first | cases h | simp [ck] at h
          | nil =>
            cases a1 with
            | Lambda params body scope lpos =>
              unfold ck at h
              obtain ⟨h, h8⟩ := and2 h
              obtain ⟨h, h7⟩ := and2 h
              obtain ⟨h, h6⟩ := and2 h
              obtain ⟨h, h5⟩ := and2 h
              obtain ⟨h1, h2, h3, h4⟩ := and4 h
              cases of_decide_eq_true h2
              obtain ⟨q, q1, q2⟩ := List.any_eq_true.mp h5
              obtain ⟨q3, q4, q5⟩ := and3 q2
              obtain ⟨q6, q7, q8⟩ := q
              cases of_decide_eq_true q3
              cases sameH_ok q4
              cases sameF_eq q5
              exact ⟨p, params, body, scope, lpos, pos, rfl, h1, h3, h4, q1, noPar_ok h6, h7, h8⟩
            | _ => first | cases h | simp [ck] at h
      | cons _ _ => simp [ck] at h
    | _ => cases h
  | _ => cases h
theorem ck_call {f : Nat} {es : Es} (h : ck N M sc fb (.call f es) a = true) : ∃ x p as kws pos, a = .Call (.Name x p) as kws pos ∧ M.fns[f]? = some x ∧ glB sc x = true ∧ okN x = true ∧ cks N M sc fb es (as ++ kws.map (·.value)) = true ∧ kws.map (·.arg) = (M.kws.getD f []).map some ∧ as.length + kws.length = M.ars.getD f 0 := by
  cases a with
  | Call g as kw pos =>
    cases g with
    | Name x p =>
      unfold ck at h
      obtain ⟨h, h6⟩ := and2 h
      obtain ⟨h, h5⟩ := and2 h
      obtain ⟨h1, h2, h3, h4⟩ := and4 h
      exact ⟨x, p, as, kw, pos, rfl, of_decide_eq_true h1, h2, h3, h4, of_decide_eq_true h5, of_decide_eq_true h6⟩
    | _ => cases h
  | _ => cases h
theorem ck_bif {b : Bif} {es : Es} (h : ck N M sc fb (.bif b es) a = true) : ∃ x p c as pos, a = .Call (.Name x p) (c :: as) [] pos ∧ bifV b ≠ .none ∧ x = bifN b ∧ glB sc x = true ∧ okN x = true ∧ cks N M sc fb es (c :: as) = true := by
  cases a with
  | Call g as kw pos =>
    cases g with
    | Name x p =>
      cases kw with
      | nil =>
        unfold ck at h
        obtain ⟨h, h6⟩ := and2 h
        obtain ⟨h, h5⟩ := and2 h
        obtain ⟨h1, h2, h3, h4⟩ := and4 h
        cases as with
        | nil => cases h5
        | cons c as => exact ⟨x, p, c, as, pos, rfl, of_decide_eq_true h1, of_decide_eq_true h2, h3, h4, h6⟩
      | cons _ _ => cases h
    | _ => cases h
  | _ => cases h
theorem ck_mut {m : Mu} {i : Nat} {es : Es} (h : ck N M sc fb (.mut m i es) a = true) : ∃ x p apos as cpos, a = .Call (.Attribute (.Name x p) (muN m) apos) as [] cpos ∧ N[i]? = some x ∧ visB sc x = true ∧ okN x = true ∧
    cks N M sc fb es as = true ∧ (apos.endLine == cpos.line) = true ∧ as.length ≤ 1 := by
  cases a with
  | Call g as kw pos =>
    cases g with
    | Attribute o name apos =>
      cases o with
      | Name x p =>
        cases kw with
        | nil =>
          unfold ck at h
          obtain ⟨h, h7⟩ := and2 h
          obtain ⟨h, h6⟩ := and2 h
          obtain ⟨h, h5⟩ := and2 h
          obtain ⟨h1, h2, h3, h4⟩ := and4 h
          cases of_decide_eq_true h4
          exact ⟨x, p, apos, as, pos, rfl, of_decide_eq_true h1, h2, h3, h5, h6, of_decide_eq_true h7⟩
        | cons _ _ => cases h
      | _ => cases h
    | _ => cases h
  | _ => cases h
theorem ck_comp {w : Wk} {src cs : Es} {tg : Tg} {x : E} {vs : List Nat} (h : ck N M sc fb (.comp w src tg cs x vs) a = true) : ∃ elt t it ifs scope pos, a = .ListComp elt [⟨t, it, ifs, 0⟩] scope pos ∧
    blkC N sc scope (vs.map fun i => (N.getD i Str.empty, i)) = true ∧ (∀ i ∈ tgSlots tg, i ∈ vs) ∧
    ((w = .seq ∧ cks N M sc fb src [it] = true) ∨ (w = .rng ∧ ∃ p c as pos, it = .Call (.Name "range" p) (c :: as) [] pos ∧ glB sc "range" = true ∧ cks N M sc fb src (c :: as) = true ∧ (c :: as).length ≤ 2) ∨
      (w = .zip ∧ ∃ p c1 c2 pos elts kk tpos, it = .Call (.Name "zip" p) [c1, c2] [] pos ∧ t = .Tuple elts kk tpos ∧ glB sc "zip" = true ∧ cks N M sc fb src [c1, c2] = true ∧ (imps cs || imp x) = false) ∨
      (w = .enu ∧ ∃ p c1 pos elts kk tpos, it = .Call (.Name "enumerate" p) [c1] [] pos ∧ t = .Tuple elts kk tpos ∧ glB sc "enumerate" = true ∧ cks N M sc fb src [c1] = true ∧ (imps cs || imp x) = false)) ∧
    ckTg N (relB scope sc) (fbB scope) tg t = true ∧ ifs.length ≤ 1 ∧ noIfs cs = true ∧ cks N M (relB scope sc) (fbB scope) cs ifs = true ∧ ck N M (relB scope sc) (fbB scope) x elt = true := by
  cases a with
  | ListComp elt gs scope pos =>
    match gs, h with
    | [⟨t, it, ifs, b⟩], h =>
      unfold ck at h
      obtain ⟨h, h9⟩ := and2 h
      obtain ⟨h, h8⟩ := and2 h
      obtain ⟨h, h7⟩ := and2 h
      obtain ⟨h, h6⟩ := and2 h
      obtain ⟨h, h5⟩ := and2 h
      obtain ⟨h, h4⟩ := and2 h
      obtain ⟨h1, h2, h3, _⟩ := and4 h
      cases of_decide_eq_true h1
      refine ⟨elt, t, it, ifs, scope, pos, rfl, h2, of_decide_eq_true h3, ?_, h5, of_decide_eq_true h6, h7, h8, h9⟩
      cases w with
      | seq => exact .inl ⟨rfl, h4⟩
      | rng =>
        cases it with
        | Call g as kw p2 =>
          cases g with
          | Name y p =>
            cases kw with
            | nil =>
              obtain ⟨h4, q5⟩ := and2 h4
              obtain ⟨q1, q2, q3, q4⟩ := and4 h4
              cases of_decide_eq_true q1
              cases as with
              | nil => cases q4
              | cons c as => exact .inr (.inl ⟨rfl, p, c, as, p2, rfl, q2, q3, of_decide_eq_true q5⟩)
            | cons _ _ => cases h4
          | _ => cases h4
        | _ => cases h4
      | zip =>
        cases it with
        | Call g as kw p2 =>
          cases g with
          | Name y p =>
            cases kw with
            | nil =>
              obtain ⟨h4, q6⟩ := and2 h4
              obtain ⟨h4, q5⟩ := and2 h4
              obtain ⟨q1, q2, q3, q4⟩ := and4 h4
              cases of_decide_eq_true q1
              have q4 := of_decide_eq_true q4
              match as, q4 with
              | [c1, c2], _ =>
                cases t with
                | Tuple elts kk tpos => exact .inr (.inr (.inl ⟨rfl, p, c1, c2, p2, elts, kk, tpos, rfl, rfl, q2, q3, by simpa using q6⟩))
                | _ => cases q5
            | cons _ _ => cases h4
          | _ => cases h4
        | _ => cases h4
      | enu =>
        cases it with
        | Call g as kw p2 =>
          cases g with
          | Name y p =>
            cases kw with
            | nil =>
              obtain ⟨h4, q6⟩ := and2 h4
              obtain ⟨h4, q5⟩ := and2 h4
              obtain ⟨q1, q2, q3, q4⟩ := and4 h4
              cases of_decide_eq_true q1
              have q4 := of_decide_eq_true q4
              match as, q4 with
              | [c1], _ =>
                cases t with
                | Tuple elts kk tpos => exact .inr (.inr (.inr ⟨rfl, p, c1, p2, elts, kk, tpos, rfl, rfl, q2, q3, by simpa using q6⟩))
                | _ => cases q5
            | cons _ _ => cases h4
          | _ => cases h4
        | _ => cases h4
      | _ => cases it <;> cases h4
    | [], h => cases h
    | _ :: _ :: _, h => simp [ck] at h
  | _ => cases h
theorem star_tail {es : Es} {c : Expr} {as : List Expr} (h : cks N M sc fb es (c :: as) = true) (env : Env) (pos : Pos) : (backTo pos (starEach as env)).any (·.1) = false := by
  cases es with
  | nil => cases h
  | cons e r =>
    unfold cks at h
    exact star_any (and2 h).2
/-- a method's call, as the rules ask for it -/
theorem meth_ht {y m : Str} {p apos pos : Pos} {c : Expr} {as : List Expr} {env : Env} (hs : starEach (c :: as) env = (false, eval c env) :: starEach as env) (ha : (backTo pos (starEach as env)).any (·.1) = false)
    (hl : (apos.endLine == pos.line) = true) (hn : (c :: as).length < 30) :
    eval (.Call (.Attribute (.Name y p) m apos) (c :: as) [] pos) env = (do
      let ov ← eval (.Name y p) env
      standAt apos.atName
      let (f, first) ← holding [ov] (getMethod ov m (do return (← importBound (.Name y p) env).getD true))
      callWith pos f first (backTo pos (starEach (c :: as) env)) (backToKw pos (keywordEach [] env))) := by
  have hf : methodCallForm ((c :: as).length + ([] : List Keyword).length) (backTo pos (starEach (c :: as) env)) (backToKw pos (keywordEach [] env)) = true := by
    have e : (backTo pos (starEach (c :: as) env)).all (!·.1) = true := by
      rw [hs]
      show (!false && (backTo pos (starEach as env)).all (!·.1)) = true
      rw [Bool.not_false, Bool.true_and, List.all_eq_not_any_not]
      simp only [Bool.not_not]
      rw [ha]; rfl
    unfold methodCallForm
    rw [e, show backToKw pos (keywordEach [] env) = [] from rfl]
    simpa using hn
  have hp : methodCallPos true (.Name y p) env apos pos = pure pos := by
    unfold methodCallPos
    rw [hl]; rfl
  show (do
    let ov ← eval (.Name y p) env
    standAt apos.atName
    methodCall (.Name y p) m apos pos env ov ((c :: as).length + ([] : List Keyword).length) (backTo pos (starEach (c :: as) env)) (backToKw pos (keywordEach [] env))) = _
  unfold methodCall calleeOf
  rw [hf, hp]
  rfl
end
end DD
namespace DD
open L2 PyProof.Rows PySem PySem.Spec LamX
variable [TabT]
section
variable {X : Cx} {pins : List (Addr × Obj)} {σ : L2.St} {H : Hp} {s : Shared}
theorem lam_makeG {T : List (Addr × Str)} {c t : Addr} {params : Arguments} {body : Expr} {scope : Scope} {pos : Pos} {E : Value → Shared → Prop} {R : Value → Shared → Prop} (J : Inv X pins σ H s) (tc : TabC T X c t) (hd : defaultsOf params X.env = ([], []))
    (fr : ∀ z ∈ scope.names, z.2 = .free → ∃ d, X.env.cells.lookup z.1 = some d) (tt : Tabs T H)
    (done : ∀ (f c2 : Addr) (pm ctv : Value) (G : Hp) (z : Shared), Inv X pins σ G z → ExtN H G → (∀ b, H b ≠ none → G b ≠ none) → Tabs T G →
      z.heap.get? f = some (PySem.W.kla_obj "<lambda>" (X.env.qual ++ "<lambda>") params body scope (cloFrom X.env.cells scope.names []) pm c2 ctv) → G f = none → f ∉ frs X.stack → G c2 = some (CodeO c2 (X.env.qual ++ "<lambda>")) → R (.ref f) z) :
    wpAny (model X.prog X.w) X.A (eval (.Lambda params body scope pos) X.env) R E s := by
  obtain ⟨ps, eP, tr, each⟩ := tt _ tc.mem
  refine PySem.W.kla_eval hd ?_
  have bP : s.heap.BuiltinsAt X.mg t := tc.b.bm.keeps J.bk
  have oP : s.heap.get? t = some { cls := .none, data := .fields ps } := J.hok t _ eP
  have nf : ∀ f, s.heap.objs.size ≤ f → f ∉ frs X.stack := fun f hf z => by
    rcases List.mem_cons.mp (J.stkSub _ z) with e | e
    · have := J.lt
      rw [← e] at this
      exact Nat.lt_irrefl _ (Nat.lt_of_lt_of_le this hf)
    · exact J.nofs hf e
  cases hc : codeAmong pos ps.toList with
  | some cv =>
    obtain ⟨d, e, ed⟩ := each pos cv hc
    subst e
    refine PySem.W.kla_makeFunctionHit (mg := X.mg) (c := c) (P := t) (ps := ps) (closure_ok fr) J.ok.glob (J.mod.glob.keeps J.bk) tc.code (tc.b.code.keeps J.bk) oP tr hc bP fun ctv g tk kx hsz => ?_
    have I1 : Inv X pins σ H { s with heap := g.push (PySem.W.kla_obj "<lambda>" (X.env.qual ++ "<lambda>") params body scope (cloFrom X.env.cells scope.names []) ((X.mg "__name__").getD .none) d ctv), toks := tk } := J.kept fun b o e => Heap.get?_push_of_some _ (kx b o e)
    exact done g.objs.size d _ ctv H _ I1 (ExtN.refl H) (fun _ z => z) tt (Heap.get?_push_size _ rfl) (J.hok.fresh hsz) (nf _ hsz) ed
  | none =>
    refine PySem.W.kla_makeFunction (mg := X.mg) (c := c) (P := t) (ps := ps) (closure_ok fr) J.ok.glob (J.mod.glob.keeps J.bk) tc.code (tc.b.code.keeps J.bk) oP tr hc tc.b.gP bP fun d ctv g tk kx hge hlt hrec htb => ?_
    obtain ⟨d2, oc, us, k, e2, r1, r2, r3⟩ := hrec
    cases e2
    have hsz : s.heap.objs.size ≤ g.objs.size := Nat.le_trans hge (Nat.le_of_lt hlt)
    have nD : H d = none := J.hok.fresh hge
    have I1 := inv_table (t' := tk) (more := #[rawInt pos.line, rawInt pos.col, .ref d]) (h' := g.push (PySem.W.kla_obj "<lambda>" (X.env.qual ++ "<lambda>") params body scope (cloFrom X.env.cells scope.names []) ((X.mg "__name__").getD .none) d ctv)) J eP
      (fun b o nb e => Heap.get?_push_of_some _ (kx b o nb e)) (Heap.get?_push_of_some _ htb) hge ⟨oc, us, k, Heap.get?_push_of_some _ r1, r2, r3⟩
    have eN : ExtN H (upd (upd H t (.tbl (ps ++ #[rawInt pos.line, rawInt pos.col, .ref d]))) d (CodeO d (X.env.qual ++ "<lambda>"))) := fun b o e nt => by
      have b1 : b ≠ t := fun z => by
        rw [z, eP] at e
        exact nt ps (Option.some.inj e).symm
      rw [upd_ne (ne_of_none e nD), upd_ne b1]
      exact e
    have eL : (ps ++ #[rawInt pos.line, rawInt pos.col, .ref d]).toList = ps.toList ++ [rawInt pos.line, rawInt pos.col, .ref d] := by simp
    have td : t ≠ d := ne_of_none eP nD
    refine done g.objs.size d _ ctv _ _ I1 eN (fun b z => upd2_there z) (fun p hp => ?_) (Heap.get?_push_size _ rfl) ?_ (nf _ hsz) upd_same
    · by_cases hb : p.1 = t
      · rw [tc.uni p hp hb, hb]
        refine ⟨_, by rw [upd_ne td, upd_same], by rw [eL]; exact PySem.TriplesOk_snoc _ _ _ _ tr, fun p2 cv z => ?_⟩
        rw [eL] at z
        rcases among_app _ tr z with z | z
        · obtain ⟨d0, e1, e2⟩ := each p2 cv z
          exact ⟨d0, e1, eN _ _ e2 codeO_ne⟩
        · exact ⟨d, z, upd_same⟩
      · obtain ⟨ps2, a1, a2, a3⟩ := tt p hp
        refine ⟨ps2, by rw [upd_ne (ne_of_none a1 nD), upd_ne hb]; exact a1, a2, fun p2 cv z => ?_⟩
        obtain ⟨d0, e1, e2⟩ := a3 p2 cv z
        exact ⟨d0, e1, eN _ _ e2 codeO_ne⟩
    · have n2 : g.objs.size ≠ t := Nat.ne_of_gt (Nat.lt_of_lt_of_le (Heap.lt_size oP) hsz)
      rw [upd_ne (Nat.ne_of_gt hlt), upd_ne n2]
      exact J.hok.fresh hsz
end
abbrev TTK := (XK → Hp → VK → Prop) → Hp → VK → Prop
def tAsk (T : List (Addr × Str)) (TT : TTK) (t : XK → TE) : TE := fun σ H Q => Tabs T H ∧ ∀ H1, ExtN H H1 → (∀ b, H b ≠ none → H1 b ≠ none) → Tabs T H1 → TT (fun E H' Q' => t E σ H' Q') H1 Q
theorem pe_ask {X : Cx} {T : List (Addr × Str)} {TT : TTK} {x a name qual : Str} {g c P : Addr} {k : Nat} {pg : Arguments} {bg : List Stmt} {sg : Scope} {dV kV doc pm cdv ct oc : Value} {an od : Option Addr} {osl : Array (Option Value)} {Ng : List Str}
    {params : Arguments} {body : Expr} {scope : Scope} {t : XK → TE} {p lpos pos : Pos} (hg : Gl X x) (hm : X.mg x = some (.ref g)) (hk : PySem.W.keepIn X.K (.ref g) = true)
    (lk : X.K.lookup g = some ⟨oc, od, .func (PySem.W.fnOf name qual pg bg sg dV kV doc pm an cdv ct), osl⟩) (hcg : PySem.W.codeIn X.K cdv qual = true) (hb : L2.Binds X.K (PySem.W.fnOf name qual pg bg sg dV kV doc pm an cdv ct) [a] []) (Sg : FnScope Ng [a] sg) (hNg : Ng[0]? = some a) (hva : Vis sg a)
    (hG : GivesTo X Ng qual sg g cdv bg a (X.env.qual ++ "<lambda>") TT) (tc : TabC T X c P) (hr : Room (k + 2) X.A) (L : LamS X.env.scope scope) (hdef : defaultsOf params X.env = ([], []))
    (hbind : ∀ (q : Str) (cl : List (Str × Addr)) (pm cv ctv : Value), bindArgs (PySem.W.kla_fn "<lambda>" q params body scope cl pm cv ctv) ⟨[], []⟩ = pure [])
    (hbody : ∀ (A : Around) (outer : List Env) (s : Shared) (H : Hp) (E : XK) (f c' : Addr), Room k (A.deeper (lamEnv X scope s.heap.objs.size f c')) → PE (lamCx X A outer s H E scope f c') body (t E))
    (hdb : (x == ("__debug__" : Str)) = false) (hd : (a == ("__debug__" : Str)) = false) (hcd : (a == ("__classdict__" : Str)) = false) :
    PE X (.Call (.Name x p) [.Lambda params body scope lpos] [] pos) (tAsk T TT t) := by
  refine ⟨fun pins s σ H Q I h => ?_⟩
  obtain ⟨hT, h⟩ := h
  refine wpAny_Call_Name_kw (ld_glob I hg hm (PySem.W.callWith_K (h₀ := X.base) I.ok.mod.kin hk ?_ (by rfl) (by rfl)) hdb)
  show wpAny _ _ (spliced ((false, eval (.Lambda params body scope lpos) X.env) :: backTo pos (starEach [] X.env))) _ _ s
  refine Calls.spliced_cons (lam_makeG I tc hdef (L.has I.ok) hT fun f c2 pm2 ctv G z I1 eN th t1 of nf sf oc2 => Calls.spliced_nil ⟨I1.kIn, ?_⟩)
  have rc : codeAny (model X.prog X.w) X.A (.call (.ref g) ⟨[.ref f], []⟩) (CR C8.CX0 X.stack X.prog X.w G z Q C8.E0) z := by
    refine run_ofS (N := Ng) (ps := [a]) (us := [.ref f]) (vs := [.ref f]) lk hcg Sg hr I1.env0 (hb z [.ref f] I1.kIn rfl) (.cons rfl .nil) rfl fun hr2 => ?_
    obtain ⟨t2, ht2, hq⟩ := hG f c2 z G Q (fun E H' Q' => t E σ H' Q') (fun W pn xe E p1 p2 tk hW => pe_act (i := 0) I1 L of nf sf (hbind _ _ _ _ _) tk hW hr2 (fun A outer s H hr3 => hbody A outer s H E f c2 hr3) hNg hva hd hcd) oc2 (h G eN th t1)
    exact ⟨t2, ht2.nox, hq⟩
  refine wpAny_call (codeAny_mono rc fun r s2 hq => ?_)
  cases r with
  | error e => exact (show False from hq).elim
  | ok fl =>
    cases fl with
    | ret u => exact I1.after hq
    | next => exact False.elim hq
    | brk => exact False.elim hq
    | cont => exact False.elim hq
def vC : D → V
  | .bl b => .bl b
  | .int i => .int i
  | .str x => .str x
  | _ => .non
theorem cn_ok {X : Cx} {cl : Nat → Addr} {d : D} {a : Expr} (h : cnB d a = true) : PE X a (tC (vC d)) ∧ ∀ (K : PySem.W.Frag) A H, Rep K cl A H d (vC d) := by
  unfold cnB at h
  split at h
  · exact ⟨pe_non, fun _ _ _ => .non⟩
  · cases beq_iff_eq.mp h; exact ⟨pe_bl, fun _ _ _ => .bl _⟩
  · cases beq_iff_eq.mp h; exact ⟨pe_int, fun _ _ _ => .int _⟩
  · cases of_decide_eq_true h; exact ⟨pe_str, fun _ _ _ => .str _⟩
  · cases h
theorem cn_rep {d : D} {a : Expr} (h : cnB d a = true) (K : PySem.W.Frag) (A : AS) (H : Hp) (cl : Nat → Addr) : Rep K cl A H d (vC d) := by
  unfold cnB at h
  split at h
  · exact .non
  · exact .bl _
  · exact .int _
  · exact .str _
  · cases h
theorem ckx_rep {exs : List Str} {sc : Scope} : ∀ {hs : List (Nat × D)} {hds : List ExceptHandler}, ckHx exs sc hs hds = true → ∀ q ∈ hs, (∃ x, exs[q.1]? = some x) ∧ ∀ (K : PySem.W.Frag) A H (cl : Nat → Addr), Rep K cl A H q.2 (vC q.2)
  | [], _, _, q, hq => nomatch hq
  | _ :: _, [], h, _, _ => by unfold ckHx at h; cases h
  | q :: hs, hd :: hds, h, z, hz => by
    unfold ckHx at h
    obtain ⟨h, h5⟩ := and2 h
    rcases List.mem_cons.mp hz with rfl | hz
    · cases e : hdN hd with
      | none => rw [e] at h; cases h
      | some z =>
        obtain ⟨x, a⟩ := z
        rw [e] at h
        obtain ⟨h1, h2, h3, h4⟩ := and4 h
        exact ⟨⟨x, of_decide_eq_true h1⟩, fun K A H cl => cn_rep h4 K A H cl⟩
    · exact ckx_rep h5 z hz
theorem hdN_ok {hd : ExceptHandler} {x : Str} {a : Expr} (h : hdN hd = some (x, a)) : ∃ np rp pos, hd = .ExceptHandler (some (.Name x np)) none [.Return (some a) rp] pos := by
  unfold hdN at h
  split at h
  · cases h; exact ⟨_, _, _, rfl⟩
  · cases h
abbrev hdL (cx : Nat → Addr) (hs : List (Nat × D)) : List (Value × (Addr → Value → Option Addr → TS)) := hs.map fun q => (.ref (cx q.1), fun _ _ _ D _ H => D.rt (vC q.2) H)
theorem hdx_ok {X : Cx} {cl cx : Nat → Addr} {exs : List Str} {sc : Scope} (sx : X.env.scope = sc) (ex : ∀ c x, exs[c]? = some x → ExF X.K X.mg (cx c) x) : ∀ {hs : List (Nat × D)} {hds : List ExceptHandler}, ckHx exs sc hs hds = true →
    HdsOk X hds (hdL cx hs) ∧ (∀ q ∈ hs, (∃ x, exs[q.1]? = some x) ∧ ∀ (K : PySem.W.Frag) A H, Rep K cl A H q.2 (vC q.2))
  | [], [], _ => ⟨.nil, fun _ h => nomatch h⟩
  | [], _ :: _, h => by unfold ckHx at h; cases h
  | _ :: _, [], h => by unfold ckHx at h; cases h
  | q :: hs, hd :: hds, h => by
    unfold ckHx at h
    obtain ⟨h, h5⟩ := and2 h
    cases e : hdN hd with
    | none => rw [e] at h; cases h
    | some z =>
      obtain ⟨x, a⟩ := z
      rw [e] at h
      obtain ⟨h1, h2, h3, h4⟩ := and4 h
      obtain ⟨np, rp, pos, rfl⟩ := hdN_ok e
      have h1 := of_decide_eq_true h1
      obtain ⟨r1, r2⟩ := hdx_ok (cl := cl) sx ex h5
      have F := ex q.1 x h1
      have gl : Gl X x := by
        show X.env.scope.names.lookup x = some .globalImplicit
        rw [sx]
        unfold glB at h2
        split at h2
        · assumption
        · cases h2
      refine ⟨.cons ⟨gl, (okN_iff h3).1, .inl F.mg⟩ (fun a oe cls d2 pn _ _ => ?_) r1, fun z hz => ?_⟩
      · exact ⟨fun pins s σ H D I q => (pss_cons (ps_ret (cn_ok (cl := cl) h4).1) pss_nil).run pins s σ H D I q⟩
      · rcases List.mem_cons.mp hz with rfl | hz
        · exact ⟨⟨x, h1⟩, (cn_ok (X := X) h4).2⟩
        · exact r2 z hz
/-- what it makes of the lambda's reading -/
def TTell (K : PySem.W.Frag) (cx : Nat → Addr) (hs : List (Nat × D)) (dn : D) : TTK := fun tl H Q =>
  tl (fun cls d H' => ∀ (Dn : Ends) (σ' : L2.St), Dn.rt = Q → wMany K (fun _ _ _ _ => False) Dn (hdL cx hs) cls d σ' H') H (fun _ H' => Q (vC dn) H')
theorem tell_gives {X : Cx} {cx : Nat → Addr} {exs : List Str} {Ng : List Str} {x a q : Str} {sg : Scope} {g : Addr} {cdg : Value} {bg : List Stmt} {hs : List (Nat × Hv)} {dn : D} (ex : ∀ c x, exs[c]? = some x → ExF X.K X.mg (cx c) x) (h0 : ∀ f : Addr, (L2.start Ng [V.ref f])[0]? = some (some (.ref f)))
    (h : tellB exs sg a hs dn bg = true) : ∃ l, conH hs = some l ∧ (∀ q ∈ l, (∃ x, exs[q.1]? = some x) ∧ ∀ (K : PySem.W.Frag) A H (cl : Nat → Addr), Rep K cl A H q.2 (vC q.2)) ∧ (∀ (K : PySem.W.Frag) A H (cl : Nat → Addr), Rep K cl A H dn (vC dn)) ∧ GivesTo X Ng x sg g cdg bg a q (TTell X.K cx l dn) := by
  unfold tellB at h
  split at h
  · rename_i y yp yq ep hds tp c rp
    obtain ⟨h1, h2, h3, h4⟩ := and4 h
    have h1 := of_decide_eq_true h1
    subst h1
    cases e : conH hs with
    | none => rw [e] at h3; cases h3
    | some l =>
      rw [e] at h3
      have h3 : ckHx exs sg l hds = true := h3
      refine ⟨l, rfl, fun q hq => ?_, fun K A H cl => cn_rep h4 K A H cl, fun f c' s H Q tl act hc hq => ?_⟩
      · exact ckx_rep h3 q hq
      · have hz : HdsOk (cxOf C8.CX0 X.prog X.w X.K X.mg X.base Ng x sg g cdg X.A X.stack s H C8.E0).nox hds (hdL cx l) := (hdx_ok (X := (cxOf C8.CX0 X.prog X.w X.K X.mg X.base Ng x sg g cdg X.A X.stack s H C8.E0).nox) (cl := fun _ => g) (sc := sg) rfl ex h3).1
        cases hds with
        | nil => cases h2
        | cons hd hds =>
          refine ⟨_, pss_cons (ps_try_many (X := (cxOf C8.CX0 X.prog X.w X.K X.mg X.base Ng x sg g cdg X.A X.stack s H C8.E0).nox) (tb := fun W2 D σ H => ∃ Ech : XK, (∀ cls d σ' H', Ech cls d H' → W2 cls d σ' H') ∧ σ[0]? = some (some (.ref f)) ∧ H c' = some (CodeO c' q) ∧ tl Ech H (fun _ H' => D.nx σ H'))
            rfl rfl takes_non (fun W pn xe tk _ => ?_) hz) (pss_cons (ps_ret (cn_ok (cl := fun _ => g) h4).1) pss_nil), ?_⟩
          · refine ⟨fun pins s' σ H' D I h' => ?_⟩
            obtain ⟨Ech, hW, h1, h2, h3⟩ := h'
            exact (pss_cons (ps_expr (act W pn xe Ech yp yq tk hW) rfl) pss_nil).run pins s' σ H' D I ⟨h1, h2, h3⟩
          · exact ⟨_, fun cls d σ' H' w => w _ σ' rfl, h0 f, hc, hq⟩
  · cases h
section
variable {cl cx : Nat → Addr} {T : Tb} {M : Nm} {W : XK} {sc : Scope} {fb : Str → Bool} {X : Cx} {k : Nat}
theorem Good.lam (G : Good cl cx T M W sc fb X k) {A : Around} {outer : List Env} {s : Shared} {H : Hp} {E : XK} {scope : Scope} {f c' : Addr} (hr : Room (k + 1) (A.deeper (lamEnv X scope s.heap.objs.size f c'))) :
    Good cl cx T { M with lm := false } E scope (fun _ => false) (lamCx X A outer s H E scope f c') k where
  calm := rfl
  nd := G.nd
  sc := rfl
  fb := rfl
  rm := hr
  rm3 := nofun
  aks := G.aks
  pas := passes_call (W := fun cls d _ H => E cls d H) (takes_of rfl rfl rfl rfl) fun cls d σ H h => h
  tk := takes_of rfl rfl rfl rfl
  exs := G.exs
  exm := G.exm
  fns := G.fns
  gls := G.gls
  blt := G.blt
  rng := G.rng
  zip := G.zip
  enu := G.enu
  fre := G.fre
  tab := nofun
  clc := G.clc
  nat := G.nat
  mts := G.mts
  mks := G.mks
end
section
variable {cl cx : Nat → Addr} {T : Tb} {W : XK} {K : PySem.W.Frag} {P : Px} {σV : L2.St} {fp fp1 : Fp} {H H1 : Hp} {σ σ1 : Sg} {Q : VK}
theorem find_con {c : Nat} : ∀ {hs : List (Nat × Hv)} {l : List (Nat × D)} {q : Nat × Hv}, conH hs = some l → (hs.find? fun q => decide (q.1 = c)) = some q → ∃ d, q.2 = .con d ∧ (l.find? fun q => decide (q.1 = c)) = some (q.1, d)
  | [], _, _, _, h => by cases h
  | (c0, .con d) :: hs, l, q, e, h => by
    have e : (conH hs).map ((c0, d) :: ·) = some l := e
    cases e2 : conH hs with
    | none => rw [e2] at e; cases e
    | some l2 =>
      rw [e2] at e
      cases e
      rw [List.find?_cons] at h
      rw [List.find?_cons]
      by_cases z : c0 = c
      · rw [decide_eq_true z] at h ⊢
        cases h
        exact ⟨d, rfl, rfl⟩
      · rw [decide_eq_false z] at h ⊢
        exact find_con e2 h
  | (c0, .fld f) :: hs, l, q, e, h => by cases e
theorem imp_ask {a : Str} {hs : List (Nat × Hv)} {dn : D} {x : E} {l : List (Nat × D)} (hl : conH hs = some l) (rl : ∀ q ∈ l, ∀ A H, Rep K cl A H q.2 (vC q.2)) (rd : ∀ A H, Rep K cl A H dn (vC dn))
    (hm : ∀ q ∈ l, ∀ q' ∈ l, PySem.W.exmOne K (.ref (cx q.1)) (.ref (cx q'.1)) = some (decide (q.1 = q'.1))) (h : tE cl cx T W K (.ask a hs dn x) σV H Q) : tAsk TabT.T (TTell K cx l dn) (fun E => tE cl cx T E K x) σV H Q := by
  obtain ⟨P, fp, σ, R, h⟩ := h
  rw [ev] at h
  obtain ⟨g, h⟩ := h.grd
  have g := ng g
  refine ⟨R.tabs, fun H1 eN th t1 => ?_⟩
  have t : Ext H H1 := ⟨eN, th, fun _ => t1⟩
  have R1 := R.ext t
  refine ⟨P, fp, σ, R1, ?_⟩
  cases hm2 : ev T x σ with
  | bad => rw [hm2] at h; exact (show False from h).elim
  | ok p =>
    rw [hm2] at h
    intro fp1 v1 H2 R2 s1 f1 i1 r1
    obtain ⟨e1, e2, t2⟩ := i1 g
    exact h fp (vC dn) H2 (R1.ext t2) (fun _ _ z => z) (Fr.of (t.trans t2)) (fun _ => ⟨rfl, rfl, t.trans t2⟩) (.rs (x := (.dat, dn)) (rd _ _))
  | exc y =>
    rw [hm2] at h
    intro od H2 ex fr e Dn σ2 eD
    have t2 := e g
    have h : Post K cl cx W P σV fp H σ (imp (.ask a hs dn x)) (RSe K cl P σV (.ask a hs dn x)) (match hs.find? fun q => decide (q.1 = y.c) with
      | some q => (do let d ← askD q.2 y; .ok ((.dat, d), σ))
      | none => .bad) Q := h
    cases hf : hs.find? fun q => decide (q.1 = y.c) with
    | none => rw [hf] at h; exact (show False from h).elim
    | some q =>
      obtain ⟨d, e1, hf2⟩ := find_con hl hf
      rw [hf] at h
      have h : Post K cl cx W P σV fp H σ (imp (.ask a hs dn x)) (RSe K cl P σV (.ask a hs dn x)) (askD q.2 y >>= fun d => .ok ((.dat, d), σ)) Q := h
      rw [e1] at h
      have hq : q.1 = y.c := by
        have := List.find?_some hf
        exact of_decide_eq_true this
      have qm := List.mem_of_find?_eq_some hf2
      have fin : Dn.rt (vC d) H2 := by
        rw [eD]
        exact h fp (vC d) H2 (R1.ext t2) (fun _ _ z => z) (Fr.of (t.trans t2)) (fun _ => ⟨rfl, rfl, t.trans t2⟩) (.rs (x := (.dat, d)) (rl _ qm _ _))
      rw [← hq]
      have go : ∀ m : List (Nat × D), (∀ z ∈ m, z ∈ l) → (m.find? fun z => decide (z.1 = y.c)) = some (q.1, d) → wMany K (fun _ _ _ _ => False) Dn (hdL cx m) (.ref (cx q.1)) od σ2 H2 := by
        intro m
        induction m with
        | nil => intro _ z; cases z
        | cons z m ih =>
          intro hl hz
          refine ⟨_, hm _ qm z (hl z List.mem_cons_self), fun hb a _ => ?_, fun hb => ?_⟩
          · have hb := of_decide_eq_true hb
            rw [List.find?_cons, decide_eq_true (by rw [← hb, hq])] at hz
            cases hz
            exact fin
          · have hb := of_decide_eq_false hb
            rw [List.find?_cons, decide_eq_false (fun e => hb (by rw [hq, e]))] at hz
            exact ih (fun u hu => hl u (List.mem_cons_of_mem _ hu)) hz
      exact go l (fun _ h => h) hf2
theorem nox_truL (x : Fl × D) : NoX (truL x) := fun y e => by
  obtain ⟨f, d⟩ := x
  cases f <;> cases d <;> cases e
theorem nox_rsl (x : Fl × D) : NoX (rsl x) := fun y e => by
  obtain ⟨f, d⟩ := x
  cases f <;> cases e
theorem truL_ok {A : AS} {e : E} {x : Fl × D} {v : V} {b : Bool} (r : Res K cl P fp σV H e x v) (h : truL x = .ok b) : TruV K v H b ∧ Rs K cl (newP P) (avS P fp) H x v := by
  obtain ⟨f, d⟩ := x
  cases r with
  | rs r =>
    refine ⟨?_, r⟩
    have lk := r.rep.lk
    cases d with
    | lst ds =>
      have hb : b = !ds.isEmpty := by cases f <;> cases h <;> rfl
      cases lk with
      | @lst _ a vs h1 r1 l1 =>
        refine .inl ⟨vs, SqL.of h1, ?_⟩
        rw [hb]
        cases r1 <;> rfl
    | _ => cases f <;> cases h
  | brw c _ => cases d <;> cases h
  | ino => cases h
theorem imp_orl {x y : E} (h : tE cl cx T W K (.orl x y) σV H Q) : tOrT K (tE cl cx T W K x) (tE cl cx T W K y) σV H Q := by
  obtain ⟨P, fp, σ, R, h⟩ := h
  have pu : imp (.orl x y) = false → imp x = false ∧ imp y = false := fun z => Bool.or_eq_false_iff.mp z
  rw [ev] at h
  refine ⟨P, fp, σ, R, h.bind (fun z => (pu z).1) fun v σ1 fp1 v1 H1 _ R1 s1 f1 i1 r1 h => ?_⟩
  obtain ⟨b, hb, h⟩ := h.pur (nox_truL _)
  obtain ⟨t1, rs1⟩ := truL_ok (A := noA) r1 hb
  refine ⟨b, t1, ?_⟩
  cases b with
  | true =>
    exact iteT (h fp1 v1 H1 R1 (fun _ _ z => z) (Fr.refl _ _) (fun _ => ⟨rfl, rfl, Ext.refl _⟩) (.rs rs1))
  | false =>
    refine iteF ⟨P, fp1, σ1, R1, h.bind (fun z => (pu z).2) fun w σ2 fp2 v2 H2 _ R2 s2 f2 i2 r2 h => ?_⟩
    obtain ⟨r, hr, h9⟩ := h.pur (nox_rsl _)
    have : r = w ∧ Rs K cl (newP P) (avS P fp2) H2 w v2 := by
      obtain ⟨f, d⟩ := w
      cases r2 with
      | rs r2 =>
        refine ⟨?_, r2⟩
        cases f <;> cases hr <;> rfl
      | brw c _ => cases hr
      | ino => cases hr
    obtain ⟨rfl, rs2⟩ := this
    exact h9 fp2 v2 H2 R2 (fun _ _ z => z) (Fr.refl _ _) (fun _ => ⟨rfl, rfl, Ext.refl _⟩) (.rs rs2)
end
end DD
namespace DD
open L2 PyProof.Rows PySem PySem.Spec
variable [TabT]
section
variable {cl cx : Nat → Addr} {T : Tb} {M : Nm} {W : XK} {sc : Scope} {fb : Str → Bool} {X : Cx} {k : Nat}
theorem Good.blk (G : Good cl cx T M W sc fb X k) (scope : Scope) (s : Shared) (H : Hp) (C : Addr) (cells : List (Str × Addr)) (fp : List Addr) :
    Good cl cx T M E0 (relB scope sc) (fbB scope) (X.blk s H scope (compEnvC scope cells C X.env) fp) k where
  calm := G.calm
  nd := G.nd
  sc := by rw [← G.sc]; rfl
  fb := rfl
  rm := G.rm
  rm3 := G.rm3
  aks := G.aks
  pas := passL
  tk := takes_non
  exs := G.exs
  exm := G.exm
  fns := G.fns
  gls := G.gls
  blt := G.blt
  rng := G.rng
  zip := G.zip
  enu := G.enu
  fre := G.fre
  tab := fun h => by
    obtain ⟨c, t, q⟩ := G.tab h
    exact ⟨c, t, ⟨q.b, q.code, q.mem, q.uni⟩⟩
  clc := G.clc
  nat := G.nat
  mts := G.mts
  mks := G.mks
theorem Good.loc (G : Good cl cx T M W sc fb X k) {x : Str} (h : locB sc fb x = true) : Loc X.env.scope x ∧ (X.fn x = true ∨ X.env.scope.names.lookup x = some .local) := by
  rw [G.sc, G.fb]
  unfold locB at h
  split at h
  · exact ⟨.inl (by assumption), .inr (by assumption)⟩
  · exact ⟨.inr (by assumption), .inl h⟩
  · cases h
theorem tgs_sound (G : Good cl cx T M W sc fb X k) : ∀ (is : List Nat) (es : List Expr), is.length = es.length → ((is.zip es).all fun p => match p.2 with
    | .Name x _ => decide (X.N[p.1]? = some x) && locB sc fb x
    | _ => false) = true → PGs X es (tgN X.K is) ∧ (assignEach es X.env).length = is.length ∧ (assignEach es X.env).findIdx? (·.1) = none
  | [], [], _, _ => ⟨pgs_nil, rfl, rfl⟩
  | i :: is, e :: es, l, h => by
    rw [List.zip_cons_cons, List.all_cons, Bool.and_eq_true] at h
    obtain ⟨a, b, c⟩ := tgs_sound G is es (Nat.succ.inj l) h.2
    cases e with
    | Name x pos =>
      obtain ⟨h1, h2⟩ := and2 h.1
      obtain ⟨q1, q2⟩ := G.loc h2
      refine ⟨pgs_cons (pg_name G.nd (of_decide_eq_true h1) q1 q2) a rfl, ?_, ?_⟩
      · show (assignEach es X.env).length + 1 = _
        rw [b]; rfl
      · show List.findIdx? (·.1) ((false, assign (.Name x pos) X.env) :: assignEach es X.env) = none
        rw [List.findIdx?_cons, c]; rfl
    | _ => cases h.1
  | [], _ :: _, l, _ => by cases l
  | _ :: _, [], l, _ => by cases l
theorem tg_sound (G : Good cl cx T M W sc fb X k) {tg : Tg} {a : Expr} (h : ckTg X.N sc fb tg a = true) : PG X a (tgR X.K tg) := by
  cases tg with
  | one i =>
    cases a with
    | Name x pos =>
      obtain ⟨h1, h2⟩ := and2 h
      obtain ⟨q1, q2⟩ := G.loc h2
      exact pg_name G.nd (of_decide_eq_true h1) q1 q2
    | _ => cases h
  | tup is =>
    cases a with
    | Tuple es kk pos =>
      obtain ⟨h1, h2⟩ := and2 h
      obtain ⟨a, b, c⟩ := tgs_sound G is es (beq_iff_eq.mp h1) h2
      exact pg_tup G.calm a b c
    | _ => cases h
theorem ioAt_len : ∀ {es : Es} {as : List Expr} {N : List Str}, cks N M sc fb es as = true → (ioAt es).length = as.length
  | .nil, [], _, _ => rfl
  | .cons e r, a :: as, N, h => by
    unfold cks at h
    obtain ⟨_, h⟩ := and2 h
    show (ioAt r).length + 1 = _
    rw [ioAt_len h]; rfl
  | .nil, _ :: _, _, h => by cases h
  | .cons _ _, [], _, h => by cases h
theorem noTwo {cs : Es} {as : List Expr} {N : List Str} (h : cks N M sc fb cs as = true) (l : as.length ≤ 1) : ∀ e f r, cs ≠ .cons e (.cons f r) := by
  intro e f r q
  subst q
  have := ioAt_len h
  simp only [ioAt, List.length_cons] at this
  omega
theorem imp_isTrue {e : E} {a : Expr} {N : List Str} (h : ck N M sc fb e a = true) (n : notIf e = true) (h1 : ∀ x, e ≠ .not x) (h2 : ∀ es, e ≠ .and es) (h3 : ∀ es, e ≠ .or es) (h4 : ∀ o x y, e ≠ .cmp o x y) (h5 : ∀ o p x y z, e ≠ .chn o p x y z) (env : Env) :
    ∀ whole, isTrue a env whole = (do let v ← whole; standAt a.pos; holding [v] (truthy v)) := by
  unfold ck at h
  split at h <;> first
    | (intro _; rfl)
    | exact absurd rfl (h1 _)
    | exact absurd rfl (h2 _)
    | exact absurd rfl (h3 _)
    | exact absurd rfl (h4 _ _ _)
    | exact absurd rfl (h5 _ _ _ _ _)
    | cases n
    | cases h
theorem bl_only {K : PySem.W.Frag} {es : Es} {σV : L2.St} {H : Hp} {Q : VK} (h : tAn cl cx T W K es σV H Q) : tAn cl cx T W K es σV H fun v H' => ∃ c, v = .bl c ∧ Q (.bl c) H' := by
  obtain ⟨P, fp, σ, R, h⟩ := h
  refine ⟨P, fp, σ, R, ?_⟩
  generalize evAnd T es σ = m at h ⊢
  cases m with
  | ok p =>
    intro fp' v H' R s f i r
    obtain ⟨b, e1, e2⟩ := r
    subst e2
    exact ⟨b, rfl, h fp' _ H' R s f i ⟨b, e1, rfl⟩⟩
  | exc x => exact h
  | bad => exact h
theorem mut_rule (hu : X.A.units + 64 < cLine) (m : Mu) : ∃ id, Slot "list" (muN m) id ∧ typeOf (.builtin id) = pure (.type "method_descriptor") ∧ MtR X id (rMut X.K cl m) := by
  cases m with
  | append => exact ⟨_, PySem.F.slot_list_append, PySem.F.type_list_append, mu_append⟩
  | extend => exact ⟨_, PySem.F.slot_list_extend, PySem.F.type_list_extend, mu_extend⟩
  | pop0 => exact ⟨_, PySem.F.slot_list_pop, PySem.F.type_list_pop, mu_pop0⟩
  | pop1 => exact ⟨_, PySem.F.slot_list_pop, PySem.F.type_list_pop, mu_pop1⟩
  | clear => exact ⟨_, PySem.F.slot_list_clear, PySem.F.type_list_clear, mu_clear⟩
  | remove => exact ⟨_, PySem.F.slot_list_remove, PySem.F.type_list_remove, mu_remove hu⟩
theorem ResS.len {K : PySem.W.Frag} {P : Px} {fp : Fp} {σV : L2.St} {H : Hp} : ∀ {es : Es} {xs : List (Fl × D)} {vs : List V}, ResS K cl P fp σV H es xs vs → vs.length = (ioAt es).length
  | _, _, _, .nil => rfl
  | _, _, _, .cons _ t => congrArg (· + 1) t.len
theorem tS_imp {K : PySem.W.Frag} {es : Es} {σV : L2.St} {H : Hp} {Q Q' : List V → Hp → Prop} (h : tS cl cx T W K es σV H Q) (i : ∀ vs H, vs.length = (ioAt es).length → Q vs H → Q' vs H) : tS cl cx T W K es σV H Q' := by
  obtain ⟨P, fp, σ, R, h⟩ := h
  refine ⟨P, fp, σ, R, ?_⟩
  generalize evs T es σ = m at h ⊢
  cases m with
  | ok p => exact fun fp' v H' R s f z r => i _ _ r.len (h fp' v H' R s f z r)
  | exc x => exact h
  | bad => exact h
theorem PW.imp {e : Expr} {t t' : TT} (h : PW X e t) (i : ∀ σ H Q, t' σ H Q → t σ H Q) : PW X e t' := ⟨fun wh pins s σ H Q I q => h.run wh pins s σ H Q I (i σ H Q q)⟩
theorem tE_imp {K : PySem.W.Frag} {e : E} {σV : L2.St} {H : Hp} {Q Q' : VK} (h : tE cl cx T W K e σV H Q) (i : ∀ v H, Q v H → Q' v H) : tE cl cx T W K e σV H Q' := by
  obtain ⟨P, fp, σ, R, h⟩ := h
  exact ⟨P, fp, σ, R, h.imp' i⟩
theorem lrng_one {K : PySem.W.Frag} {e : E} {σV : L2.St} {H : Hp} {Q : List V → Hp → Prop} (h : tS cl cx T W K (.cons e .nil) σV H Q) : tE cl cx T W K e σV H fun v H1 => Q [v] H1 :=
  tE_imp (imp_cons h) fun _ _ q => imp_nil q
theorem PE.or {e : Expr} {t t' : TE} (h : PE X e t) (h' : PE X e t') : PE X e (fun σ H Q => t σ H Q ∨ t' σ H Q) := ⟨fun pins s σ H Q I q => q.elim (h.run pins s σ H Q I) (h'.run pins s σ H Q I)⟩
/-- a slot's exact reading -/
theorem slot_pe (G : Good cl cx T M W sc fb X k) (s : E) {a : Expr} (h : ck X.N M sc fb s a = true) : PE X a (tSlot X.K s) := by
  cases s with
  | var i =>
    obtain ⟨x, pos, rfl, h1, h2, h3⟩ := ck_name (.inl rfl) h
    exact pe_var h1 (G.vis h2) (okN_iff h3).1 (okN_iff h3).2.1
  | fld x f =>
    obtain ⟨x', pos, rfl, h1, h2, h3⟩ := ck_fld h
    cases x with
    | var i =>
      obtain ⟨x, pos, rfl, h4, h5, h6⟩ := ck_name (.inl rfl) h3
      exact pe_fld (pe_var h4 (G.vis h5) (okN_iff h6).1 (okN_iff h6).2.1) (base_ok h2)
    | _ => exact ⟨fun pins s σ H Q I h => h.elim⟩
  | idx x y =>
    cases y with
    | int n =>
      obtain ⟨x', y', pos, rfl, h1, h2⟩ := ck_idx h
      have pl := plain_ix (ck_plain h2)
      obtain ⟨j, pos, rfl⟩ := ck_int h2
      exact pe_ix (IxR.or ix_seq (ix_dct (by have := G.units; omega))) (slot_pe G x h1) pe_int pl
    | _ => exact ⟨fun pins s σ H Q I h => h.elim⟩
  | _ => exact ⟨fun pins s σ H Q I h => h.elim⟩
termination_by s
theorem slot_nat (G : Good cl cx T M W sc fb X k) {s : E} {a : Expr} (h : ck X.N M sc fb s a = true) : ∀ i f, s = .fld (.var i) f → Cls X.K (cl 0) ∧ NoAttr X.K (cl 0) f := by
  intro i f e
  subst e
  obtain ⟨x', pos, _, h1, _⟩ := ck_fld h
  exact G.nat f h1
/-- the values one behind another -/
def tN (cl cx : Nat → Addr) (T : Tb) (W : XK) (K : PySem.W.Frag) : Es → TA
  | .nil => tNil
  | .cons e r => tCons (tE cl cx T W K e) (tN cl cx T W K r)
def esT : Nat → Es → Es
  | 0, _ => .nil
  | n + 1, .cons e r => .cons e (esT n r)
  | _ + 1, .nil => .nil
def esD : Nat → Es → Es
  | 0, es => es
  | n + 1, .cons _ r => esD n r
  | _ + 1, .nil => .nil
theorem tN_imp {K : PySem.W.Frag} : ∀ {es : Es} {σV : L2.St} {H : Hp} {Q Q' : List V → Hp → Prop}, tN cl cx T W K es σV H Q → (∀ vs H, vs.length = (ioAt es).length → Q vs H → Q' vs H) → tN cl cx T W K es σV H Q'
  | .nil, _, _, _, _, h, i => i _ _ rfl h
  | .cons e r, σV, H, Q, Q', h, i => tE_imp (K := K) h fun v H1 q => tN_imp (es := r) q fun vs H2 l q => i _ _ (congrArg (· + 1) l) q
theorem tS_N {K : PySem.W.Frag} : ∀ {es : Es} {n : Nat} {σV : L2.St} {H : Hp} {Q : List V → Hp → Prop}, tS cl cx T W K es σV H Q → tN cl cx T W K (esT n es) σV H fun vs H1 => tN cl cx T W K (esD n es) σV H1 fun zs H2 => Q (vs ++ zs) H2
  | .nil, 0, _, _, _, h => imp_nil h
  | .nil, _ + 1, _, _, _, h => imp_nil h
  | .cons e r, 0, _, _, _, h => tE_imp (imp_cons h) fun v H1 q => tS_N (es := r) (n := 0) q
  | .cons e r, n + 1, _, _, _, h => tE_imp (imp_cons h) fun v H1 q => tS_N (es := r) (n := n) q
theorem tN_nil {K : PySem.W.Frag} {es : Es} {σV : L2.St} {H : Hp} {Q : List V → Hp → Prop} (h : tN cl cx T W K (esT 0 es) σV H Q) : Q [] H := h
theorem kw_some {X : Cx} {pos : Pos} : ∀ {kws : List Keyword} {nm : List Str}, kws.map (·.arg) = nm.map some → (backToKw pos (keywordEach kws X.env)).all (·.1.isSome) = true ∧ (backToKw pos (keywordEach kws X.env)).filterMap (·.1) = nm ∧ (backToKw pos (keywordEach kws X.env)).any (·.1.isNone) = false
  | [], [], _ => ⟨rfl, rfl, rfl⟩
  | [], _ :: _, h => by cases h
  | _ :: _, [], h => by cases h
  | ⟨a, e, p⟩ :: kws, x :: nm, h => by
    rw [List.map_cons, List.map_cons] at h
    injection h with h1 h2
    obtain ⟨i1, i2, i3⟩ := kw_some (X := X) (pos := pos) h2
    have h1 : a = some x := h1
    subst h1
    refine ⟨?_, ?_, ?_⟩
    · show (true && (backToKw pos (keywordEach kws X.env)).all (·.1.isSome)) = true
      rw [i1]; rfl
    · show x :: (backToKw pos (keywordEach kws X.env)).filterMap (·.1) = _
      rw [i2]
    · show (false || (backToKw pos (keywordEach kws X.env)).any (·.1.isNone)) = false
      rw [i3]; rfl
/-- f(k = v, ..) -/
theorem pe_callN0 {CX : CXT} {k n : Nat} {f : Addr} {fd : FuncData} {ps ks : List Str} {sp : Sp} {E : XK} {x : Str} {p pos : Pos} {kws : List Keyword} {tk : TA} {g : List Value → List Value → List Value} {gV : List V → List V → List V} (F : FnOk X.prog X.w X.K X.mg X.base CX k f fd ps sp) (hr : Room k X.A) (hg : Gl X x) (hm : X.mg x = some (.ref f)) (hk : PySem.W.keepIn X.K (.ref f) = true) (hb : KBn X.K fd ps n ks g gV) (hx : Passes CX X E)
    (hkw : PK X kws tk) (hall : (backToKw pos (keywordEach kws X.env)).all (·.1.isSome) = true) (hks : (backToKw pos (keywordEach kws X.env)).filterMap (·.1) = ks)
    (hdb : (x == ("__debug__" : Str)) = false)
    (hpl : ((backTo pos (starEach [] X.env)).any (·.1) || (backToKw pos (keywordEach kws X.env)).any (·.1.isNone)) = false) :
    PE X (.Call (.Name x p) [] kws pos) (tCallN n ks.length sp gV E tNil tk) := by
  refine ⟨fun pins s σ H Q I h => ?_⟩
  refine wpAny_Call_Name_kw (ld_glob I hg hm ?_ hdb)
  refine PySem.W.callWith_KW0 (h₀ := X.base) I.ok.mod.kin hk hall ?_ hpl
  refine thn (hkw.run pos pins s σ H _ I h) fun ws s2 ⟨zs, H2, I2, rz, l1, l2, q2⟩ => ⟨I2.kIn, ?_⟩
  rw [hks]
  exact run_fnN F hr hb hx I2 .nil rz l1 l2 q2
theorem io_TD : ∀ (es : Es) (a b : Nat), (ioAt es).length = a + b → (ioAt (esT a es)).length = a ∧ (ioAt (esD a es)).length = b
  | es, 0, b, h => ⟨rfl, by rw [Nat.zero_add] at h; exact h⟩
  | .nil, a + 1, b, h => by
    have h : 0 = a + 1 + b := h
    omega
  | .cons e r, a + 1, b, h => by
    have h : (ioAt r).length + 1 = a + 1 + b := h
    obtain ⟨h1, h2⟩ := io_TD r a b (by omega)
    exact ⟨congrArg (· + 1) h1, h2⟩
theorem star_any2 {N : List Str} {M : Nm} {sc : Scope} {fb : Str → Bool} : ∀ {es : Es} {as bs : List Expr} {env : Env} {pos : Pos}, cks N M sc fb es (as ++ bs) = true → (backTo pos (starEach as env)).any (·.1) = false
  | _, [], _, _, _, _ => rfl
  | .cons e r, a :: as, bs, env, pos, h => by
    rw [List.cons_append] at h
    unfold cks at h
    rw [Bool.and_eq_true] at h
    rw [star_cons (ck_plain h.1)]
    show (false || (backTo pos (starEach as env)).any (·.1)) = false
    rw [star_any2 h.2]; rfl
  | .nil, _ :: _, _, _, _, h => by cases h
mutual
theorem soundE : ∀ (e : E) {M : Nm} {W : XK} {sc : Scope} {fb : Str → Bool} {X : Cx}, Good cl cx T M W sc fb X k → ∀ {a : Expr}, ck X.N M sc fb e a = true → PE X a (tE cl cx T W X.K e)
  | .non, M, _, _, _, _, G, _, h => by
    obtain ⟨j, pos, rfl⟩ := ck_non h
    exact PE.imp pe_non fun σ H Q h => imp_const h (fun _ => rfl) fun _ _ => .non
  | .bl b, M, _, _, _, _, G, _, h => by
    obtain ⟨j, pos, rfl⟩ := ck_bl h
    exact PE.imp pe_bl fun σ H Q h => imp_const h (fun _ => rfl) fun _ _ => .bl b
  | .int i, M, _, _, _, _, G, _, h => by
    obtain ⟨j, pos, rfl⟩ := ck_int h
    exact PE.imp pe_int fun σ H Q h => imp_const h (fun _ => rfl) fun _ _ => .int i
  | .str x, M, _, _, _, _, G, _, h => by
    obtain ⟨j, pos, rfl⟩ := ck_str h
    exact PE.imp pe_str fun σ H Q h => imp_const h (fun _ => rfl) fun _ _ => .str x
  | .var i, M, _, _, _, _, G, _, h => by
    obtain ⟨x, pos, rfl, h1, h2, h3⟩ := ck_name (.inl rfl) h
    exact PE.imp (pe_var h1 (G.vis h2) (okN_iff h3).1 (okN_iff h3).2.1) fun σ H Q h => imp_var h
  | .mov i, M, _, _, _, _, G, _, h => by
    obtain ⟨x, pos, rfl, h1, h2, h3⟩ := ck_name (.inr (.inl rfl)) h
    exact PE.imp (pe_var h1 (G.vis h2) (okN_iff h3).1 (okN_iff h3).2.1) fun σ H Q h => imp_mov h
  | .frz i, M, _, _, _, _, G, _, h => by
    obtain ⟨x, pos, rfl, h1, h2, h3⟩ := ck_name (.inr (.inr (.inl rfl))) h
    exact PE.imp (pe_var h1 (G.vis h2) (okN_iff h3).1 (okN_iff h3).2.1) fun σ H Q h => imp_frz h
  | .io i, M, _, _, _, _, G, _, h => by
    obtain ⟨x, pos, rfl, h1, h2, h3⟩ := ck_name (.inr (.inr (.inr rfl))) h
    exact PE.imp (pe_var h1 (G.vis h2) (okN_iff h3).1 (okN_iff h3).2.1) fun σ H Q h => imp_io h
  | .glb g, M, _, _, _, _, G, _, h => by
    obtain ⟨x, pos, rfl, h1, h2, h3⟩ := ck_glb h
    obtain ⟨u, v, h4, h5, h6⟩ := G.gls g x h1
    exact PE.imp (pe_glob (G.gl h2) h4 h5 (okN_iff h3).1) fun σ H Q h => imp_const h (fun _ => rfl) h6
  | .tup es, M, _, _, _, _, G, _, h => by
    obtain ⟨as, kk, pos, rfl, h1⟩ := ck_tup h
    exact PE.imp (pe_tup (soundS es G h1)) fun σ H Q h => imp_tup h
  | .lst es, M, _, _, _, _, G, _, h => by
    obtain ⟨as, pos, rfl, h1⟩ := ck_lst h
    exact PE.imp (pe_lst (soundS es G h1)) fun σ H Q h => imp_lst h
  | .dct ps, M, _, _, _, _, G, _, h => by
    obtain ⟨ks, vs, pos, rfl, h1, h2, h3, h4⟩ := ck_dct h
    cases ks with
    | nil =>
      cases vs with
      | nil =>
        refine PE.imp pe_dnewK fun σ H Q h => ?_
        have h := imp_dct h
        intro p hp
        cases ps with
        | cons e r => cases r <;> cases h1
        | nil =>
          obtain ⟨h5, kvs, h6, h7, h8⟩ := h p hp
          cases kvs with
          | cons _ _ => cases h6
          | nil =>
            rw [upd_upd] at h8
            exact h8
      | cons _ _ => cases h3
    | cons b ks => exact PE.imp (pe_disp (soundK ps G h1) h2 h3 (fun z => nomatch z) h4) fun σ H Q h => imp_dct h
  | .ite c x y, M, _, _, _, _, G, _, h => by
    obtain ⟨c', x', y', pos, rfl, h0, h1, h2, h3⟩ := ck_ite h
    exact PE.imp (pe_ifExp (soundT c G h1 h0) (soundE x G h2) (soundE y G h3)) fun σ H Q h => imp_ite h
  | .and es, M, _, _, _, _, G, _, h => by
    obtain ⟨b, as, pos, rfl, h0, h1⟩ := ck_and h
    exact PE.imp (soundAn es G h1) fun σ H Q h => imp_and h
  | .or es, M, _, _, _, _, G, _, h => by
    obtain ⟨b, as, pos, rfl, h0, h1⟩ := ck_or h
    exact PE.imp (soundOn es G h1) fun σ H Q h => imp_or h
  | .not x, M, _, _, _, _, G, _, h => by
    obtain ⟨x', pos, rfl, h0, h1⟩ := ck_not h
    exact PE.imp (pe_not (soundE x G h1)) fun σ H Q h => imp_not h
  | .bin o x y, M, _, _, _, _, G, _, h => by
    obtain ⟨x', y', pos, rfl, h1, h2⟩ := ck_bin h
    exact PE.imp (pe_op (op_bin o) (soundE x G h1) (soundE y G h2)) fun σ H Q h => imp_bin h
  | .neg x, M, _, _, _, _, G, _, h => by
    obtain ⟨x', pos, rfl, h1⟩ := ck_neg h
    exact PE.imp (pe_un un_neg (soundE x G h1)) fun σ H Q h => imp_neg h
  | .cmp o x y, M, _, _, _, _, G, _, h => by
    obtain ⟨x', y', pos, rfl, h1, h2⟩ := ck_cmp h
    exact PE.imp (pe_cmpR (op_cmp G.units o) (soundE x G h1) (soundE y G h2) (plain_mark (ck_plain h2))) fun σ H Q h => imp_cmp h
  | .chn o q x y z, M, _, _, _, _, G, _, h => by
    obtain ⟨x', y', z', pos, rfl, h1, h2, h3⟩ := ck_chn h
    exact PE.imp (pe_chain (op_cmp G.units o) (op_cmp G.units q) (soundE x G h1) (soundE y G h2) (soundE z G h3) (plain_mark (ck_plain h3))) fun σ H Q h => imp_chn h
  | .idx x y, M, _, _, _, _, G, _, h => by
    obtain ⟨x', y', pos, rfl, h1, h2⟩ := ck_idx h
    exact PE.imp (pe_ix (op_idx (by have := G.units; omega)) (soundE x G h1) (soundE y G h2) (plain_ix (ck_plain h2))) fun σ H Q h => imp_idx h
  | .slc x lo hi, M, _, _, _, X, G, _, h => by
    obtain ⟨x', l, h', p2, pos, rfl, h1, h2, h3⟩ := ck_slc h
    have l1 := noTwo h2 (by cases l <;> simp)
    have l2 := noTwo h3 (by cases h' <;> simp)
    have pl : PO X l (tPt cl cx T _ X.K lo) := soundP lo G h2
    have ph : PO X h' (tPt cl cx T _ X.K hi) := soundP hi G h3
    exact PE.imp (pe_slice op_slc (soundE x G h1) pl ph) fun σ H Q h => imp_slc h l1 l2
  | .rev x, M, _, _, _, _, G, _, h => by
    obtain ⟨x', j, p1, p2, p3, pos, rfl, h1⟩ := ck_rev h
    exact PE.imp (pe_revA (soundE x G h1)) fun σ H Q h => imp_rev h
  | .fld x f, M, _, _, _, X, G, _, h => by
    obtain ⟨x', pos, rfl, h1, h2, h3⟩ := ck_fld h
    exact PE.imp (pe_fld (soundE x G h3) (base_ok h2)) fun σ H Q h => imp_fld G.clc (G.nat f h1) h
  | .mth m f .nil, M, _, _, _, X, G, _, h => by
    obtain ⟨i, r, y, p, apos, c, as, pos, e, _⟩ := ck_mth h
    cases e
  | .mth m f (.cons e r), M, _, _, _, X, G, _, h => by
    obtain ⟨i, r', y, p, apos, c, as, pos, e2, rfl, h1, h2, h3, h4, h5, h6⟩ := ck_mth h
    injection e2 with e3 e4
    subst e3
    subst e4
    obtain ⟨g1, fa, fd, ps, g2, g3, g4⟩ := G.mts m f h1
    obtain ⟨y', p', e5, q1, q2, q3⟩ := ck_name (.inl rfl) h2
    cases e5
    have hn : ∀ vs : List V, vs.length = (ioAt (.cons (.var i) r)).length → vs.length = M.ars.getD f 0 := fun vs e => by
      rw [e]
      show (ioAt r).length + 1 = _
      rw [ioAt_len h3, h4]
    exact PE.imp (pe_meth (pe_var q1 (G.vis q2) (okN_iff q3).1 (okN_iff q3).2.1) g1 g2 g4 G.rm1 g3 .nil G.pas (soundS r G h3) (star_cons (cks_plain h3)) (star_tail h3 _ _) (meth_ht (star_cons (cks_plain h3)) (star_tail h3 _ _) h5 h6)) fun σ H Q h => imp_mth G.clc h hn
  | .mk c f es, M, _, _, _, X, G, _, h => by
    obtain ⟨x, p, b, as, pos, rfl, h1, h2, h3, h4, h5⟩ := ck_mk h
    obtain ⟨g1, fi, fd, ps, m1, m2, m3⟩ := G.mks x c f h1
    have hn : ∀ vs : List V, vs.length = (ioAt es).length → vs.length + 1 = M.ars.getD f 0 := fun vs e => by rw [e, ioAt_len h4, h5]
    exact PE.imp (pe_make m1 m3 G.rm (G.gl h2) g1 m2 .nil G.pas (soundS es G h4) (okN_iff h3).1 (star_cons (cks_plain h4)) (star_tail h4 _ _)) fun σ H Q h => imp_mk G.clc h hn
  | .call f es, M, W0, _, _, X, G, _, h => by
    obtain ⟨x, p, as, kws, pos, rfl, h1, h2, h3, h4, h6, h5⟩ := ck_call h
    obtain ⟨fa, fd, ps, sp0, m1, m2, m4, m⟩ := (G.fns f x h1).ex
    have hn : ∀ vs : List V, vs.length = (ioAt es).length → vs.length = M.ars.getD f 0 := fun vs e => by rw [e, ioAt_len h4, List.length_append, List.length_map, h5]
    rcases m with ⟨e0, ds, dvs, m3, mV, mS⟩ | ⟨e0, n, g, gV, m3, mL, mS⟩
    · rw [e0] at h6
      cases kws with
      | cons _ _ => cases h6
      | nil =>
        rw [List.map_nil, List.append_nil] at h4
        cases as with
        | cons c as =>
          exact PE.imp (pe_call m4 G.rm1 (G.gl h2) m1 m2 m3 mV G.pas (soundS es G h4) (okN_iff h3).1 (star_cons (cks_plain h4)) (star_tail h4 _ _)) fun σ H Q h => tS_imp (imp_call h hn) fun ws H1 _ q => mS ws H1 Q _ (by rw [List.append_nil] at q; exact q)
        | nil =>
          refine PE.imp (pe_call0 m4 G.rm1 (G.gl h2) m1 m2 m3 mV G.pas (okN_iff h3).1) fun σ H Q h => ?_
          have h := imp_call h hn
          cases es with
          | cons _ _ => cases h4
          | nil => exact mS [] _ _ _ (imp_nil h)
    · have lk : kws.length = (M.kws.getD f []).length := by
        have := congrArg List.length h6
        rw [List.length_map, List.length_map] at this
        exact this
      have ln : as.length = n := by omega
      obtain ⟨k1, k2, k3⟩ := kw_some (X := X) (pos := pos) h6
      obtain ⟨p1, p2⟩ := soundN es G h4
      have li : ∀ σ H Q, tE cl cx T W0 X.K (.call f es) σ H Q → tCallN n (M.kws.getD f []).length sp0 gV W0 (tN cl cx T W0 X.K (esT as.length es)) (tN cl cx T W0 X.K (esD as.length es)) σ H Q := fun σ H Q h => by
        have le : (ioAt es).length = as.length + kws.length := by rw [ioAt_len h4, List.length_append, List.length_map]
        obtain ⟨l1, l2⟩ := io_TD es as.length kws.length le
        refine tN_imp (tS_N (n := as.length) (imp_call h hn)) fun vs H1 l q => tN_imp q fun zs H2 l' q => ⟨by rw [l, l1, ln], by rw [l', l2, lk], mS vs zs H2 Q _ ?_⟩
        rw [List.append_nil] at q
        exact q
      cases as with
      | cons c as =>
        exact PE.imp (pe_callN m4 G.rm1 (G.gl h2) m1 m2 m3 G.pas p1 p2 k1 k2 (okN_iff h3).1 (star_cons (cks_plain h4)) (by rw [star_any2 h4, k3]; rfl)) li
      | nil =>
        exact PE.imp (pe_callN0 m4 G.rm1 (G.gl h2) m1 m2 m3 G.pas p2 k1 k2 (okN_iff h3).1 (by rw [k3]; rfl)) li
  | .isi t x, M, _, _, _, X, G, _, h => by
    obtain ⟨p, x', p2, pos, rfl, h1, h2, h3⟩ := ck_isi h
    have pl := ck_plain h3
    have hn : PE X (.Name (tyN t) p2) (tC (.ty (tyS t))) := by
      have fr := G.fre
      have gl := G.gl h2
      cases t <;> exact pe_bltn gl (fr _ (by decide)) (by decide +kernel) rfl (by decide +kernel) (by decide +kernel)
    exact PE.imp (pe_callB call_isi (G.gl h1) (G.fre _ (by decide)) (by decide +kernel) (pa_cons (soundE x G h3) (pa_cons hn pa_nil) (star_cons pl)) (by decide +kernel) (by decide +kernel) (star_cons pl) (by rfl)) fun σ H Q h => imp_isi h
  | .upp x, M, _, _, _, X, G, _, h => by
    obtain ⟨y, p, apos, cpos, rfl, h1, h2⟩ := ck_upp h
    exact PE.imp (pe_upper (soundE x G h1) (by rfl) h2) fun σ H Q h => imp_upp h
  | .idv i y, M, _, _, _, _, G, _, h => by
    obtain ⟨x, p, y', pos, rfl, h1, h2, h3, h4⟩ := ck_idv h
    exact PE.imp (pe_ix (op_idx (by have := G.units; omega)) (pe_var h1 (G.vis h2) (okN_iff h3).1 (okN_iff h3).2.1) (soundE y G h4) (plain_ix (ck_plain h4))) fun σ H Q h => imp_idv h
  | .get false x y z, M, _, _, _, X, G, _, h => by
    obtain ⟨o, b, apos, cpos, rfl, rfl, h1, h2, h3, h4⟩ := ck_get1 h
    have pl := ck_plain h3
    exact PE.imp (pe_dget1 (by have := G.units; omega) (soundE x G h2) (soundE y G h3) ⟨base_ok h1, by rw [star_cons pl]; rfl, h4, by rw [star_cons pl]; rfl⟩) fun σ H Q h => get_one h
  | .get true x y z, M, _, _, _, X, G, _, h => by
    obtain ⟨o, b, c, apos, cpos, rfl, h1, h2, h3, h4, h5⟩ := ck_get2 h
    have pl := ck_plain h3
    have pl2 := ck_plain h5
    exact PE.imp (pe_dget2 (by have := G.units; omega) (soundE x G h2) (soundE y G h3) (soundE z G h5) ⟨base_ok h1, by rw [star_cons pl, star_cons pl2]; rfl, h4, by rw [star_cons pl, star_cons pl2]; rfl⟩) fun σ H Q h => imp_get h
  | .sset x, M, _, _, _, X, G, _, h => by
    obtain ⟨p, p2, x', p3, pos, rfl, h1, h2, h3⟩ := ck_sset h
    exact PE.imp (pe_ss G.calm (G.gl h1) (G.fre _ (by decide)) (G.gl h2) (G.fre _ (by decide)) (soundE x G h3) (star_cons (ck_plain h3))) fun σ H Q h => imp_sset h
  | .lvs x, M, _, _, _, X, G, _, h => by
    obtain ⟨p, o, apos, mpos, pos, rfl, h1, h2, h3, h4⟩ := ck_lvs h
    exact PE.imp (pe_lvals G.calm (G.gl h1) (G.blt .lstO (by decide)) (soundE x G h4) (base_ok h2) h3) fun σ H Q h => imp_lvs h
  | .lnt _ x, M, _, _, _, X, G, _, h => PE.imp (soundE x G (ck_lnt h).2) fun σ H Q h => imp_lnt h
  | .shr x, M, _, _, _, X, G, _, h => by
    obtain ⟨_, _, h1⟩ := ck_shr h
    exact PE.imp (soundE x G h1) fun σ H Q h => imp_shr h
  | .srk x, M, _, _, _, X, G, _, h => by
    obtain ⟨p, x', params, y, p1, j, p2, p3, scope, p4, p5, pos, rfl, h0, h1, h2, h3⟩ := ck_srk h
    obtain ⟨a, rfl, ey, yd, ok⟩ := lamB_ok h2
    obtain ⟨c, t, tc⟩ := G.tab h0
    exact PE.imp (pe_sortKey G.rm tc ok ey yd rfl (G.gl h1) (G.fre _ (by decide)) (soundE x G h3) (star_cons (ck_plain h3))) fun σ H Q h => imp_srk h
  | .lrng es, M, _, _, _, X, G, _, h => by
    obtain ⟨p, p2, c, as, p3, pos, rfl, h1, h2, h3, h4⟩ := ck_lrng h
    have hs := soundS es G h3
    have pl := cks_plain h3
    have ge := G.gl h2
    have gm := G.rng
    cases es with
    | nil => cases h3
    | cons e r =>
      have h3' := h3
      unfold cks at h3'
      obtain ⟨h31, h32⟩ := and2 h3'
      have le : as.length ≤ 1 := by simp at h4; omega
      cases as with
      | nil =>
        have pr := prg_1 (p := p2) (pos := p3) ge gm (soundE e G h31) (star_cons pl)
        refine PE.imp (pe_listRg G.calm (G.gl h1) (G.fre _ (by decide)) pr (by rfl)) fun σ H Q h => ?_
        cases r with
        | cons _ _ => cases h32
        | nil =>
          refine tE_imp (lrng_one (imp_lrng h)) fun v H1 q => ?_
          rcases q with ⟨n, e, o, q⟩ | ⟨a, b, e, o, q⟩
          · cases e; exact ⟨n, rfl, o, q⟩
          · cases e
      | cons c2 as =>
        cases as with
        | cons _ _ => simp at le
        | nil =>
          cases r with
          | nil => cases h32
          | cons f r2 =>
            have h33 := h32
            unfold cks at h33
            obtain ⟨h34, h35⟩ := and2 h33
            have pl2 := ck_plain h34
            cases r2 with
            | cons _ _ => cases h35
            | nil =>
              have pr := prg_2 (p := p2) (pos := p3) ge gm (soundE e G h31) (soundE f G h34) (by rw [star_cons pl]) (star_cons pl2) (by rw [star_cons pl2]; rfl)
              refine PE.imp (pe_listRg G.calm (G.gl h1) (G.fre _ (by decide)) pr (by rfl)) fun σ H Q h => ?_
              refine tE_imp (imp_cons (imp_lrng h)) fun v H1 q1 => tE_imp (lrng_one q1) fun w H2 q2 => ?_
              rcases q2 with ⟨n, e, o, q3⟩ | ⟨a, b, e, o, q3⟩
              · cases e
              · cases e; exact ⟨a, b, rfl, rfl, o, q3⟩
  | .bif b es, M, _, _, _, _, G, _, h => by
    obtain ⟨x, p, c, as, pos, rfl, h1, rfl, h3, h4, h5⟩ := ck_bif h
    have hb := bif_ok (cl := cl) G.calm G.units b h1
    have sa : ∀ {env : Env} {pos : Pos}, (backTo pos (starEach as env)).any (·.1) = false := fun {env pos} => star_tail h5 env pos
    have sn : ∀ {env : Env}, starEach (c :: as) env = (false, eval c env) :: starEach as env := star_cons (cks_plain h5)
    have bt := bif_boot b h1
    have bm := G.blt b h1
    have ps := soundS es G h5
    generalize hv : bifV b = v at hb bt
    cases v with
    | builtin id => exact PE.imp (pe_callB hb (G.gl h3) bm bt ps (okN_iff h4).2.2 (okN_iff h4).1 sn sa) fun σ H Q h => imp_bif h
    | type ty => exact PE.imp (pe_callTy hb (G.gl h3) bm bt ps (okN_iff h4).2.2 (okN_iff h4).1 sn sa) fun σ H Q h => imp_bif h
    | _ => cases b <;> first | (cases hv; done) | exact absurd rfl h1
  | .mut m i es, M, _, _, _, _, G, _, h => by
    obtain ⟨x, p, apos, as, cpos, rfl, h1, h2, h3, h4, h5, h6⟩ := ck_mut h
    have hv := pe_var (pos := p) h1 (G.vis h2) (okN_iff h3).1 (okN_iff h3).2.1
    obtain ⟨id, q1, q2, q3⟩ := mut_rule (X := _) (cl := cl) G.units m
    cases as with
    | nil =>
      cases es with
      | cons _ _ => cases h4
      | nil => exact PE.imp (pe_bm0 PySem.F.plainAttrs_list q1 q2 q3 hv (by rfl) h5) fun σ H Q h => (imp_mut h).2 rfl
    | cons a as =>
      cases as with
      | cons _ _ => simp at h6
      | nil =>
        have st := fun env => star_cons (env := env) (as := []) (cks_plain h4)
        exact PE.imp (pe_bm PySem.F.plainAttrs_list q1 q2 q3 hv (soundS es G h4) (by rfl) (by rw [st]; rfl) h5 (st _) (by rfl)) fun σ H Q h => (imp_mut h).1
  | .orl x y, M, _, _, _, _, G, _, h => by
    obtain ⟨x', y', pos, rfl, h1, h2⟩ := ck_orl h
    exact PE.imp (pe_orT (soundE x G h1) (pe_one (soundE y G h2))) fun σ H Q h => imp_orl h
  | .mtd m x es, M, _, _, _, X, G, _, h => by
    obtain ⟨o, apos, c, cpos, rfl, h1, h2, h3, h4⟩ := ck_mtd h
    obtain ⟨id, q0, q1, q2, q3⟩ := mtd_rule (X := X) (cl := cl) G.units m
    have st := fun env => star_cons (env := env) (as := []) (cks_plain h3)
    have ne : es ≠ .nil := fun z => by rw [z] at h3; cases h3
    exact PE.imp (pe_bm q0 q1 q2 q3 (soundE x G h2) (soundS es G h3) (base_ok h1) (by rw [st]; rfl) h4 (st _) (by rfl)) fun σ H Q h => imp_mtd ne h
  | .ask b hs dn x, M, _, _, _, X, G, _, h => by
    obtain ⟨p, params, body, scope, lpos, pos, rfl, h1, h2, h3, h4, rfl, h6, h7⟩ := ck_ask h
    obtain ⟨g, Ng, a, name, qual, sg, pg, bg, dV, kV, doc, pm, cdv, ct, oc, an, od, osl, m1, m2, m3, m4, m5, m6, m7, m8⟩ := G.aks _ h4
    obtain ⟨c, t, tc⟩ := G.tab h1
    rw [← G.sc] at h6
    have L := LamX.lamS_by h6
    have hN : Ng[0]? = some a := by
      have e := m6.pre
      cases Ng with
      | nil => cases e
      | cons y r =>
        have e : [y] = [a] := e
        cases e
        rfl
    have h0 : ∀ f : Addr, (L2.start Ng [V.ref f])[0]? = some (some (.ref f)) := fun f => by
      cases Ng with
      | nil => cases hN
      | cons y r => rfl
    have hv : Vis sg a := (m6.par a List.mem_cons_self).elim .inl fun z => .inr (.inl z)
    obtain ⟨l, e1, e2, e3, e4⟩ := tell_gives (X := X) (cx := cx) (x := qual) (g := g) (cdg := cdv) (q := X.env.qual ++ "<lambda>") G.exs h0 m8
    refine PE.imp (pe_ask (k := k + 1) (G.gl h2) m1 m2 m3 m4 m5 m6 hN hv e4 tc (G.rm3 h1) L (by rfl) (fun _ _ _ _ _ => by rfl) (fun A outer s H E f c' hr => soundE x (G.lam hr) h7) (okN_iff h3).1 (okN_iff m7).1 (okN_iff m7).2.1) fun σ H Q h => imp_ask e1 (fun q hq A H => (e2 q hq).2 _ A H cl) (fun A H => e3 _ A H cl) (fun q hq q' hq' => ?_) h
    obtain ⟨x1, y1⟩ := (e2 q hq).1
    obtain ⟨x2, y2⟩ := (e2 q' hq').1
    exact G.exm _ _ _ _ y1 y2
  | .comp w src tg cs x vs, M, _, _, _, X, G, _, h => by
    obtain ⟨elt, t, it, ifs, scope, pos, rfl, h1, h2, h3, h4, h5, h6, h7, h8⟩ := ck_comp h
    have one := noTwo h7 h5
    have own : (vs.map fun i => (X.N.getD i Str.empty, i)).map (·.2) = vs := by
      rw [List.map_map]
      exact List.map_id' vs
    have bk := blkOk_by h1
    rw [← G.sc] at bk
    have hg : ∀ s H C cells fp, PG (X.blk s H scope (compEnvC scope cells C X.env) fp) t (tgR X.K tg) := fun s H C cells fp => tg_sound (G.blk scope s H C cells fp) h4
    have he : ∀ s H C cells fp, PE (X.blk s H scope (compEnvC scope cells C X.env) fp) elt (tE cl cx T E0 X.K x) := fun s H C cells fp => soundE x (G.blk scope s H C cells fp) h8
    have ht : ∀ s H C cells fp, PTs (X.blk s H scope (compEnvC scope cells C X.env) fp) ifs (tCs cl cx T X.K cs) := fun s H C cells fp => by
      cases cs with
      | nil =>
        cases ifs with
        | nil => exact pts_nil
        | cons _ _ => cases h7
      | cons c r =>
        cases ifs with
        | nil => cases h7
        | cons c' ifs =>
          cases ifs with
          | cons _ _ => simp at h5
          | nil =>
            unfold cks at h7
            exact pts_one (soundT c (G.blk scope s H C cells fp) (and2 h7).1 (and2 h6).1)
    rcases h3 with ⟨rfl, h3⟩ | ⟨rfl, p, c, as, p2, rfl, h3, h9, h10⟩ | ⟨rfl, p, c1, c2, p2, elts, kk, tpos, rfl, rfl, h3, h9, h10⟩ | ⟨rfl, p, c1, p2, elts, kk, tpos, rfl, rfl, h3, h9, h10⟩
    · cases src with
      | nil => cases h3
      | cons s r =>
        unfold cks at h3
        obtain ⟨h31, h9⟩ := and2 h3
        cases r with
        | cons _ _ => cases h9
        | nil =>
          have hs := soundE s G h31
          have p := pe_lc (pos := pos) G.calm G.nd (PI.or (PI.or (pi_list hs) (pi_tup hs)) (pi_keys (slot_pe G _ h31))) bk hg ht he (plain_set (ck_plain h31))
          refine PE.imp (PE.or p (pe_lock p)) fun σ H Q h => ?_
          rw [own]
          exact imp_comp_seq h2 one G.clc (slot_nat G h31) h
    · have hs := soundS src G h9
      have pl := cks_plain h9
      cases as with
      | nil =>
        refine PE.imp (pe_lc G.calm G.nd (pi_range1 (G.gl h3) G.rng hs (star_cons pl)) bk hg ht he (fun _ => rfl)) fun σ H Q h => ?_
        rw [own]
        refine tS_imp (imp_comp_rng h2 one h) fun ws H1 len q => ?_
        rcases q with ⟨n, e, ⟨b1, b2⟩, q⟩ | ⟨a, b, e, _, q⟩
        · exact ⟨n, e, b1, b2, q⟩
        · rw [e, ioAt_len h9] at len; cases len
      | cons c2 as =>
        cases as with
        | nil =>
          have pl2 : plainX c2 = true := by
            cases src with
            | nil => cases h9
            | cons e r =>
              unfold cks at h9
              exact cks_plain (and2 h9).2
          refine PE.imp (pe_lc G.calm G.nd (pi_range2 (G.gl h3) G.rng hs (by rw [star_cons pl, star_cons pl2]; rfl) (by rw [star_cons pl2]; rfl)) bk hg ht he (fun _ => rfl)) fun σ H Q h => ?_
          rw [own]
          refine tS_imp (imp_comp_rng h2 one h) fun ws H1 len q => ?_
          rcases q with ⟨n, e, _, q⟩ | ⟨a, b, e, bd, q⟩
          · rw [e, ioAt_len h9] at len; cases len
          · exact ⟨a, b, e, bd, q⟩
        | cons c3 as => simp at h10
    · have hs := soundS src G h9
      have pl := cks_plain h9
      have pl2 : plainX c2 = true := by
        cases src with
        | nil => cases h9
        | cons e r =>
          unfold cks at h9
          exact cks_plain (and2 h9).2
      refine PE.imp (pe_lc G.calm G.nd (pi_zipB (G.gl h3) G.zip hs (star_cons pl) (by rw [star_cons pl2]; rfl)) bk hg ht he (fun _ => rfl)) fun σ H Q h => ?_
      rw [own]
      exact imp_comp_zip h2 one h10 h
    · have hs := soundS src G h9
      have pl := cks_plain h9
      refine PE.imp (pe_lc G.calm G.nd (pi_enumB (G.gl h3) G.enu hs (by rw [star_cons pl]; rfl)) bk hg ht he (fun _ => rfl)) fun σ H Q h => ?_
      rw [own]
      exact imp_comp_enu h2 one h10 h
theorem soundT : ∀ (e : E) {M : Nm} {W : XK} {sc : Scope} {fb : Str → Bool} {X : Cx}, Good cl cx T M W sc fb X k → ∀ {a : Expr}, ck X.N M sc fb e a = true → notIf e = true → PT X a (tB (tE cl cx T W X.K e))
  | .not x, M, _, _, _, _, G, _, h, _ => by
    obtain ⟨x', pos, rfl, h0, h1⟩ := ck_not h
    refine PT.imp (pt_not (soundT x G h1 h0)) fun σ H Q h => ?_
    have h := imp_not h
    refine tE_imp h fun v H1 ⟨c, e, c', e', q⟩ => ⟨c, e, ?_⟩
    cases e'
    exact q
  | .and es, M, _, _, _, _, G, _, h, _ => by
    obtain ⟨b, as, pos, rfl, h0, h1⟩ := ck_and h
    exact PT.imp (PW.pt (soundAT es G h1 h0)) fun σ H Q h => imp_and h
  | .or es, M, _, _, _, _, G, _, h, _ => by
    obtain ⟨b, as, pos, rfl, h0, h1⟩ := ck_or h
    exact PT.imp (PW.pt (soundOT es G h1 h0)) fun σ H Q h => imp_or h
  | .cmp o x y, M, _, _, _, _, G, _, h, _ => by
    obtain ⟨x', y', pos, rfl, h1, h2⟩ := ck_cmp h
    exact PT.imp (pt_cmpR (op_cmp G.units o) (soundE x G h1) (soundE y G h2) (plain_mark (ck_plain h2))) fun σ H Q h => imp_cmp h
  | .chn o q x y z, M, _, _, _, _, G, _, h, _ => by
    obtain ⟨x', y', z', pos, rfl, h1, h2, h3⟩ := ck_chn h
    exact PT.imp (pt_chain (op_cmp G.units o) (op_cmp G.units q) (soundE x G h1) (soundE y G h2) (soundE z G h3) (plain_mark (ck_plain h3))) fun σ H Q h => imp_chn h
  | .non, M, _, _, _, _, G, _, h, n => pt_val (soundE _ G h) (imp_isTrue h n nofun nofun nofun nofun nofun _)
  | .bl _, M, _, _, _, _, G, _, h, n => pt_val (soundE _ G h) (imp_isTrue h n nofun nofun nofun nofun nofun _)
  | .int _, M, _, _, _, _, G, _, h, n => pt_val (soundE _ G h) (imp_isTrue h n nofun nofun nofun nofun nofun _)
  | .str _, M, _, _, _, _, G, _, h, n => pt_val (soundE _ G h) (imp_isTrue h n nofun nofun nofun nofun nofun _)
  | .var _, M, _, _, _, _, G, _, h, n => pt_val (soundE _ G h) (imp_isTrue h n nofun nofun nofun nofun nofun _)
  | .mov _, M, _, _, _, _, G, _, h, n => pt_val (soundE _ G h) (imp_isTrue h n nofun nofun nofun nofun nofun _)
  | .frz _, M, _, _, _, _, G, _, h, n => pt_val (soundE _ G h) (imp_isTrue h n nofun nofun nofun nofun nofun _)
  | .io _, M, _, _, _, _, G, _, h, n => pt_val (soundE _ G h) (imp_isTrue h n nofun nofun nofun nofun nofun _)
  | .glb _, M, _, _, _, _, G, _, h, n => pt_val (soundE _ G h) (imp_isTrue h n nofun nofun nofun nofun nofun _)
  | .tup _, M, _, _, _, _, G, _, h, n => pt_val (soundE _ G h) (imp_isTrue h n nofun nofun nofun nofun nofun _)
  | .lst _, M, _, _, _, _, G, _, h, n => pt_val (soundE _ G h) (imp_isTrue h n nofun nofun nofun nofun nofun _)
  | .dct _, M, _, _, _, _, G, _, h, n => pt_val (soundE _ G h) (imp_isTrue h n nofun nofun nofun nofun nofun _)
  | .ite _ _ _, M, _, _, _, _, G, _, h, n => by cases n
  | .bin _ _ _, M, _, _, _, _, G, _, h, n => pt_val (soundE _ G h) (imp_isTrue h n nofun nofun nofun nofun nofun _)
  | .neg _, M, _, _, _, _, G, _, h, n => pt_val (soundE _ G h) (imp_isTrue h n nofun nofun nofun nofun nofun _)
  | .idx _ _, M, _, _, _, _, G, _, h, n => pt_val (soundE _ G h) (imp_isTrue h n nofun nofun nofun nofun nofun _)
  | .slc _ _ _, M, _, _, _, _, G, _, h, n => pt_val (soundE _ G h) (imp_isTrue h n nofun nofun nofun nofun nofun _)
  | .rev _, M, _, _, _, _, G, _, h, n => pt_val (soundE _ G h) (imp_isTrue h n nofun nofun nofun nofun nofun _)
  | .isi _ _, M, _, _, _, _, G, _, h, n => pt_val (soundE _ G h) (imp_isTrue h n nofun nofun nofun nofun nofun _)
  | .upp _, M, _, _, _, _, G, _, h, n => pt_val (soundE _ G h) (imp_isTrue h n nofun nofun nofun nofun nofun _)
  | .idv _ _, M, _, _, _, _, G, _, h, n => pt_val (soundE _ G h) (imp_isTrue h n nofun nofun nofun nofun nofun _)
  | .get _ _ _ _, M, _, _, _, _, G, _, h, n => pt_val (soundE _ G h) (imp_isTrue h n nofun nofun nofun nofun nofun _)
  | .lvs _, M, _, _, _, _, G, _, h, n => pt_val (soundE _ G h) (imp_isTrue h n nofun nofun nofun nofun nofun _)
  | .lnt _ _, M, _, _, _, _, G, _, h, n => pt_val (soundE _ G h) (imp_isTrue h n nofun nofun nofun nofun nofun _)
  | .shr _, M, _, _, _, _, G, _, h, n => pt_val (soundE _ G h) (imp_isTrue h n nofun nofun nofun nofun nofun _)
  | .srk _, M, _, _, _, _, G, _, h, n => pt_val (soundE _ G h) (imp_isTrue h n nofun nofun nofun nofun nofun _)
  | .sset _, M, _, _, _, _, G, _, h, n => pt_val (soundE _ G h) (imp_isTrue h n nofun nofun nofun nofun nofun _)
  | .lrng _, M, _, _, _, _, G, _, h, n => pt_val (soundE _ G h) (imp_isTrue h n nofun nofun nofun nofun nofun _)
  | .fld _ _, M, _, _, _, _, G, _, h, n => pt_val (soundE _ G h) (imp_isTrue h n nofun nofun nofun nofun nofun _)
  | .mth _ _ _, M, _, _, _, _, G, _, h, n => pt_val (soundE _ G h) (imp_isTrue h n nofun nofun nofun nofun nofun _)
  | .mk _ _ _, M, _, _, _, _, G, _, h, n => pt_val (soundE _ G h) (imp_isTrue h n nofun nofun nofun nofun nofun _)
  | .call _ _, M, _, _, _, _, G, _, h, n => pt_val (soundE _ G h) (imp_isTrue h n nofun nofun nofun nofun nofun _)
  | .bif _ _, M, _, _, _, _, G, _, h, n => pt_val (soundE _ G h) (imp_isTrue h n nofun nofun nofun nofun nofun _)
  | .mut _ _ _, M, _, _, _, _, G, _, h, n => pt_val (soundE _ G h) (imp_isTrue h n nofun nofun nofun nofun nofun _)
  | .orl _ _, M, _, _, _, _, G, _, h, n => by cases n
  | .mtd _ _ _, M, _, _, _, _, G, _, h, n => pt_val (soundE _ G h) (imp_isTrue h n nofun nofun nofun nofun nofun _)
  | .ask _ _ _ _, M, _, _, _, _, G, _, h, n => pt_val (soundE _ G h) (imp_isTrue h n nofun nofun nofun nofun nofun _)
  | .comp _ _ _ _ _ _, M, _, _, _, _, G, _, h, n => pt_val (soundE _ G h) (imp_isTrue h n nofun nofun nofun nofun nofun _)
theorem soundAT : ∀ (es : Es) {M : Nm} {W : XK} {sc : Scope} {fb : Str → Bool} {X : Cx}, Good cl cx T M W sc fb X k → ∀ {b : Expr} {as : List Expr} {pos : Pos}, cks X.N M sc fb es (b :: as) = true → noIfs es = true → PW X (.BoolOp .And (b :: as) pos) (tB (tAn cl cx T W X.K es))
  | .nil, M, _, _, _, _, G, b, as, pos, h, _ => by cases h
  | .cons e r, M, _, _, _, _, G, b, as, pos, h, n => by
    unfold cks at h
    obtain ⟨h1, h2⟩ := and2 h
    obtain ⟨n1, n2⟩ := and2 n
    cases as with
    | nil =>
      cases r with
      | cons _ _ => cases h2
      | nil => exact PW.imp (pw_and1 (soundT e G h1 n1)) fun σ H Q h => an_one h
    | cons c as =>
      refine PW.imp (pw_and (soundT e G h1 n1) (soundAT r G h2 n2)) fun σ H Q h => ?_
      refine tE_imp (an_cons h) fun v H1 ⟨c, e, q⟩ => ⟨c, e, ?_⟩
      cases c with
      | true =>
        rw [if_pos rfl] at q
        exact iteT q
      | false =>
        refine iteF ?_
        rw [if_neg (by decide)] at q
        obtain ⟨c', e', q'⟩ := q
        cases e'
        exact q'
theorem soundOT : ∀ (es : Es) {M : Nm} {W : XK} {sc : Scope} {fb : Str → Bool} {X : Cx}, Good cl cx T M W sc fb X k → ∀ {b : Expr} {as : List Expr} {pos : Pos}, cks X.N M sc fb es (b :: as) = true → noIfs es = true → PW X (.BoolOp .Or (b :: as) pos) (tB (tOn cl cx T W X.K es))
  | .nil, M, _, _, _, _, G, b, as, pos, h, _ => by cases h
  | .cons e r, M, _, _, _, _, G, b, as, pos, h, n => by
    unfold cks at h
    obtain ⟨h1, h2⟩ := and2 h
    obtain ⟨n1, n2⟩ := and2 n
    cases as with
    | nil =>
      cases r with
      | cons _ _ => cases h2
      | nil => exact PW.imp (pw_or1 (soundT e G h1 n1)) fun σ H Q h => on_one h
    | cons c as =>
      refine PW.imp (pw_or (soundT e G h1 n1) (soundOT r G h2 n2)) fun σ H Q h => ?_
      refine tE_imp (on_cons h) fun v H1 ⟨c, e, q⟩ => ⟨c, e, ?_⟩
      cases c with
      | false =>
        rw [if_neg (by decide)] at q
        exact iteF q
      | true =>
        refine iteT ?_
        rw [if_pos rfl] at q
        obtain ⟨c', e', q'⟩ := q
        cases e'
        exact q'
theorem soundS : ∀ (es : Es) {M : Nm} {W : XK} {sc : Scope} {fb : Str → Bool} {X : Cx}, Good cl cx T M W sc fb X k → ∀ {as : List Expr}, cks X.N M sc fb es as = true → PA X as (tS cl cx T W X.K es)
  | .nil, M, _, _, _, _, G, as, h => by
    cases as with
    | nil => exact PA.imp pa_nil fun σ H Q h => imp_nil h
    | cons _ _ => cases h
  | .cons e r, M, _, _, _, _, G, as, h => by
    cases as with
    | nil => cases h
    | cons a as =>
      have hp := cks_plain h
      unfold cks at h
      obtain ⟨h1, h2⟩ := and2 h
      exact PA.imp (pa_cons (soundE e G h1) (soundS r G h2) (star_cons hp)) fun σ H Q h => imp_cons h
theorem soundN : ∀ (es : Es) {M : Nm} {W : XK} {sc : Scope} {fb : Str → Bool} {X : Cx}, Good cl cx T M W sc fb X k → ∀ {as : List Expr} {kws : List Keyword}, cks X.N M sc fb es (as ++ kws.map (·.value)) = true → PA X as (tN cl cx T W X.K (esT as.length es)) ∧ PK X kws (tN cl cx T W X.K (esD as.length es))
  | .nil, M, _, _, _, _, G, as, kws, h => by
    cases as with
    | cons _ _ => cases h
    | nil =>
      cases kws with
      | cons _ _ => cases h
      | nil => exact ⟨pa_nil, pk_nil⟩
  | .cons e r, M, _, _, _, X, G, as, kws, h => by
    cases as with
    | cons a as =>
      rw [List.cons_append] at h
      unfold cks at h
      obtain ⟨h1, h2⟩ := and2 h
      obtain ⟨q1, q2⟩ := soundN r G (as := as) (kws := kws) h2
      exact ⟨pa_cons (soundE e G h1) q1 (star_cons (ck_plain h1)), q2⟩
    | nil =>
      cases kws with
      | nil => cases h
      | cons kw kws =>
        obtain ⟨nm, v, kp⟩ := kw
        rw [List.nil_append, List.map_cons] at h
        unfold cks at h
        obtain ⟨h1, h2⟩ := and2 h
        obtain ⟨q1, q2⟩ := soundN r G (as := []) (kws := kws) h2
        exact ⟨pa_nil, pk_cons (soundE e G h1) q2⟩
theorem soundP : ∀ (es : Es) {M : Nm} {W : XK} {sc : Scope} {fb : Str → Bool} {X : Cx}, Good cl cx T M W sc fb X k → ∀ {l : Option Expr}, cks X.N M sc fb es l.toList = true → PO X l (tPt cl cx T W X.K es)
  | .nil, M, _, _, _, _, G, l, h => by
    cases l with
    | none => exact po_none
    | some _ => cases h
  | .cons e r, M, _, _, _, _, G, l, h => by
    cases l with
    | none => cases h
    | some a =>
      unfold cks at h
      exact po_some (soundE e G (and2 h).1)
theorem soundK : ∀ (es : Es) {M : Nm} {W : XK} {sc : Scope} {fb : Str → Bool} {X : Cx}, Good cl cx T M W sc fb X k → ∀ {ks : List (Option Expr)} {vs : List Expr} {pos : Pos}, ckK X.N M sc fb es ks vs = true → PPs X pos ks vs (trOf cl cx T W X.K es)
  | .nil, M, _, _, _, _, G, ks, vs, pos, h => by
    cases ks with
    | nil =>
      cases vs with
      | nil => exact pps_nil
      | cons _ _ => cases h
    | cons _ _ => cases h
  | .cons e .nil, M, _, _, _, _, G, ks, vs, pos, h => by
    cases ks <;> cases h
  | .cons e (.cons f r), M, _, _, _, _, G, ks, vs, pos, h => by
    cases ks with
    | nil => cases h
    | cons b ks =>
      cases b with
      | none => cases h
      | some a =>
        cases vs with
        | nil => cases h
        | cons v vs =>
          unfold ckK at h
          obtain ⟨h1, h2, h3⟩ := and3 h
          exact pps_cons (soundE e G h1) (soundE f G h2) (soundK r G h3)
theorem soundAn : ∀ (es : Es) {M : Nm} {W : XK} {sc : Scope} {fb : Str → Bool} {X : Cx}, Good cl cx T M W sc fb X k → ∀ {b : Expr} {as : List Expr} {pos : Pos}, cks X.N M sc fb es (b :: as) = true → PE X (.BoolOp .And (b :: as) pos) (tAn cl cx T W X.K es)
  | .nil, M, _, _, _, _, G, b, as, pos, h => by cases h
  | .cons e r, M, _, _, _, _, G, b, as, pos, h => by
    unfold cks at h
    obtain ⟨h1, h2⟩ := and2 h
    cases as with
    | nil =>
      cases r with
      | cons _ _ => cases h2
      | nil => exact PE.imp (pe_one (soundE e G h1)) fun σ H Q h => an_one h
    | cons c as => exact PE.imp (pe_and (soundE e G h1) (soundAn r G h2)) fun σ H Q h => an_cons h
theorem soundOn : ∀ (es : Es) {M : Nm} {W : XK} {sc : Scope} {fb : Str → Bool} {X : Cx}, Good cl cx T M W sc fb X k → ∀ {b : Expr} {as : List Expr} {pos : Pos}, cks X.N M sc fb es (b :: as) = true → PE X (.BoolOp .Or (b :: as) pos) (tOn cl cx T W X.K es)
  | .nil, M, _, _, _, _, G, b, as, pos, h => by cases h
  | .cons e r, M, _, _, _, _, G, b, as, pos, h => by
    unfold cks at h
    obtain ⟨h1, h2⟩ := and2 h
    cases as with
    | nil =>
      cases r with
      | cons _ _ => cases h2
      | nil => exact PE.imp (pe_one (soundE e G h1)) fun σ H Q h => on_one h
    | cons c as => exact PE.imp (pe_or (soundE e G h1) (soundOn r G h2)) fun σ H Q h => on_cons h
end
end
end DD
namespace DD
open L2 PyProof.Rows PySem PySem.Spec
variable [TabT]
mutual
inductive S where
  | nev | pass | cont | brk
  | set (i : Nat) (e : E) | mv (i j : Nat) | unp (is : List Nat) (e : E) | par (is : List Nat) (es : Es)
  | stl (i : Nat) (es : Es) | sti (i : Nat) (y e : E) | sta (i : Nat) (f : Str) (sh : Bool) (e : E) | stf (i : Nat) (f : Str) (y e : E) | exp (e : E) | ret (e : E) | ret0
  | rai (c : Nat) | tryr (e : E) (hs : List (Nat × D)) | trye (e : E) (hs : List (Nat × D))
  | fz (i : Nat) (s : S)
  | iff (c : E) (a b : Ss) | whl (n : Nat) (c : E) (b : Ss) | loop (w : Wk) (tg : Tg) (src : Es) (b : Ss)
inductive Ss where
  | nil | cons (s : S) (r : Ss)
end
inductive Fw where
  | nx | ct | bk | rt (x : Fl × D)
/-- a slot that may be written over -/
def overAt (σ : Sg) (i : Nat) : Bool := decide (i < σ.length) && (match σ.at i with
  | some (.ino, _) => false
  | _ => true)
/-- nothing that the def has alone -/
def shrA (σ : Sg) : Bool := σ.all fun
  | some (.own, _) => false
  | some (.ino, _) => false
  | _ => true
abbrev ckH (M : Nm) (sc : Scope) : List (Nat × D) → List ExceptHandler → Bool := ckHx M.exs sc
/-- raise C('text') -/
def raN : Stmt → Option Str
  | .Raise (some (.Call (.Name x _) [.Constant (.str _) _ _] [] _)) none _ => some x
  | _ => none
/-- try: return e; except .. -/
def trN : Stmt → Option (Expr × List ExceptHandler)
  | .Try [.Return (some a) _] hds [] [] _ => some (a, hds)
  | _ => none
/-- try: e; except .. -/
def tyN2 : Stmt → Option (Expr × List ExceptHandler)
  | .Try [.Expr a _] hds [] [] _ => some (a, hds)
  | _ => none
/-- what is stored: behind an expression that may change slots a new thing is shared at once -/
def own1 (b : Bool) : Fl × D → R (Fl × D)
  | (.dat, d) => .ok (.dat, d)
  | (.own, d) => if b then .ok (.dat, d) else .ok (.own, d)
  | _ => .bad
/-- a name that is a thing lent to the def -/
def brwS : Sl → Bool
  | some (.brw, _) => true
  | _ => false
def brwAt (σ : Sg) : E → Bool
  | .var i => brwS (σ.at i)
  | _ => false
/-- what is stored: a lent thing too, where it is another name of it -/
def own2 (σ : Sg) (e : E) : Fl × D → R (Fl × D)
  | (.brw, d) => if brwAt σ e then .ok (.brw, d) else .bad
  | x => own1 (imp e) x
def evP (T : Tb) : Es → Sg → R (List (Fl × D) × Sg)
  | .nil, σ => .ok ([], σ)
  | .cons e r, σ => do
    let (x, σ1) ← ev T e σ
    let x ← own2 σ e x
    let (xs, σ2) ← evP T r σ1
    .ok (x :: xs, σ2)
def setA (σ : Sg) : List Nat → List (Fl × D) → Sg
  | i :: is, x :: xs => setA (σ.set i (some x)) is xs
  | _, _ => σ
def clrA (σ : Sg) : List Nat → Sg
  | [] => σ
  | i :: is => clrA (σ.set i none) is
/-- x[y] = v -/
def stiD : D → D → D → R D
  | .lst ds, .int i, v => do let j ← ofO (ixN ds.length i); .ok (.lst (ds.set j v))
  | .dct kvs, y, v => do let k ← ofO (keyD y); if kvs.length < 16777216 then .ok (.dct (putD kvs k v)) else .bad
  | _, _, _ => .bad
/-- what becomes a field: shared, or a dict that the instance alone has -/
def staD (sh b : Bool) (x : Fl × D) : R D := if sh then keep x else match x with
  | (.own, .dct kvs) => if !b then .ok (.odc kvs) else .bad
  | _ => .bad
def putO (f : Str) (kvs : List (L2.Key × D)) : List (Str × D) → List (Str × D)
  | [] => []
  | (g, x) :: r => if f == g then (g, .odc kvs) :: r else (g, x) :: putO f kvs r
def odcO : D → R (List (L2.Key × D))
  | .odc kvs => .ok kvs
  | _ => .bad
def dctO : D → R (List (L2.Key × D))
  | .dct kvs => .ok kvs
  | _ => .bad
/-- a lent thing that is walked while slots change is one that was lent to the def -/
def srcOk (σ : Sg) : Es → List (Fl × D) → Bool
  | .nil, [] => true
  | .cons e r, x :: xs => (match x.1 with
    | .dat => true
    | .own => true
    | .ino => false
    | .brw => (match e with
      | .var i => (match σ.at i with
        | some (.brw, _) => true
        | _ => false)
      | _ => false)) && srcOk σ r xs
  | _, _ => false
def loopGo (f : D → Sg → R (Fw × Sg)) : List D → Sg → R (Fw × Sg)
  | [], σ => .ok (.nx, σ)
  | d :: ds, σ => do
    let (w, σ1) ← f d σ
    match w with
    | .nx => loopGo f ds σ1
    | .ct => loopGo f ds σ1
    | .bk => .ok (.nx, σ1)
    | .rt x => .ok (.rt x, σ1)
def whlGo (c : Sg → R (Bool × Sg)) (f : Sg → R (Fw × Sg)) : Nat → Sg → R (Fw × Sg)
  | 0, _ => .bad
  | n + 1, σ => do
    let (b, σ1) ← c σ
    if b then do
      let (w, σ2) ← f σ1
      match w with
      | .nx => whlGo c f n σ2
      | .ct => whlGo c f n σ2
      | .bk => .ok (.nx, σ2)
      | .rt x => .ok (.rt x, σ2)
    else .ok (.nx, σ1)
/-- what the def has alone in a slot is shared from now on -/
def giveS (i : Nat) : Fw × Sg → R (Fw × Sg)
  | (.nx, σ) => (match σ.at i with
    | some (.own, d) => .ok (.nx, σ.set i (some (.dat, d)))
    | _ => .ok (.nx, σ))
  | p => .ok p
mutual
def exec (T : Tb) : S → Sg → R (Fw × Sg)
  | .nev, _ => .bad
  | .pass, σ => .ok (.nx, σ)
  | .cont, σ => .ok (.ct, σ)
  | .brk, σ => .ok (.bk, σ)
  | .set i e, σ => do
    let (xs, σ1) ← evP T (.cons e .nil) σ
    guard (overAt σ1 i)
    .ok (.nx, setA σ1 [i] xs)
  | .mv i j, σ => do
    guard (decide (i ≠ j) && overAt σ i && overAt σ j)
    match σ.at j with
    | some (.own, d) => .ok (.nx, (σ.set j none).set i (some (.own, d)))
    | _ => .bad
  | .unp is e, σ => do
    let (x, σ1) ← ev T e σ
    guard (x.1 == .dat && is.all (overAt σ1))
    let σ2 ← setT (clrA σ1 is) (.tup is) x.2
    .ok (.nx, σ2)
  | .par is es, σ => do
    let (xs, σ1) ← evP T es σ
    guard (decide is.Nodup && is.all (overAt σ1) && decide (is.length = xs.length) && decide (xs.length ≤ 16))
    .ok (.nx, setA σ1 is xs)
  | .stl i es, σ => do
    let (xs, σ1) ← evs T es σ
    let ds ← keeps xs
    guard (decide (ds.length ≤ 16777216) && overAt σ1 i)
    .ok (.nx, setA σ1 [i] [(.own, .lst ds)])
  | .sti i y e, σ => do
    let (x, σ1) ← ev T e σ
    let v ← keep x
    guard (!(imp y))
    match σ1.at i with
    | some (.own, d) => do
      let (k, _) ← ev T y σ1
      let k ← look k
      let d' ← stiD d k v
      .ok (.nx, σ1.set i (some (.own, d')))
    | some (.ino, d) => do
      let (k, _) ← ev T y σ1
      let k ← look k
      let d' ← stiD d k v
      .ok (.nx, σ1.set i (some (.ino, d')))
    | _ => .bad
  | .sta i f sh e, σ => do
    let (x, σ1) ← ev T e σ
    let d ← staD sh (imp e) x
    match σ1.at i with
    | some (.ino, .obj c fs) => do
      guard ((fs.lookup f).isNone && decide (fs.length < 100))
      .ok (.nx, σ1.set i (some (.ino, .obj c (fs ++ [(f, d)]))))
    | _ => .bad
  | .stf i f y e, σ => do
    let (x, σ1) ← ev T e σ
    let v ← keep x
    guard (!(imp y))
    match σ1.at i with
    | some (.ino, .obj c fs) => do
      let d ← ofO (fs.lookup f)
      let kvs ← odcO d
      let (k, _) ← ev T y σ1
      let k ← look k
      let d' ← stiD (.dct kvs) k v
      let kvs' ← dctO d'
      .ok (.nx, σ1.set i (some (.ino, .obj c (putO f kvs' fs))))
    | _ => .bad
  | .exp e, σ => do
    let (_, σ1) ← ev T e σ
    .ok (.nx, σ1)
  | .ret e, σ => do
    let (x, σ1) ← ev T e σ
    guard (x.1 != .brw && x.1 != .ino)
    .ok (.rt x, σ1)
  | .ret0, σ => .ok (.rt (.dat, .non), σ)
  | .rai c, _ => .exc ⟨c, none⟩
  | .tryr e hs, σ => do
    guard (shrA σ)
    match ev T e σ with
    | .ok (x, σ1) => do
      guard (x.1 != .brw && x.1 != .ino)
      .ok (.rt x, σ1)
    | .exc y => (match hs.find? fun q => decide (q.1 = y.c) with
      | some q => .ok (.rt (.dat, q.2), σ)
      | none => .bad)
    | .bad => .bad
  | .fz i s, σ => do
    let p ← exec T s σ
    giveS i p
  | .trye e hs, σ => do
    guard (!(imp e))
    match ev T e σ with
    | .ok _ => .ok (.nx, σ)
    | .exc y => (match hs.find? fun q => decide (q.1 = y.c) with
      | some q => .ok (.rt (.dat, q.2), σ)
      | none => .bad)
    | .bad => .bad
  | .iff c a b, σ => do
    let (v, σ1) ← ev T c σ
    let t ← boolD v
    if t then execs T a σ1 else execs T b σ1
  | .whl n c b, σ => calm (whlGo (fun τ => do
      let (v, τ1) ← ev T c τ
      let t ← boolD v
      .ok (t, τ1)) (fun τ => execs T b τ) n σ)
  | .loop w tg src b, σ => calm (do
    let (xs, σ1) ← evs T src σ
    guard (dctSrc src xs && srcOk σ1 src xs)
    let ds ← looks xs
    let its ← wkD w ds
    calm (loopGo (fun d τ => do
      guard ((tgSlots tg).all (freeAt τ))
      let τ1 ← setT τ tg d
      execs T b τ1) its σ1))
def execs (T : Tb) : Ss → Sg → R (Fw × Sg)
  | .nil, σ => .ok (.nx, σ)
  | .cons s r, σ => do
    let (w, σ1) ← exec T s σ
    match w with
    | .nx => execs T r σ1
    | w => .ok (w, σ1)
end
def noTupE : Expr → Bool
  | .Tuple .. => false
  | _ => true
def tgNames (N : List Str) (sc : Scope) (fb : Str → Bool) (is : List Nat) (es : List Expr) : Bool := is.length == es.length && (is.zip es).all fun p => match p.2 with
    | .Name x _ => decide (N[p.1]? = some x) && locB sc fb x
    | _ => false
def isLocal (sc : Scope) (x : Str) : Bool := sc.names.lookup x == some .local
/-- the names are stored from the right -/
def swN (sc : Scope) : List Expr → Bool
  | [.Name x px, .Name y py] => isLocal sc x && isLocal sc y && (px.line == py.line) && decide (x ≠ y)
  | [.Name x px, .Name y py, .Name z pz] => isLocal sc x && isLocal sc y && isLocal sc z && (px.line == py.line) && (px.line == pz.line) && decide (x ≠ y) && decide (x ≠ z) && decide (y ≠ z)
  | _ => false
/-- they are not -/
def unN (sc : Scope) (ts vs : List Expr) : Bool := (!(ts.length == 2 || ts.length == 3)) || vs.all (foldedForSure 8) || (ts.any fun | .Name x _ => !(isLocal sc x) | _ => true)
def isLc : Expr → Bool
  | .ListComp .. => true
  | _ => false
def lcScope : Expr → List (Str × NameKind)
  | .ListComp _ _ s _ => s.names
  | _ => []
/-- y = [..]: by which of the two roads -/
def lcSwap (sc : Scope) (y : Str) (l : Nat) (a : Expr) : Bool := isLocal sc y && (l == a.pos.line) && !((lcScope a).any fun (n, k) => n == y && (k == .local || k == .cell))
mutual
def ckS (N : List Str) (M : Nm) (sc : Scope) (fb : Str → Bool) : S → Stmt → Bool
  | .nev, _ => true
  | .pass, .Pass _ => true
  | .cont, .Continue _ => true
  | .brk, .Break _ => true
  | .set i e, .Assign [.Name x p] a _ => decide (N[i]? = some x) && locB sc fb x && ck N M sc fb e a && (!(isLc a) || lcSwap sc x p.line a || !(isLocal sc x))
  | .mv i j, .Assign [.Name x _] (.Name y _) _ => decide (N[i]? = some x) && locB sc fb x && decide (N[j]? = some y) && visB sc y && okN y
  | .unp is e, .Assign [.Tuple ts _ _] a _ => tgNames N sc fb is ts && ck N M sc fb e a && noTupE a
  | .par is es, .Assign [.Tuple ts _ _] (.Tuple vs _ _) _ => tgNames N sc fb is ts && cks N M sc fb es vs && (ts.length == vs.length) &&
    ((swN sc ts && !(vs.all (foldedForSure 8)) && !(vs.all (constantsAlone 8))) || unN sc ts vs)
  | .stl i es, .Assign [.Name x _] (.List as _) _ => decide (N[i]? = some x) && locB sc fb x && cks N M sc fb es as
  | .sti i y e, .Assign [.Subscript (.Name x _) b _] a _ => decide (N[i]? = some x) && visB sc x && okN x && ck N M sc fb y b && ck N M sc fb e a
  | .sta i f _ e, .Assign [.Attribute (.Name x _) g _] a _ => decide (f = g) && decide (f ∈ M.flds) && decide (N[i]? = some x) && visB sc x && okN x && ck N M sc fb e a
  | .stf i f y e, .Assign [.Subscript (.Attribute (.Name x _) g _) b _] a _ => decide (f = g) && decide (f ∈ M.flds) && decide (N[i]? = some x) && visB sc x && okN x && ck N M sc fb y b && ck N M sc fb e a
  | .exp e, .Expr a _ => ck N M sc fb e a && !(isLc a)
  | .ret e, .Return (some a) _ => ck N M sc fb e a
  | .ret0, .Return none _ => true
  | .rai c, t => (match raN t with
    | some x => decide (M.exs[c]? = some x) && glB sc x && okN x
    | none => false)
  | .tryr e hs, t => (match trN t with
    | some (a, hds) => ck N M sc fb e a && !hds.isEmpty && ckH M sc hs hds
    | none => false)
  | .fz _ s, t => ckS N M sc fb s t
  | .trye e hs, t => (match tyN2 t with
    | some (a, hds) => ck N M sc fb e a && !(isLc a) && !hds.isEmpty && ckH M sc hs hds
    | none => false)
  | .iff c a b, .If c' a' b' _ => notIf c && ck N M sc fb c c' && ckSs N M sc fb a a' && ckSs N M sc fb b b'
  | .whl _ c b, .While c' b' [] _ => notIf c && ck N M sc fb c c' && ckSs N M sc fb b b'
  | .loop w tg src b, .For t it b' [] _ => ckTg N sc fb tg t && (match w, it with
      | .seq, it => cks N M sc fb src [it]
      | .rng, .Call (.Name x _) as [] _ => decide (x = "range") && glB sc x && cks N M sc fb src as && !as.isEmpty && decide (as.length ≤ 2)
      | .dwn, .Call (.Name x _) as [] _ => decide (x = "range") && glB sc x && cks N M sc fb src as && decide (as.length = 3)
      | .zip, .Call (.Name x _) [a1, a2] [] _ => decide (x = "zip") && glB sc x && cks N M sc fb src [a1, a2] && isTup t
      | _, _ => false) && ckSs N M sc fb b b'
  | _, _ => false
def ckSs (N : List Str) (M : Nm) (sc : Scope) (fb : Str → Bool) : Ss → List Stmt → Bool
  | .nil, [] => true
  | .cons s r, t :: ts => ckS N M sc fb s t && ckSs N M sc fb r ts
  | _, _ => false
end
end DD
namespace DD
open L2 PyProof.Rows PySem PySem.Spec
variable [TabT]
def PostS (K : PySem.W.Frag) (cl cx : Nat → Addr) (W : XK) (P : Px) (rr : R (Fw × Sg)) (D : Ends) : Prop := match rr with
  | .ok (.nx, σ) => ∀ fp σV H, Rel K cl P fp σ σV H → D.nx σV H
  | .ok (.ct, σ) => ∀ fp σV H, Rel K cl P fp σ σV H → D.ct σV H
  | .ok (.bk, σ) => ∀ fp σV H, Rel K cl P fp σ σV H → D.bk σV H
  | .ok (.rt x, σ) => ∀ fp σV H v, Rel K cl P fp σ σV H → Rs K cl (newP P) (avS P fp) H x v → D.rt v H
  | .exc x => ∀ od H', ExR K cl x od H' → Fr P.H0 P.O0 H' → W (.ref (cx x.c)) od H'
  | .bad => False
def tSt (K : PySem.W.Frag) (cl cx : Nat → Addr) (W : XK) (T : Tb) (s : S) : TS := fun D σV H => ∃ P fp σ, Rel K cl P fp σ σV H ∧ PostS K cl cx W P (exec T s σ) D
def tSts (K : PySem.W.Frag) (cl cx : Nat → Addr) (W : XK) (T : Tb) (s : Ss) : TS := fun D σV H => ∃ P fp σ, Rel K cl P fp σ σV H ∧ PostS K cl cx W P (execs T s σ) D
section
variable {K : PySem.W.Frag} {cl cx : Nat → Addr} {W : XK} {P : Px} {σV : L2.St} {fp fp1 fp2 : Fp} {H H1 H2 : Hp} {σ σ1 σ2 : Sg} {T : Tb} {Dn : Ends}
theorem fr_back (R : Rel K cl P fp σ σV H) (f : Fr H (ownS fp) H1) : Fr P.H0 P.O0 H1 := R.fr0.trans f fun a h => R.new a h
/-- an expression ahead of what hangs on it -/
theorem stBind {a b : Type} {m : R (a × Sg)} {k : a × Sg → R (Fw × Sg)} {pu : Bool} {RS : Fp → Hp → a → b → Prop} {Q : b → Hp → Prop} (R : Rel K cl P fp σ σV H) (h : PostS K cl cx W P (m >>= k) Dn)
    (n : ∀ v σ1 fp1 v1 H1, m = .ok (v, σ1) → Rel K cl P fp1 σ1 σV H1 → Sub fp1 fp → Fr H (ownS fp) H1 → (pu = false → σ1 = σ ∧ fp1 = fp ∧ Ext H H1) → RS fp1 H1 v v1 →
      PostS K cl cx W P (k (v, σ1)) Dn → Q v1 H1) : Post K cl cx W P σV fp H σ pu RS m Q := by
  cases m with
  | ok p =>
    obtain ⟨v, σ1⟩ := p
    exact fun fp1 v1 H1 R1 s1 f1 i1 r1 => n v σ1 fp1 v1 H1 rfl R1 s1 f1 i1 r1 h
  | exc y => exact fun od H' x f _ => h od H' x (fr_back R f)
  | bad => exact h
theorem PostS.pur {c : Type} {m : R c} {k : c → R (Fw × Sg)} (h : PostS K cl cx W P (m >>= k) Dn) (n : NoX m) : ∃ y, m = .ok y ∧ PostS K cl cx W P (k y) Dn := by
  cases m with
  | ok y => exact ⟨y, rfl, h⟩
  | exc y => exact absurd rfl (n y)
  | bad => exact (show False from h).elim
theorem PostS.grd {b : Bool} {k : Unit → R (Fw × Sg)} (h : PostS K cl cx W P (guard b >>= k) Dn) : b = true ∧ PostS K cl cx W P (k ()) Dn := by
  cases b with
  | true => exact ⟨rfl, h⟩
  | false => exact (show False from h).elim
theorem Rel.past {σV1 : L2.St} (R0 : Rel K cl P fp σ σV H) (R : Rel K cl (P.now H fp) fp1 σ1 σV1 H1) : Rel K cl P fp1 σ1 σV1 H1 :=
  ⟨R.len, fun i => (R.sl i).px rfl rfl, R.dis, R.noX, R.trX, R.bX, fr_back R0 R.fr0, fun a h => by
    rcases R.new a h with z | z
    · exact R0.new a z
    · exact fresh_new R0 z, R0.tb⟩
/-- the same with other things that may not be touched -/
def Px.wX (P : Px) (X : AS) : Px := { P with X := X }
/-- new cells, owned by nobody yet -/
theorem Rel.fresh {X' : AS} {fr : List Addr} (R : Rel K cl P fp σ σV H) (t : Ext H H1) (n : ∀ a ∈ fr, H a = none) (th : ∀ a ∈ fr, H1 a ≠ none) (hX : ∀ a, X' a ↔ P.X a ∨ a ∈ fr) : Rel K cl (P.wX X') fp σ σV H1 where
  len := R.len
  sl := fun i => by
    have m' : Mv (avS P fp) H (avS (P.wX X') fp) H1 := ⟨fun b u h nt _ => t.keep b u h nt, fun a h => by
      rcases h with h | h
      · rcases (hX a).mp h with h | h
        · exact .inl (.inl h)
        · exact .inr (n a h)
      · exact .inl (.inr h)⟩
    have s := R.sl i
    generalize σ.at i = x at s ⊢
    generalize (σV[i]?).join = y at s ⊢
    cases s with
    | none n => exact .none n
    | dat r n => exact .dat (r.mv m') n
    | own c => exact .own (c.mv m' fun a _ u h nt => t.keep a u h nt)
    | ino c n => exact .ino (c.mv m' fun a _ u h nt => t.keep a u h nt) n
    | brw c f n => exact .brw (c.mv m' fun a _ u h nt => t.keep a u h nt) f n
  dis := R.dis
  noX := fun i a h z => by
    rcases (hX a).mp z with z | z
    · exact R.noX i a h z
    · exact R.trk a (.inr ⟨i, h⟩) (n a z)
  trX := fun a h => by
    rcases (hX a).mp h with h | h
    · exact there_ext t (R.trX a h)
    · exact th a h
  bX := fun a h => (hX a).mpr (.inl (R.bX a h))
  fr0 := R.fr0.trans (Fr.of (O := noA) t) fun _ z => z.elim
  new := R.new
  tb := R.tb
def fpSet (fp : Fp) (i : Nat) (fr : List Addr) : Fp := fun j => if j = i then fr else fp j
/-- cells that were owned by nobody come into slot i -/
theorem Rel.take {X' X : AS} {fr : List Addr} {i : Nat} {d : D} {v : V} (R : Rel K cl (P.wX X') fp σ σV H) (hX : ∀ a, X' a ↔ X a ∨ a ∈ fr) (nX : ∀ a ∈ fr, ¬ X a) (bX : ∀ a, P.B a → X a) (nw : ∀ a ∈ fr, newP P a)
    (c : Cell K cl (avS (P.wX X') fp) H d v fr) (hi : i < σ.length) : Rel K cl (P.wX X) (fpSet fp i fr) (σ.set i (some (.own, d))) (σV.set i (some v)) H := by
  have le : ∀ a, avS (P.wX X) (fpSet fp i fr) a → avS (P.wX X') fp a := fun a h => by
    rcases h with h | ⟨j, h⟩
    · exact .inl ((hX a).mpr (.inl h))
    · unfold fpSet at h
      split at h
      · exact .inl ((hX a).mpr (.inr h))
      · exact .inr ⟨j, h⟩
  have ml : Mv (avS (P.wX X') fp) H (avS (P.wX X) (fpSet fp i fr)) H := Mv.less le
  refine ⟨by rw [List.length_set, List.length_set]; exact R.len, fun j => ?_, fun a b x h1 h2 => ?_, fun j a h => ?_, fun a h => R.trX a ((hX a).mpr (.inl h)), bX, R.fr0, fun a h => ?_, R.tb⟩
  · rw [at_set]
    by_cases e : i = j
    · subst e
      rw [if_pos ⟨rfl, hi⟩, List.getElem?_set_self (by rw [← R.len]; exact hi)]
      refine .own ?_
      show Cell K cl _ H d v (fpSet fp i fr i)
      unfold fpSet
      rw [if_pos rfl]
      exact c.mv ml fun _ _ _ h _ => h
    · rw [if_neg fun z => e z.1, List.getElem?_set_ne e]
      have ef : fpSet fp i fr j = fp j := by unfold fpSet; rw [if_neg fun z => e z.symm]
      rw [ef]
      have s := R.sl j
      generalize Sg.at σ j = x at s ⊢
      generalize (σV[j]?).join = y at s ⊢
      cases s with
      | none n => exact .none n
      | dat r n => exact .dat (r.mv ml) n
      | own c => exact .own (c.mv ml fun _ _ _ h _ => h)
      | ino c n => exact .ino (c.mv ml fun _ _ _ h _ => h) n
      | brw c f n => exact .brw (c.mv ml fun _ _ _ h _ => h) f n
  · unfold fpSet at h1 h2
    split at h1 <;> split at h2
    · rename_i e1 e2; rw [e1, e2]
    · exact absurd ((hX x).mpr (.inr h1)) (R.noX b x h2)
    · exact absurd ((hX x).mpr (.inr h2)) (R.noX a x h1)
    · exact R.dis a b x h1 h2
  · unfold fpSet at h
    split at h
    · exact nX a h
    · exact fun z => R.noX j a h ((hX a).mpr (.inl z))
  · obtain ⟨j, h⟩ := h
    unfold fpSet at h
    split at h
    · exact nw a h
    · exact R.new a ⟨j, h⟩
theorem Rel.clrS (R : Rel K cl P fp σ σV H) (i : Nat) : Rel K cl P (clr fp i) (σ.set i none) σV H :=
  R.upd1 (clr_sub fp i) (fun j hj => by unfold clr; rw [if_neg hj]) (.none (by unfold clr; rw [if_pos rfl]))
theorem Rel.datS {i : Nat} {d : D} {v : V} (R : Rel K cl P fp σ σV H) (r : Rep K cl (avS P fp) H d v) : Rel K cl P (clr fp i) (σ.set i (some (.dat, d))) (σV.set i (some v)) H := by
  have q := (R.clrS i).setD (i := i) (by unfold clr; rw [if_pos rfl]) (r.mv (Mv.less (sub_av (clr_sub fp i))))
  rwa [List.set_set] at q
theorem Rel.brwS {i : Nat} {d : D} {v : V} {fr : List Addr} (R : Rel K cl P fp σ σV H) (c : Cell K cl (avS P fp) H d v fr) (f : ∀ a ∈ fr, P.B a) : Rel K cl P (clr fp i) (σ.set i (some (.brw, d))) (σV.set i (some v)) H := by
  have R1 := R.clrS i
  have e : clr fp i i = [] := by unfold clr; rw [if_pos rfl]
  have c1 : Cell K cl (avS P (clr fp i)) H d v fr := c.mv (Mv.less (sub_av (clr_sub fp i))) fun _ _ _ h _ => h
  refine ⟨by rw [List.length_set, List.length_set]; exact R.len, fun j => ?_, R1.dis, R1.noX, R1.trX, R1.bX, R1.fr0, R1.new, R1.tb⟩
  rw [at_set]
  by_cases h : i = j
  · subst h
    by_cases hl : i < σ.length
    · rw [if_pos ⟨rfl, hl⟩, List.getElem?_set_self (by rw [← R.len]; exact hl)]
      exact .brw c1 f e
    · rw [if_neg fun z => hl z.2, List.getElem?_eq_none (by rw [List.length_set, ← R.len]; omega)]
      have n1 : σ.at i = none := by
        unfold Sg.at
        rw [List.getElem?_eq_none (by omega)]; rfl
      rw [n1]
      exact .none e
  · rw [if_neg fun z => h z.1, List.getElem?_set_ne h]
    have s := R1.sl j
    rw [at_set, if_neg fun z => h z.1] at s
    exact s
inductive Its (K : PySem.W.Frag) (cl : Nat → Addr) (B : AS) (Z : AS) (H : Hp) : List (Fl × D) → List V → List (List Addr) → Prop
  | nil : Its K cl B Z H [] [] []
  | dat {d : D} {v : V} {xs : List (Fl × D)} {vs : List V} {frs : List (List Addr)} : Rep K cl Z H d v → Its K cl B Z H xs vs frs → Its K cl B Z H ((.dat, d) :: xs) (v :: vs) ([] :: frs)
  | own {d : D} {v : V} {fr : List Addr} {xs : List (Fl × D)} {vs : List V} {frs : List (List Addr)} : Cell K cl Z H d v fr → Its K cl B Z H xs vs frs → Its K cl B Z H ((.own, d) :: xs) (v :: vs) (fr :: frs)
  | brw {d : D} {v : V} {fr : List Addr} {xs : List (Fl × D)} {vs : List V} {frs : List (List Addr)} : Cell K cl Z H d v fr → (∀ a ∈ fr, B a) → Its K cl B Z H xs vs frs → Its K cl B Z H ((.brw, d) :: xs) (v :: vs) ([] :: frs)
theorem Its.len {B Z : AS} : ∀ {xs : List (Fl × D)} {vs : List V} {frs : List (List Addr)}, Its K cl B Z H xs vs frs → xs.length = vs.length
  | _, _, _, .nil => rfl
  | _, _, _, .dat _ r => congrArg (· + 1) r.len
  | _, _, _, .own _ r => congrArg (· + 1) r.len
  | _, _, _, .brw _ _ r => congrArg (· + 1) r.len
theorem Its.there {B Z : AS} : ∀ {xs : List (Fl × D)} {vs : List V} {frs : List (List Addr)}, Its K cl B Z H xs vs frs → ∀ a ∈ frs.flatten, H a ≠ none
  | _, _, _, .nil, a, h => by cases h
  | _, _, _, .dat _ r, a, h => r.there a (by simpa using h)
  | _, _, _, .brw _ _ r, a, h => r.there a (by simpa using h)
  | _, _, _, .own c r, a, h => by
    rw [List.flatten_cons, List.mem_append] at h
    rcases h with h | h
    · exact c.there a h
    · exact r.there a h
theorem Its.ext {B Z : AS} (t : Ext H H1) : ∀ {xs : List (Fl × D)} {vs : List V} {frs : List (List Addr)}, Its K cl B Z H xs vs frs → Its K cl B Z H1 xs vs frs
  | _, _, _, .nil => .nil
  | _, _, _, .dat r s => .dat (r.mv (Mv.ext t)) (s.ext t)
  | _, _, _, .own c s => .own (c.mv (Mv.ext t) fun a _ o h nt => t.keep a o h nt) (s.ext t)
  | _, _, _, .brw c f s => .brw (c.mv (Mv.ext t) fun a _ o h nt => t.keep a o h nt) f (s.ext t)
def setV (σV : L2.St) : List Nat → List V → L2.St
  | i :: is, x :: xs => setV (σV.set i (some x)) is xs
  | _, _ => σV
theorem over_lt {i : Nat} (h : overAt σ i = true) : i < σ.length := of_decide_eq_true (and2 h).1
theorem setA_ok {Z : AS} : ∀ {is : List Nat} {xs : List (Fl × D)} {vs : List V} {frs : List (List Addr)} {X' : AS} {fp : Fp} {σ : Sg} {σV : L2.St}, Its K cl P.B Z H xs vs frs → is.length = xs.length → (∀ i ∈ is, i < σ.length) →
    Rel K cl (P.wX X') fp σ σV H → (∀ a, X' a ↔ P.X a ∨ a ∈ frs.flatten) → (∀ a, avS (P.wX X') fp a → Z a) → frs.flatten.Nodup → (∀ a ∈ frs.flatten, ¬ P.X a) → (∀ a ∈ frs.flatten, newP P a) → (∀ a, P.B a → P.X a) →
    ∃ fp', Rel K cl P fp' (setA σ is xs) (setV σV is vs) H
  | [], _, _, _, X', fp, σ, σV, it, l, _, R, hX, _, _, _, _, _ => by
    cases it with
    | nil =>
      have e : P.wX X' = P := by
        have : X' = P.X := funext fun a => propext ((hX a).trans ⟨fun h => h.elim id (fun z => nomatch z), .inl⟩)
        rw [this]; rfl
      rw [e] at R
      exact ⟨fp, R⟩
    | dat _ _ => cases l
    | own _ _ => cases l
    | brw _ _ _ => cases l
  | i :: is, _, _, _, X', fp, σ, σV, it, l, hi, R, hX, hZ, nd, nX, nw, bX => by
    cases it with
    | nil => cases l
    | dat r it =>
      refine setA_ok (is := is) it (Nat.succ.inj l) (fun j hj => by rw [List.length_set]; exact hi j (List.mem_cons_of_mem _ hj)) (R.datS (i := i) (r.mv (Mv.less hZ))) (by simpa using hX) (fun a h => hZ a (sub_av (clr_sub fp i) a h)) (by simpa using nd) (by simpa using nX) (by simpa using nw) bX
    | brw c f it =>
      refine setA_ok (is := is) it (Nat.succ.inj l) (fun j hj => by rw [List.length_set]; exact hi j (List.mem_cons_of_mem _ hj)) (R.brwS (i := i) (c.mv (Mv.less hZ) fun _ _ _ h _ => h) f) (by simpa using hX) (fun a h => hZ a (sub_av (clr_sub fp i) a h)) (by simpa using nd) (by simpa using nX) (by simpa using nw) bX
    | @own d v fr xs vs frs c it =>
      rw [List.flatten_cons] at hX nd nX nw
      have nd' := List.nodup_append.mp nd
      have hX2 : ∀ a, X' a ↔ (P.X a ∨ a ∈ frs.flatten) ∨ a ∈ fr := fun a => by
        rw [hX a, List.mem_append]
        exact ⟨fun h => h.elim (fun z => .inl (.inl z)) fun h => h.elim .inr fun z => .inl (.inr z), fun h => h.elim (fun h => h.elim .inl fun z => .inr (.inr z)) fun z => .inr (.inl z)⟩
      have R2 := R.take (X := fun a => P.X a ∨ a ∈ frs.flatten) (i := i) hX2 (fun a ha z => z.elim (nX a (List.mem_append_left _ ha)) fun z => nd'.2.2 a ha a z rfl) (fun a h => .inl (bX a h)) (fun a ha => nw a (List.mem_append_left _ ha))
        (c.mv (Mv.less hZ) fun _ _ _ h _ => h) (hi i List.mem_cons_self)
      refine setA_ok (is := is) it (Nat.succ.inj l) (fun j hj => by rw [List.length_set]; exact hi j (List.mem_cons_of_mem _ hj)) R2 (fun a => Iff.rfl) (fun a h => ?_) nd'.2.1 (fun a ha => nX a (List.mem_append_right _ ha)) (fun a ha => nw a (List.mem_append_right _ ha)) bX
      rcases h with h | ⟨j, h⟩
      · exact hZ a (.inl ((hX2 a).mpr (.inl h)))
      · unfold fpSet at h
        split at h
        · exact hZ a (.inl ((hX2 a).mpr (.inr h)))
        · exact hZ a (.inr ⟨j, h⟩)
end
end DD
namespace DD
open L2 PyProof.Rows PySem PySem.Spec
variable [TabT]
section
variable {K : PySem.W.Frag} {cl cx : Nat → Addr} {W : XK} {P : Px} {σV : L2.St} {fp fp1 fp2 : Fp} {H H1 H2 : Hp} {σ σ1 σ2 : Sg} {T : Tb} {Dn : Ends}
def tPs (K : PySem.W.Frag) (cl cx : Nat → Addr) (W : XK) (T : Tb) : Es → TA
  | .nil => tNil
  | .cons e r => tCons (tE cl cx T W K e) (tPs K cl cx W T r)
def ParQ (K : PySem.W.Frag) (cl cx : Nat → Addr) (W : XK) (P : Px) (fp : Fp) (σV : L2.St) (H : Hp) (rr : R (List (Fl × D) × Sg)) (Q : List V → Hp → Prop) : Prop := match rr with
  | .ok (xs, σ1) => ∀ X' frs fp1 vs H1, (∀ a, X' a ↔ P.X a ∨ a ∈ List.flatten frs) → Rel K cl (P.wX X') fp1 σ1 σV H1 → Its K cl P.B (avS (P.wX X') fp1) H1 xs vs frs → frs.flatten.Nodup →
      (∀ a ∈ frs.flatten, (H a = none ∨ ownS fp a) ∧ ¬ P.X a ∧ ¬ ownS fp1 a) → Sub fp1 fp → Fr H (ownS fp) H1 → Q vs H1
  | .exc x => ∀ od H', ExR K cl x od H' → Fr H (ownS fp) H' → W (.ref (cx x.c)) od H'
  | .bad => False
theorem own1_cases {b : Bool} {x y : Fl × D} (h : own1 b x = .ok y) : (∃ d, y = (.dat, d) ∧ (x = (.dat, d) ∨ x = (.own, d))) ∨ ∃ d, b = false ∧ x = (.own, d) ∧ y = (.own, d) := by
  obtain ⟨f, d⟩ := x
  cases f with
  | dat => cases h; exact .inl ⟨d, rfl, .inl rfl⟩
  | own =>
    cases b with
    | true => cases h; exact .inl ⟨d, rfl, .inr rfl⟩
    | false => cases h; exact .inr ⟨d, rfl, rfl, rfl⟩
  | ino => cases h
  | brw => cases h
theorem nox_own1 (b : Bool) (x : Fl × D) : NoX (own1 b x) := fun y e => by
  obtain ⟨f, d⟩ := x
  cases f <;> cases b <;> cases e
theorem own2_cases {e : E} {x y : Fl × D} (h : own2 σ e x = .ok y) : ((∃ d, y = (.dat, d) ∧ (x = (.dat, d) ∨ x = (.own, d))) ∨ ∃ d, imp e = false ∧ x = (.own, d) ∧ y = (.own, d)) ∨ ∃ d i d', e = .var i ∧ x = (.brw, d) ∧ y = (.brw, d) ∧ σ.at i = some (.brw, d') := by
  obtain ⟨f, d⟩ := x
  cases f with
  | dat => exact .inl (own1_cases h)
  | own => exact .inl (own1_cases h)
  | ino => exact .inl (own1_cases h)
  | brw =>
    obtain ⟨g, h⟩ := ifok h
    cases h
    cases e with
    | var i =>
      have g : brwS (σ.at i) = true := g
      generalize hs : σ.at i = s at g
      match s, g with
      | some (.brw, d'), _ => exact .inr ⟨d, i, d', rfl, rfl, rfl, hs⟩
    | _ => cases g
theorem nox_own2 (σ : Sg) (e : E) (x : Fl × D) : NoX (own2 σ e x) := fun y h => by
  obtain ⟨f, d⟩ := x
  cases f with
  | dat => exact nox_own1 (imp e) (.dat, d) y h
  | own => exact nox_own1 (imp e) (.own, d) y h
  | ino => exact nox_own1 (imp e) (.ino, d) y h
  | brw =>
    have h : (if brwAt σ e then R.ok (Fl.brw, d) else R.bad) = R.exc y := h
    split at h <;> cases h
theorem evP_len : ∀ {es : Es} {σ σ1 : Sg} {xs : List (Fl × D)}, evP T es σ = .ok (xs, σ1) → xs.length = (ioAt es).length
  | .nil, _, _, _, h => by rw [evP] at h; cases h; rfl
  | .cons e r, _, _, _, h => by
    rw [evP] at h
    obtain ⟨⟨x, s1⟩, _, h⟩ := R.bind_eq_ok h
    obtain ⟨y, _, h⟩ := R.bind_eq_ok h
    obtain ⟨⟨ys, s2⟩, h2, h⟩ := R.bind_eq_ok h
    cases h
    show ys.length + 1 = _
    rw [evP_len h2]; rfl
theorem cellf_nodup {A : AS} {fs : List (Str × D)} {gs : List (Str × V)} {fr : List Addr} (c : CellF K cl A H fs gs fr) : fr.Nodup := by
  induction c with
  | nil => exact List.nodup_nil
  | dat _ _ ih => exact ih
  | own _ _ _ n _ ih => exact List.nodup_cons.mpr ⟨n, ih⟩
theorem cell_nodup {A : AS} {d : D} {v : V} {fr : List Addr} (c : Cell K cl A H d v fr) : fr.Nodup := by
  cases c with
  | lst _ _ _ => exact List.nodup_cons.mpr ⟨(fun h => nomatch h), List.nodup_nil⟩
  | dct _ _ _ => exact List.nodup_cons.mpr ⟨(fun h => nomatch h), List.nodup_nil⟩
  | obj _ q n => exact List.nodup_cons.mpr ⟨n, cellf_nodup q⟩
theorem par_go : ∀ (es : Es) {P : Px} {fp : Fp} {σ : Sg} {H : Hp} {Q : List V → Hp → Prop}, Rel K cl P fp σ σV H → ParQ K cl cx W P fp σV H (evP T es σ) Q → tPs K cl cx W T es σV H Q
  | .nil, P, fp, σ, H, Q, R, h => by
    rw [evP] at h
    exact h P.X [] fp [] H (fun a => ⟨.inl, fun z => z.elim id fun z => nomatch z⟩) R .nil List.nodup_nil (fun a z => nomatch z) (fun _ _ z => z) (Fr.refl _ _)
  | .cons e r, P, fp, σ, H, Q, R, h => by
    rw [evP] at h
    refine ⟨P.now H fp, fp, σ, R.now, ?_⟩
    generalize ev T e σ = m at h ⊢
    cases m with
    | bad => exact h
    | exc x => exact fun od H' x f _ => h od H' x f
    | ok p =>
      obtain ⟨x, σ1⟩ := p
      intro fp1 v H1 R1 s1 f1 i1 r1
      have R1' := R.past R1
      replace h : ParQ K cl cx W P fp σV H (own2 σ e x >>= fun y => evP T r σ1 >>= fun q => .ok (y :: q.1, q.2)) Q := h
      cases hy : own2 σ e x with
      | bad => rw [hy] at h; exact (show False from h).elim
      | exc z => exact absurd hy (nox_own2 _ _ _ z)
      | ok y =>
        rw [hy] at h
        replace h : ParQ K cl cx W P fp σV H (evP T r σ1 >>= fun q => .ok (y :: q.1, q.2)) Q := h
        rcases own2_cases hy with (⟨d, rfl, hx⟩ | ⟨d, hb, rfl, rfl⟩) | ⟨d, i, d', rfl, rfl, rfl, hs⟩
        · have rp : Rep K cl (avS P fp1) H1 d v := by
            cases r1 with
            | rs r1 => rcases hx with rfl | rfl <;> exact r1.rep
            | brw _ _ => rcases hx with hx | hx <;> cases hx
            | ino _ _ => rcases hx with hx | hx <;> cases hx
          refine par_go r R1' ?_
          cases hm : evP T r σ1 with
          | bad => rw [hm] at h; exact h
          | exc z => rw [hm] at h; exact fun od H' x f => h od H' x (f1.trans f fun a z => .inl (sub_own s1 a z))
          | ok q =>
            obtain ⟨xs, σ2⟩ := q
            rw [hm] at h
            intro X' frs fp2 vs H2 hX R2 it nd hf s2 f2
            refine h X' ([] :: frs) fp2 (v :: vs) H2 (by simpa using hX) R2 (.dat (rp.mv ⟨fun b u q nt n => f2.keep b u q nt fun z => n (.inr z), fun a q => ?_⟩) it) (by simpa using nd) (fun a ha => ?_) (fun i a z => s1 i a (s2 i a z))
              (f1.trans f2 fun a z => .inl (sub_own s1 a z))
            · rcases q with q | q
              · rcases (hX a).mp q with q | q
                · exact .inl (.inl q)
                · rcases (hf a q).1 with z | z
                  · exact .inr z
                  · exact .inl (.inr z)
              · exact .inl (.inr (sub_own s2 a q))
            · have ha : a ∈ frs.flatten := by simpa using ha
              obtain ⟨z1, z2, z3⟩ := hf a ha
              refine ⟨?_, z2, z3⟩
              rcases z1 with z | z
              · cases q : H a with
                | none => exact .inl rfl
                | some u =>
                  by_cases w : ownS fp a
                  · exact .inr w
                  · exact absurd z (f1.there a (by rw [q]; exact fun z => nomatch z) w)
              · exact .inr (sub_own s1 a z)
        · obtain ⟨e1, e2, t⟩ := i1 hb
          subst e1
          subst e2
          cases r1 with
          | rs r1 =>
            obtain ⟨fr, c, n, nz⟩ := r1
            have hn : ∀ a ∈ fr, H a = none := fun a ha => by
              rcases nz a ha with z | z
              · exact absurd (.inr z) (n a ha)
              · exact z
            have R2 : Rel K cl (P.wX fun a => P.X a ∨ a ∈ fr) fp1 σ1 σV H1 := R.fresh t hn c.there fun a => Iff.rfl
            refine par_go r R2 ?_
            cases hm : evP T r σ1 with
            | bad => rw [hm] at h; exact h
            | exc z => rw [hm] at h; exact fun od H' x f => h od H' x (f1.trans f fun a z => .inl z)
            | ok q =>
              obtain ⟨xs, σ2⟩ := q
              rw [hm] at h
              intro X' frs fp2 vs H2 hX R2 it nd hf s2 f2
              have hX : ∀ a, X' a ↔ (P.X a ∨ a ∈ fr) ∨ a ∈ frs.flatten := hX
              have hf : ∀ a ∈ frs.flatten, (H1 a = none ∨ ownS fp1 a) ∧ ¬ (P.X a ∨ a ∈ fr) ∧ ¬ ownS fp2 a := hf
              refine h X' (fr :: frs) fp2 (v :: vs) H2 (fun a => ?_) R2 (.own (c.mv ⟨fun b u q nt n => f2.keep b u q nt fun z => n (.inl (.inr z)), fun a q => ?_⟩ fun a ha o q nt => f2.keep a o q nt fun z => n a ha (.inr z)) it) ?_ (fun a ha => ?_) s2
                (f1.trans f2 fun a z => .inl z)
              · rw [List.flatten_cons, List.mem_append, hX a, or_assoc]
              · rcases q with q | q
                · rcases (hX a).mp q with (q | q) | q
                  · exact .inl (.inl (.inl q))
                  · exact .inl (.inr q)
                  · rcases (hf a q).1 with z | z
                    · exact .inr z
                    · exact .inl (.inl (.inr z))
                · exact .inl (.inl (.inr (sub_own s2 a q)))
              · rw [List.flatten_cons]
                exact List.nodup_append.mpr ⟨cell_nodup c, nd, fun a ha b hb e => (hf b hb).2.1 (.inr (e ▸ ha))⟩
              · rw [List.flatten_cons, List.mem_append] at ha
                rcases ha with ha | ha
                · exact ⟨.inl (hn a ha), fun z => n a ha (.inl z), fun z => n a ha (.inr (sub_own s2 a z))⟩
                · obtain ⟨z1, z2, z3⟩ := hf a ha
                  refine ⟨?_, fun z => z2 (.inl z), z3⟩
                  rcases z1 with z | z
                  · cases q : H a with
                    | none => exact .inl rfl
                    | some u => exact absurd z (t.there a (by rw [q]; exact fun z => nomatch z))
                  · exact .inr z
        · obtain ⟨e1, e2, t⟩ := i1 (by unfold imp; rfl)
          subst e1
          subst e2
          obtain ⟨fr, c, fB⟩ : ∃ fr, Cell K cl (avS P fp1) H1 d v fr ∧ ∀ a ∈ fr, P.B a := by
            cases r1 with
            | rs r1 => exact (show False from r1).elim
            | @brw _ _ fr c q =>
              refine ⟨fr, c, ?_⟩
              rcases q with q | ⟨i', q1, q2⟩
              · exact q
              · have q1 : i' = i := by
                  unfold srcE at q1
                  cases q1; rfl
                subst q1
                have s := R.sl i'
                rw [hs] at s
                generalize (σV[i']?).join = yv at s
                cases s with
                | brw _ _ n =>
                  rw [n] at q2
                  exact fun a ha => nomatch q2 a ha
          have R2 := R.ext t
          refine par_go r R2 ?_
          cases hm : evP T r σ1 with
          | bad => rw [hm] at h; exact h
          | exc z => rw [hm] at h; exact fun od H' x f => h od H' x (f1.trans f fun a z => .inl z)
          | ok q =>
            obtain ⟨xs, σ2⟩ := q
            rw [hm] at h
            intro X' frs fp2 vs H2 hX R3 it nd hf s2 f2
            refine h X' ([] :: frs) fp2 (v :: vs) H2 (by simpa using hX) R3 (.brw (c.mv ⟨fun b u q nt n => f2.keep b u q nt fun z => n (.inr z), fun a q => ?_⟩ fun a ha o q nt => f2.keep a o q nt fun ⟨j, z⟩ => R.noX j a z (R.bX a (fB a ha))) fB it) (by simpa using nd) (fun a ha => ?_) s2
              (f1.trans f2 fun a z => .inl z)
            · rcases q with q | q
              · rcases (hX a).mp q with q | q
                · exact .inl (.inl q)
                · rcases (hf a q).1 with z | z
                  · exact .inr z
                  · exact .inl (.inr z)
              · exact .inl (.inr (sub_own s2 a q))
            · have ha : a ∈ frs.flatten := by simpa using ha
              obtain ⟨z1, z2, z3⟩ := hf a ha
              refine ⟨?_, z2, z3⟩
              rcases z1 with z | z
              · cases q : H a with
                | none => exact .inl rfl
                | some u => exact absurd z (t.there a (by rw [q]; exact fun z => nomatch z))
              · exact .inr z
theorem setV_len : ∀ (is : List Nat) (vs : List V) (σV : L2.St), (setV σV is vs).length = σV.length
  | [], _, _ => rfl
  | _ :: _, [], _ => rfl
  | i :: is, v :: vs, σV => by
    show (setV (σV.set i (some v)) is vs).length = _
    rw [setV_len is vs, List.length_set]
/-- several values stored -/
theorem st_par {is : List Nat} {es : Es} {k : List (Fl × D) → Sg → R (Fw × Sg)} {Q : List V → Hp → Prop} (R : Rel K cl P fp σ σV H) (h : PostS K cl cx W P (evP T es σ >>= fun p => k p.1 p.2) Dn)
    (hk : ∀ xs σ1, evP T es σ = .ok (xs, σ1) → PostS K cl cx W P (k xs σ1) Dn → is.length = xs.length ∧ (∀ i ∈ is, i < σ1.length) ∧ xs.length ≤ 16777216 ∧ k xs σ1 = .ok (.nx, setA σ1 is xs))
    (q : ∀ vs H1, vs.length = is.length → vs.length ≤ 16777216 → (∀ H2, Ext H1 H2 → Dn.nx (setV σV is vs) H2) → Q vs H1) : tPs K cl cx W T es σV H Q := by
  refine par_go es R ?_
  cases hm : evP T es σ with
  | bad => rw [hm] at h; exact h
  | exc y => rw [hm] at h; exact fun od H' x f => h od H' x (fr_back R f)
  | ok p =>
    obtain ⟨xs, σ1⟩ := p
    rw [hm] at h
    have h : PostS K cl cx W P (k xs σ1) Dn := h
    obtain ⟨l, lt, l16, e⟩ := hk xs σ1 hm h
    rw [e] at h
    intro X' frs fp1 vs H1 hX R1 it nd hf s f
    refine q vs H1 (by rw [← it.len, l]) (by rw [← it.len]; exact l16) fun H2 t => ?_
    have R2 := R1.ext t
    have nw : ∀ a ∈ frs.flatten, newP P a := fun a ha => (hf a ha).1.elim (fun z => fresh_new R z) fun z => R.new a z
    obtain ⟨fp', R3⟩ := setA_ok (P := P) (it.ext t) l lt R2 hX (fun _ z => z) nd (fun a ha => (hf a ha).2.1) nw R.bX
    exact h fp' _ H2 R3
theorem PostS.grdE {b : Bool} {k : Unit → R (Fw × Sg)} (h : PostS K cl cx W P (guard b >>= k) Dn) : b = true ∧ (guard b >>= k) = k () := by
  cases b with
  | true => exact ⟨rfl, rfl⟩
  | false => exact (show False from h).elim
theorem st_set {i : Nat} {e : E} (h : tSt K cl cx W T (.set i e) Dn σV H) : tAsg (tE cl cx T W K e) (gName i) Dn σV H := by
  obtain ⟨P, fp, σ, R, h⟩ := h
  rw [exec] at h
  have q := st_par (k := fun xs σ1 => guard (overAt σ1 i) >>= fun _ => .ok (.nx, setA σ1 [i] xs)) (Q := fun vs H1 => ∃ v, vs = [v] ∧ Dn.nx (σV.set i (some v)) H1) (is := [i]) R h (fun xs σ1 he h => ?_) (fun vs H1 l _ q => ?_)
  · exact tE_imp q fun v H1 ⟨v', e, q⟩ => by cases e; exact q
  · obtain ⟨g, e2⟩ := PostS.grdE h
    have l := evP_len he
    have l : xs.length = 1 := l
    exact ⟨l.symm, fun j hj => by cases List.mem_singleton.mp hj; exact over_lt g, by omega, e2⟩
  · match vs, l with
    | [v], _ => exact ⟨v, rfl, q H1 (Ext.refl _)⟩
theorem st_parN {is : List Nat} {es : Es} {Q : List V → Hp → Prop} (h : tSt K cl cx W T (.par is es) Dn σV H)
    (q : ∀ vs H1, vs.length = is.length → vs.length ≤ 16777216 → (∀ H2, Ext H1 H2 → Dn.nx (setV σV is vs) H2) → Q vs H1) : tPs K cl cx W T es σV H Q := by
  obtain ⟨P, fp, σ, R, h⟩ := h
  rw [exec] at h
  refine st_par (k := fun xs σ1 => guard (decide is.Nodup && is.all (overAt σ1) && decide (is.length = xs.length) && decide (xs.length ≤ 16)) >>= fun _ => .ok (.nx, setA σ1 is xs)) R h (fun xs σ1 he h => ?_) q
  obtain ⟨g, e2⟩ := PostS.grdE h
  obtain ⟨g1, g2, g3, g4⟩ := and4 g
  exact ⟨of_decide_eq_true g3, fun j hj => over_lt (List.all_eq_true.mp g2 j hj), by have := of_decide_eq_true g4; omega, e2⟩
theorem tgN_set : ∀ {is : List Nat} {vs : List V} {σV : L2.St} {H : Hp} {Q : L2.St → Hp → Prop}, vs.length = is.length → Q (setV σV is vs) H → tgN K is vs σV H Q
  | [], [], _, _, _, _, q => ⟨rfl, q⟩
  | i :: is, v :: vs, _, _, _, l, q => ⟨v, vs, rfl, tgN_set (Nat.succ.inj l) q⟩
  | [], _ :: _, _, _, _, l, _ => by cases l
  | _ :: _, [], _, _, _, l, _ => by cases l
theorem st_mv {i j : Nat} (h : tSt K cl cx W T (.mv i j) Dn σV H) : tAsg (tVar j) (gName i) Dn σV H := by
  obtain ⟨P, fp, σ, R, h⟩ := h
  rw [exec] at h
  obtain ⟨g, h⟩ := h.grd
  obtain ⟨g1, g2, g3⟩ := and3 g
  have s := R.at j
  generalize hx : σ.at j = x at s h
  generalize hy : vAt σV j = y at s
  cases s with
  | own c =>
    rename_i d v
    have h : ∀ fp σV H, Rel K cl P fp ((σ.set j none).set i (some (.own, d))) σV H → Dn.nx σV H := h
    refine ⟨v, vAt_some.mp hy, ?_⟩
    have R1 := R.clrS j
    have hX : ∀ a, (P.X a ∨ a ∈ fp j) ↔ P.X a ∨ a ∈ fp j := fun a => Iff.rfl
    have nj : ∀ a ∈ fp j, ¬ ownS (clr fp j) a := fun a ha ⟨l, z⟩ => by
      unfold clr at z
      split at z
      · cases z
      · exact absurd (R.dis l j a z ha) (by assumption)
    have R2 : Rel K cl (P.wX fun a => P.X a ∨ a ∈ fp j) (clr fp j) (σ.set j none) σV H := by
      have le : ∀ a, avS (P.wX fun a => P.X a ∨ a ∈ fp j) (clr fp j) a → avS P fp a := fun a z => by
        rcases z with (z | z) | z
        · exact .inl z
        · exact .inr ⟨j, z⟩
        · exact .inr (sub_own (clr_sub fp j) a z)
      have ml : Mv (avS P fp) H (avS (P.wX fun a => P.X a ∨ a ∈ fp j) (clr fp j)) H := Mv.less le
      refine ⟨R1.len, fun l => ?_, R1.dis, fun l a z w => ?_, fun a w => ?_, fun a w => .inl (R.bX a w), R1.fr0, R1.new, R1.tb⟩
      · rw [at_set]
        by_cases e : j = l
        · subst e
          rw [if_pos ⟨rfl, at_lt hx⟩]
          exact .none (by unfold clr; rw [if_pos rfl])
        · rw [if_neg fun z => e z.1]
          have ef : clr fp j l = fp l := by unfold clr; rw [if_neg fun z => e z.symm]
          rw [ef]
          have s := R.sl l
          generalize Sg.at σ l = x at s ⊢
          generalize (σV[l]?).join = y at s ⊢
          cases s with
          | none n => exact .none n
          | dat r n => exact .dat (r.mv ml) n
          | own c => exact .own (c.mv ml fun _ _ _ h _ => h)
          | ino c n => exact .ino (c.mv ml fun _ _ _ h _ => h) n
          | brw c f n => exact .brw (c.mv ml fun _ _ _ h _ => h) f n
      · rcases w with w | w
        · exact R1.noX l a z w
        · exact nj a w ⟨l, z⟩
      · rcases w with w | w
        · exact R.trX a w
        · exact c.there a w
    refine h _ _ _ (Rel.take (P := P) (X := P.X) (fr := fp j) (i := i) (v := v) R2 (fun a => Iff.rfl) (fun a ha => R.noX j a ha) R.bX (fun a ha => R.new a ⟨j, ha⟩) (c.mv (Mv.less fun a z => ?_) fun _ _ _ h _ => h) (by rw [List.length_set]; exact over_lt g2))
    rcases z with (z | z) | z
    · exact .inl z
    · exact .inr ⟨j, z⟩
    · exact .inr (sub_own (clr_sub fp j) a z)
  | _ => exact (show False from h).elim
end
end DD
namespace DD
open L2 PyProof.Rows PySem PySem.Spec
variable [TabT]
section
variable {K : PySem.W.Frag} {cl cx : Nat → Addr} {W : XK} {P : Px} {σV : L2.St} {fp fp1 fp2 : Fp} {H H1 H2 : Hp} {σ σ1 σ2 : Sg} {T : Tb} {Dn : Ends}
def clrF (fp : Fp) : List Nat → Fp
  | [] => fp
  | i :: is => clrF (clr fp i) is
theorem Rel.clrL : ∀ (is : List Nat) {fp : Fp} {σ : Sg}, Rel K cl P fp σ σV H → Rel K cl P (clrF fp is) (clrA σ is) σV H
  | [], _, _, R => R
  | i :: is, _, _, R => Rel.clrL is (R.clrS i)
theorem clrF_nil : ∀ (is : List Nat) {fp : Fp} {j : Nat}, fp j = [] → clrF fp is j = []
  | [], _, _, h => h
  | i :: is, fp, j, h => clrF_nil is (by
    unfold clr
    split
    · rfl
    · exact h)
theorem clrF_mem : ∀ (is : List Nat) {fp : Fp} {j : Nat}, j ∈ is → clrF fp is j = []
  | i :: is, fp, j, h => by
    rcases List.mem_cons.mp h with h | h
    · subst h
      exact clrF_nil is (by unfold clr; rw [if_pos rfl])
    · exact clrF_mem is h
theorem clrF_sub : ∀ (is : List Nat) (fp : Fp), Sub (clrF fp is) fp
  | [], _ => fun _ _ h => h
  | i :: is, fp => fun j a h => clr_sub fp i j a (clrF_sub is (clr fp i) j a h)
theorem Res.dat {e : E} {d : D} {v : V} (r : Res K cl P fp σV H e (.dat, d) v) : Rep K cl (avS P fp) H d v := by
  cases r with
  | rs r => exact r
theorem nox_setT {σ : Sg} {tg : Tg} {d : D} : NoX (setT σ tg d) := by
  unfold setT
  split <;> first | exact nox_ok _ | exact nox_bad | exact nox_if (nox_ok _) nox_bad
theorem st_unp {is : List Nat} {e : E} (h : tSt K cl cx W T (.unp is e) Dn σV H) : tAsg (tE cl cx T W K e) (tgR K (.tup is)) Dn σV H := by
  obtain ⟨P, fp, σ, R, h⟩ := h
  rw [exec] at h
  refine ⟨P, fp, σ, R, stBind (k := fun p => guard (p.1.1 == .dat && is.all (overAt p.2)) >>= fun _ => setT (clrA p.2 is) (.tup is) p.1.2 >>= fun s => .ok (.nx, s)) R h fun x σ1 fp1 v1 H1 _ R1 s1 f1 i1 r1 h => ?_⟩
  obtain ⟨g, h⟩ := h.grd
  obtain ⟨g1, g2⟩ := and2 g
  obtain ⟨f, d⟩ := x
  cases beq_iff_eq.mp g1
  obtain ⟨σ2, hs, h⟩ := h.pur nox_setT
  exact tg_ok (tg := .tup is) (R1.clrL is) (fun i hi => clrF_mem is hi) (r1.dat.mv (Mv.less (sub_av (clrF_sub is fp1)))) hs fun σV1 R2 _ _ => h _ _ _ R2
theorem st_exp {e : E} (h : tSt K cl cx W T (.exp e) Dn σV H) : tDrop (tE cl cx T W K e) Dn σV H := by
  obtain ⟨P, fp, σ, R, h⟩ := h
  rw [exec] at h
  exact ⟨P, fp, σ, R, stBind (k := fun p => .ok (.nx, p.2)) R h fun x σ1 fp1 v1 H1 _ R1 s1 f1 i1 r1 h => h _ _ _ R1⟩
theorem st_ret {e : E} (h : tSt K cl cx W T (.ret e) Dn σV H) : tRet (tE cl cx T W K e) Dn σV H := by
  obtain ⟨P, fp, σ, R, h⟩ := h
  rw [exec] at h
  refine ⟨P, fp, σ, R, stBind (k := fun p => guard (p.1.1 != .brw && p.1.1 != .ino) >>= fun _ => .ok (.rt p.1, p.2)) R h fun x σ1 fp1 v1 H1 _ R1 s1 f1 i1 r1 h => ?_⟩
  obtain ⟨g, h⟩ := h.grd
  refine h _ _ _ _ R1 ?_
  cases r1 with
  | rs r => exact r
  | brw _ _ => cases g
  | ino _ _ => cases g
theorem st_ret0 (h : tSt K cl cx W T .ret0 Dn σV H) : tRetN Dn σV H := by
  obtain ⟨P, fp, σ, R, h⟩ := h
  rw [exec] at h
  exact h _ _ _ _ R (show Rep K cl _ H .non .non from .non)
theorem st_iff {c : E} {a b : Ss} (h : tSt K cl cx W T (.iff c a b) Dn σV H) : tIfS (tB (tE cl cx T W K c)) (tSts K cl cx W T a) (tSts K cl cx W T b) Dn σV H := by
  obtain ⟨P, fp, σ, R, h⟩ := h
  rw [exec] at h
  refine ⟨P, fp, σ, R, stBind (k := fun p => boolD p.1 >>= fun t => if t then execs T a p.2 else execs T b p.2) R h fun x σ1 fp1 v1 H1 _ R1 s1 f1 i1 r1 h => ?_⟩
  obtain ⟨t, ht, h⟩ := h.pur (nox_bool _)
  refine ⟨t, r1.bl ht, ?_⟩
  cases t with
  | true => exact ⟨P, fp1, σ1, R1, h⟩
  | false => exact ⟨P, fp1, σ1, R1, h⟩
theorem sts_cons {s : S} {r : Ss} (h : tSts K cl cx W T (.cons s r) Dn σV H) : tSeq (tSt K cl cx W T s) (tSts K cl cx W T r) Dn σV H := by
  obtain ⟨P, fp, σ, R, h⟩ := h
  rw [execs] at h
  refine ⟨P, fp, σ, R, ?_⟩
  cases hm : exec T s σ with
  | bad => rw [hm] at h; exact h
  | exc y => rw [hm] at h; exact h
  | ok p =>
    obtain ⟨w, σ1⟩ := p
    rw [hm] at h
    cases w with
    | nx => exact fun fp1 σV1 H1 R1 => ⟨P, fp1, σ1, R1, h⟩
    | ct => exact h
    | bk => exact h
    | rt x => exact h
theorem sts_nil (h : tSts K cl cx W T .nil Dn σV H) : tNext Dn σV H := by
  obtain ⟨P, fp, σ, R, h⟩ := h
  rw [execs] at h
  exact h _ _ _ R
def rSti : TSet := fun o i v H Q => rSetL o i v H Q ∨ rSetD o i v H Q
theorem set_sti {X : Cx} (hu : X.A.units + 1 < cLine) : PSet X rSti := fun pins s σ H o i v ov iv u Q I ro ri rv h =>
  h.elim (set_list pins s σ H o i v ov iv u Q I ro ri rv) (set_dict hu pins s σ H o i v ov iv u Q I ro ri rv)
theorem nox_sti (x y v : D) : NoX (stiD x y v) := by
  unfold stiD
  split
  · exact nox_bind (nox_ofO _) fun _ => nox_ok _
  · exact nox_bind (nox_ofO _) fun _ => nox_if (nox_ok _) nox_bad
  · exact nox_bad
theorem sti_ok {d y v d' : D} {vv kv xv : V} {fr : List Addr} {Q : Hp → Prop} (c : Cell K cl (avS P fp) H d vv fr) (ha : ∀ a ∈ fr, avS P fp a) (k : Lk K cl (avS P fp) H y kv) (x : Rep K cl (avS P fp) H v xv) (h : stiD d y v = .ok d')
    (q : ∀ H', Fr H (fun a => a ∈ fr) H' → Cell K cl (avS P fp) H' d' vv fr → Q H') : rSti vv kv xv H Q := by
  cases c with
  | @lst ds a vs h1 r l =>
    have aA := ha a (List.mem_singleton.mpr rfl)
    cases y with
    | int i =>
      cases k
      obtain ⟨j, hj, h⟩ := R.bind_eq_ok h
      cases h
      have hj : ixN ds.length i = some j := by
        cases e : ixN ds.length i with
        | none => rw [e] at hj; cases hj
        | some z => rw [e] at hj; cases hj; rfl
      refine .inl ⟨a, vs, i, j, rfl, rfl, h1, by rw [← r.length]; exact hj, q _ (fr_cell h1) (cell_upd (r.set x j) aA (by rw [List.length_set]; exact l))⟩
    | _ => cases h
  | @dct kvs a ks h1 r l =>
    have aA := ha a (List.mem_singleton.mpr rfl)
    obtain ⟨kk, hk, h⟩ := R.bind_eq_ok h
    have hk : keyD y = some kk := by
      cases e : keyD y with
      | none => rw [e] at hk; cases hk
      | some z => rw [e] at hk; cases hk; rfl
    obtain ⟨hl, h⟩ := ifok h
    cases h
    have m : Mv (avS P fp) H (avS P fp) (upd H a (.dK (putK ks kk xv))) := ⟨fun b u hb _ n => by rw [upd_ne fun z => n (by rw [z]; exact aA)]; exact hb, fun _ z => .inl z⟩
    refine .inr ⟨a, _, rfl, ?_, q _ ((Fr.refl H _).upd h1 nt_dK nx_dK fun _ _ => List.mem_singleton.mpr rfl) (.dct upd_same ((RepK.put x r).mv m) (by have := putD_length kvs kk v; omega))⟩
    rw [k.key hk]
    exact DPut.k h1 (by rw [← r.length, line_eq]; exact hl)
  | obj _ _ _ => cases y <;> cases h
theorem st_sti {i : Nat} {y e : E} (h : tSt K cl cx W T (.sti i y e) Dn σV H) : tAsg (tE cl cx T W K e) (gSub (tVar i) (tE cl cx T W K y) rSti) Dn σV H := by
  obtain ⟨P, fp, σ, R, h⟩ := h
  rw [exec] at h
  refine ⟨P, fp, σ, R, stBind (k := fun p => keep p.1 >>= fun v => guard (!(imp y)) >>= fun _ => match p.2.at i with
    | some (.own, d) => ev T y p.2 >>= fun q => look q.1 >>= fun k => stiD d k v >>= fun d' => .ok (.nx, p.2.set i (some (.own, d')))
    | some (.ino, d) => ev T y p.2 >>= fun q => look q.1 >>= fun k => stiD d k v >>= fun d' => .ok (.nx, p.2.set i (some (.ino, d')))
    | _ => .bad) R h fun x σ1 fp1 v1 H1 _ R1 s1 f1 i1 r1 h => ?_⟩
  obtain ⟨v, hv, h⟩ := h.pur (nox_keep _)
  obtain ⟨g, h⟩ := h.grd
  have g := ng g
  have s := R1.at i
  have go : ∀ (fl : Fl) (d : D) (vv : V), (fl = .own ∨ fl = .ino) → σ1.at i = some (fl, d) → vAt σV i = some vv → Cell K cl (avS P fp1) H1 d vv (fp1 i) →
      PostS K cl cx W P (ev T y σ1 >>= fun q => look q.1 >>= fun k => stiD d k v >>= fun d' => .ok (.nx, σ1.set i (some (fl, d')))) Dn → gSub (tVar i) (tE cl cx T W K y) rSti v1 σV H1 Dn.nx := by
    intro fl d vv hf ea hvv c h
    refine ⟨vv, vAt_some.mp hvv, P, fp1, σ1, R1, stBind (k := fun q => look q.1 >>= fun k => stiD d k v >>= fun d' => .ok (.nx, σ1.set i (some (fl, d')))) R1 h fun k σ2 fp2 kv H2 _ R2 s2 f2 i2 r2 h => ?_⟩
    obtain ⟨e1, e2, t⟩ := i2 g
    subst e1
    subst e2
    obtain ⟨kd, hk, h⟩ := h.pur (nox_look _)
    obtain ⟨d', hd, h⟩ := h.pur (nox_sti _ _ _)
    have c2 := c.mv (Mv.ext t) fun a _ o h nt => t.keep a o h nt
    exact sti_ok c2 (fun a ha => .inr ⟨i, ha⟩) (r2.lk0 hk) (r1.keep hv (fun _ _ z => z) (Fr.of t)) hd fun H3 o c3 => h _ _ _ (R2.setC hf ea hvv o c3)
  generalize hx : σ1.at i = x at s h
  generalize hy : vAt σV i = yv at s
  cases s with
  | own c => exact go _ _ _ (.inl rfl) hx hy c h
  | ino c _ => exact go _ _ _ (.inr rfl) hx hy c h
  | none _ => exact (show False from h).elim
  | dat _ _ => exact (show False from h).elim
  | brw _ _ _ => exact (show False from h).elim
theorem nt_ins' {c d : Addr} {gs : List (Str × V)} : ∀ f, HO.ins c d gs ≠ HO.ext f := fun _ z => nomatch z
theorem putF_new {f : Str} {v : V} : ∀ {gs : List (Str × V)}, gs.lookup f = none → putF f v gs = gs ++ [(f, v)]
  | [], _ => rfl
  | (g, x) :: r, h => by
    rw [List.lookup_cons] at h
    have e : (f == g) = false := by
      cases q : f == g with
      | true => rw [q] at h; cases h
      | false => rfl
    rw [e] at h
    unfold putF
    rw [if_neg (fun z => by rw [z, beq_self_eq_true] at e; cases e), putF_new h]
    rfl
theorem CellF.snoc {A : AS} {f : Str} {d : D} {v : V} (r : Rep K cl A H d v) : ∀ {fs : List (Str × D)} {gs : List (Str × V)} {fr : List Addr}, CellF K cl A H fs gs fr → CellF K cl A H (fs ++ [(f, d)]) (gs ++ [(f, v)]) fr
  | _, _, _, .nil => .dat r .nil
  | _, _, _, .dat r0 q => .dat r0 (CellF.snoc r q)
  | _, _, _, .own h r0 l z q => .own h r0 l z (CellF.snoc r q)
theorem CellF.snocO {A : AS} {f : Str} {kvs : List (Key × D)} {b : Addr} {ks : List (Key × V)} (hb : H b = some (.dK ks)) (r : RepK K cl A H kvs ks) (l : kvs.length ≤ 16777216) :
    ∀ {fs : List (Str × D)} {gs : List (Str × V)} {fr : List Addr}, CellF K cl A H fs gs fr → b ∉ fr → CellF K cl A H (fs ++ [(f, .odc kvs)]) (gs ++ [(f, .ref b)]) (fr ++ [b])
  | _, _, _, .nil, _ => .own hb r l (fun z => nomatch z) .nil
  | _, _, _, .dat r0 q, n => .dat r0 (CellF.snocO hb r l q n)
  | _, _, _, .own (a := a0) h r0 l0 z q, n => .own h r0 l0 (fun w => by
      rcases List.mem_append.mp w with w | w
      · exact z w
      · exact n (by rw [List.mem_singleton.mp w]; exact List.mem_cons_self)) (CellF.snocO hb r l q fun w => n (List.mem_cons_of_mem _ w))
/-- a further cell comes to slot i -/
theorem Rel.growC {X' : AS} {i : Nat} {d d' : D} {v : V} {b : Addr} (R : Rel K cl (P.wX X') fp σ σV H) (hX : ∀ a, X' a ↔ P.X a ∨ a = b) (nX : ¬ P.X b) (bX : ∀ a, P.B a → P.X a) (nw : newP P b) (e : σ.at i = some (.ino, d)) (hv : vAt σV i = some v)
    (o : Fr H (fun a => a ∈ fp i) H1) (c : Cell K cl (avS P (fpSet fp i (fp i ++ [b]))) H1 d' v (fp i ++ [b])) : Rel K cl P (fpSet fp i (fp i ++ [b])) (σ.set i (some (.ino, d'))) σV H1 := by
  have le : ∀ a, avS P (fpSet fp i (fp i ++ [b])) a → avS (P.wX X') fp a := fun a h => by
    rcases h with h | ⟨j, h⟩
    · exact .inl ((hX a).mpr (.inl h))
    · unfold fpSet at h
      split at h
      · rcases List.mem_append.mp h with h | h
        · exact .inr ⟨i, h⟩
        · exact .inl ((hX a).mpr (.inr (List.mem_singleton.mp h)))
      · exact .inr ⟨j, h⟩
  have ml : Mv (avS (P.wX X') fp) H (avS P (fpSet fp i (fp i ++ [b]))) H1 := ⟨fun c u h nt n => o.keep c u h nt fun z => n (.inr ⟨i, z⟩), fun a h => .inl (le a h)⟩
  have nb : ∀ j, b ∉ fp j := fun j z => R.noX j b z ((hX b).mpr (.inr rfl))
  refine ⟨by rw [List.length_set]; exact R.len, fun j => ?_, fun x y a h1 h2 => ?_, fun j a h => ?_, fun a h => ?_, bX, R.fr0.trans o fun a z => R.new a ⟨i, z⟩, fun a h => ?_, R.tb⟩
  · rw [at_set]
    by_cases ej : i = j
    · subst ej
      rw [if_pos ⟨rfl, at_lt e⟩]
      have q := R.at i
      rw [e, hv] at q
      show SlR K cl P _ H1 i (fpSet fp i (fp i ++ [b]) i) _ (vAt σV i)
      rw [hv, show fpSet fp i (fp i ++ [b]) i = fp i ++ [b] from if_pos rfl]
      cases q with
      | ino _ n => exact .ino c n
    · rw [if_neg (fun z => ej z.1), show fpSet fp i (fp i ++ [b]) j = fp j from if_neg fun z => ej z.symm]
      have q := R.sl j
      generalize Sg.at σ j = y at q
      generalize (σV[j]?).join = z at q
      have nj : ∀ a ∈ fp j, a ∉ fp i := fun a h1 h2 => ej (R.dis i j a h2 h1)
      cases q with
      | none n => exact .none n
      | dat r n => exact .dat (r.mv ml) n
      | own c => exact .own (c.mv ml fun a ha u h nt => o.keep a u h nt (nj a ha))
      | ino c n => exact .ino (c.mv ml fun a ha u h nt => o.keep a u h nt (nj a ha)) n
      | brw c f n => exact .brw (c.mv ml fun a ha u h nt => o.keep a u h nt fun z => R.noX i a z ((hX a).mpr (.inl (bX a (f a ha))))) f n
  · unfold fpSet at h1 h2
    split at h1 <;> split at h2
    · rename_i e1 e2; rw [e1, e2]
    · rename_i e1 e2
      rcases List.mem_append.mp h1 with h1 | h1
      · exact absurd (R.dis i y a h1 h2) (fun z => e2 z.symm)
      · rw [List.mem_singleton.mp h1] at h2; exact absurd h2 (nb y)
    · rename_i e1 e2
      rcases List.mem_append.mp h2 with h2 | h2
      · exact absurd (R.dis i x a h2 h1) (fun z => e1 z.symm)
      · rw [List.mem_singleton.mp h2] at h1; exact absurd h1 (nb x)
    · exact R.dis x y a h1 h2
  · unfold fpSet at h
    split at h
    · rcases List.mem_append.mp h with h | h
      · exact fun z => R.noX i a h ((hX a).mpr (.inl z))
      · rw [List.mem_singleton.mp h]; exact nX
    · exact fun z => R.noX j a h ((hX a).mpr (.inl z))
  · exact o.there a (R.trX a ((hX a).mpr (.inl h))) fun z => R.noX i a z ((hX a).mpr (.inl h))
  · obtain ⟨j, h⟩ := h
    unfold fpSet at h
    split at h
    · rcases List.mem_append.mp h with h | h
      · exact R.new a ⟨i, h⟩
      · rw [List.mem_singleton.mp h]; exact nw
    · exact R.new a ⟨j, h⟩
theorem nox_sta (sh b : Bool) (x : Fl × D) : NoX (staD sh b x) := by
  unfold staD
  split
  · exact nox_keep x
  · split
    · exact nox_if (nox_ok _) nox_bad
    · exact nox_bad
theorem st_sta {i : Nat} {f : Str} {sh : Bool} {e : E} (clc : ∀ c, cl c = cl 0) (nat : Cls K (cl 0) ∧ NoAttr K (cl 0) f) (h : tSt K cl cx W T (.sta i f sh e) Dn σV H) : sFld K (tVar i) (tE cl cx T W K e) f Dn σV H := by
  obtain ⟨P, fp, σ, R, h⟩ := h
  rw [exec] at h
  refine ⟨P.now H fp, fp, σ, R.now, ?_⟩
  generalize hm : ev T e σ = m at h ⊢
  cases m with
  | bad => exact h
  | exc y => exact fun od H' x q _ => h od H' x (fr_back R q)
  | ok p =>
    obtain ⟨x, σ1⟩ := p
    have h : PostS K cl cx W P (staD sh (imp e) x >>= fun d => match σ1.at i with
      | some (.ino, .obj c fs) => guard ((fs.lookup f).isNone && decide (fs.length < 100)) >>= fun _ => .ok (.nx, σ1.set i (some (.ino, .obj c (fs ++ [(f, d)]))))
      | _ => .bad) Dn := h
    intro fp1 v1 H1 R1 s1 f1 i1 r1
    obtain ⟨d, hd, h⟩ := h.pur (nox_sta _ _ _)
    have s := R1.at i
    generalize hx : σ1.at i = y at h s
    generalize hy : vAt σV i = yv at s
    split at h
    · rename_i c fs
      obtain ⟨g, h⟩ := h.grd
      obtain ⟨g1, g2⟩ := and2 g
      have g1 := Option.isNone_iff_eq_none.mp g1
      have g2 := of_decide_eq_true g2
      cases s with
      | @ino _ v cc n =>
        generalize hf : fp1 i = ff at cc
        cases cc with
        | @obj _ _ a dx gs fr h1 q nd =>
          have gl : gs.lookup f = none := look_none q.names g1
          have len : gs.length < 100 := by
            have := congrArg List.length q.names
            rw [List.length_map, List.length_map] at this
            omega
          refine ⟨_, vAt_some.mp hy, a, _, dx, gs, rfl, h1, by rw [clc]; exact nat.1, by rw [clc]; exact nat.2, by omega, ?_⟩
          rw [putF_new gl]
          have aO : a ∈ fp1 i := by rw [hf]; exact List.mem_cons_self
          have fr3 : Fr H1 (fun b => b ∈ fp1 i) (upd H1 a (.ins (cl c) dx (gs ++ [(f, v1)]))) := (Fr.refl H1 _).upd h1 nt_ins nt_ins' fun _ _ => aO
          unfold staD at hd
          split at hd
          · have rp : Rep K cl (avS (P.now H fp) fp1) H1 d v1 := r1.keep hd (fun _ _ z => z) (Fr.refl _ _)
            have m3 : Mv (avS (P.now H fp) fp1) H1 (avS (P.now H fp) fp1) (upd H1 a (.ins (cl c) dx (gs ++ [(f, v1)]))) := ⟨fun b u hb nt z => by
              rw [upd_ne fun w => z (.inr ⟨i, by rw [w]; exact aO⟩)]; exact hb, fun _ z => .inl z⟩
            have c3 : Cell K cl (avS (P.now H fp) fp1) (upd H1 a (.ins (cl c) dx (gs ++ [(f, v1)]))) (.obj c (fs ++ [(f, d)])) (.ref a) (fp1 i) := by
              rw [hf]
              exact .obj upd_same ((q.snoc rp).mv m3 fun b hb u hu _ => by rw [upd_ne fun w => nd (by rw [← w]; exact hb)]; exact hu) nd
            exact h _ _ _ (R.past (R1.setC (.inr rfl) hx hy fr3 c3))
          · split at hd
            · rename_i kvs hq
              obtain ⟨gb, hd⟩ := ifok hd
              cases hd
              obtain ⟨e1, e2, t⟩ := i1 (ng gb)
              subst e1
              subst e2
              cases r1 with
              | rs rr =>
                obtain ⟨fr1, cc1, n1, z1⟩ := rr
                cases cc1 with
                | @dct _ b ks hb rk lk =>
                  have nb : ¬ avS (P.now H fp1) fp1 b := n1 b (List.mem_singleton.mpr rfl)
                  have hbn : H b = none := by
                    rcases z1 b (List.mem_singleton.mpr rfl) with z | z
                    · exact absurd (.inr z) nb
                    · exact z
                  have Rf : Rel K cl (P.wX fun a => P.X a ∨ a = b) fp1 σ1 σV H1 := R.fresh (fr := [b]) t (fun a ha => by rw [List.mem_singleton.mp ha]; exact hbn) (fun a ha => by rw [List.mem_singleton.mp ha, hb]; exact fun z => nomatch z) fun a => by rw [List.mem_singleton]
                  have sf := Rf.at i
                  rw [hx, hy] at sf
                  have ab : a ≠ b := fun z => by
                    have := R.trk a (.inr ⟨i, aO⟩)
                    rw [z] at this
                    exact this hbn
                  have bf : b ∉ fp1 i := fun z => R.trk b (.inr ⟨i, z⟩) hbn
                  have bfr : b ∉ fr := fun z => bf (by rw [hf]; exact List.mem_cons_of_mem _ z)
                  cases sf with
                  | ino cf _ =>
                    rw [hf] at cf
                    cases cf with
                    | @obj _ _ _ dx2 gs2 _ h1' q2 nd2 =>
                      rw [h1] at h1'
                      cases h1'
                      have lav : ∀ a, avS P (fpSet fp1 i (fp1 i ++ [b])) a → avS (P.wX fun a => P.X a ∨ a = b) fp1 a := fun a z => by
                        rcases z with z | ⟨j, z⟩
                        · exact .inl (.inl z)
                        · unfold fpSet at z
                          split at z
                          · rcases List.mem_append.mp z with z | z
                            · exact .inr ⟨i, z⟩
                            · exact .inl (.inr (List.mem_singleton.mp z))
                          · exact .inr ⟨j, z⟩
                      have m3 : Mv (avS (P.wX fun a => P.X a ∨ a = b) fp1) H1 (avS P (fpSet fp1 i (fp1 i ++ [b]))) (upd H1 a (.ins (cl c) dx (gs ++ [(f, .ref b)]))) := ⟨fun x u hu nt z => by
                        rw [upd_ne fun w => z (.inr ⟨i, by rw [w]; exact aO⟩)]; exact hu, fun x z => .inl (lav x z)⟩
                      have m4 : Mv (fun x => avS (P.now H fp1) fp1 x ∨ x ∈ [b]) H1 (avS P (fpSet fp1 i (fp1 i ++ [b]))) (upd H1 a (.ins (cl c) dx (gs ++ [(f, .ref b)]))) := ⟨fun x u hu nt z => by
                        rw [upd_ne fun w => z (.inl (.inr ⟨i, by rw [w]; exact aO⟩))]; exact hu, fun x z => by
                          rcases lav x z with (z | z) | z
                          · exact .inl (.inl (.inl z))
                          · exact .inl (.inr (List.mem_singleton.mpr z))
                          · exact .inl (.inl (.inr z))⟩
                      have c3 : Cell K cl (avS P (fpSet fp1 i (fp1 i ++ [b]))) (upd H1 a (.ins (cl c) dx (gs ++ [(f, .ref b)]))) (.obj c (fs ++ [(f, .odc kvs)])) (.ref a) (fp1 i ++ [b]) := by
                        refine cast (congrArg (fun l => Cell K cl (avS P (fpSet fp1 i (fp1 i ++ [b]))) (upd H1 a (.ins (cl c) dx (gs ++ [(f, .ref b)]))) (.obj c (fs ++ [(f, .odc kvs)])) (.ref a) l) (show a :: (fr ++ [b]) = fp1 i ++ [b] by rw [hf]; rfl)) ?_
                        refine .obj upd_same ((q2.mv m3 fun x hx2 u hu _ => by rw [upd_ne fun w => nd (by rw [← w]; exact hx2)]; exact hu).snocO (by rw [upd_ne ab.symm]; exact hb) (rk.mv m4) lk bfr) fun z => ?_
                        rcases List.mem_append.mp z with z | z
                        · exact nd z
                        · exact ab (List.mem_singleton.mp z)
                      exact h _ _ _ (Rf.growC (fun _ => Iff.rfl) (fun z => nb (.inl z)) R.bX (fresh_new R hbn) hx hy fr3 c3)
            · cases hd
    · exact (show False from h).elim
theorem CellF.put {A A' : AS} {H' : Hp} {f : Str} {kvs' : List (Key × D)} {b : Addr} {ks' : List (Key × V)} (hb : H' b = some (.dK ks')) (rk : RepK K cl A' H' kvs' ks') (l : kvs'.length ≤ 16777216) (m : Mv A H A' H') :
    ∀ {fs : List (Str × D)} {gs : List (Str × V)} {fr : List Addr} {kvs : List (Key × D)}, CellF K cl A H fs gs fr → fs.lookup f = some (.odc kvs) → gs.lookup f = some (.ref b) → (∀ a ∈ fr, a ≠ b → ∀ o, H a = some o → NT o → H' a = some o) → CellF K cl A' H' (putO f kvs' fs) gs fr
  | _, _, _, _, .nil, h, _, _ => by cases h
  | _, _, _, kvs, .dat (k := g) (d := d0) r q, h, h2, k => by
    rw [List.lookup_cons] at h h2
    unfold putO
    cases e : f == g with
    | true =>
      rw [e] at h
      cases h
      cases r
    | false =>
      rw [e] at h h2
      exact .dat (r.mv m) (CellF.put hb rk l m q h h2 k)
  | _, _, _, kvs, .own (k := g) (a := a0) (fr := fr0) h0 r0 l0 z q, h, h2, k => by
    rw [List.lookup_cons] at h h2
    unfold putO
    cases e : f == g with
    | true =>
      rw [e] at h2
      cases h2
      exact .own hb rk l z (q.mv m fun a ha o ho nt => k a (List.mem_cons_of_mem _ ha) (fun w => z (by rw [← w]; exact ha)) o ho nt)
    | false =>
      rw [e] at h h2
      have ne : a0 ≠ b := fun w => by
        rcases CellF.look q h with ⟨g1, _⟩ | ⟨_, b2, g2, g3, _⟩
        · cases g1
        · have g4 := h2.symm.trans g2
          cases g4
          exact z (by rw [w]; exact g3)
      exact .own (k a0 List.mem_cons_self ne _ h0 nt_dK) (r0.mv m) l0 z (CellF.put hb rk l m q h h2 fun a ha => k a (List.mem_cons_of_mem _ ha))
theorem nox_odc (d : D) : NoX (odcO d) := by cases d <;> first | exact nox_ok _ | exact nox_bad
theorem nox_dct (d : D) : NoX (dctO d) := by cases d <;> first | exact nox_ok _ | exact nox_bad
theorem st_stf {i : Nat} {f : Str} {y e : E} (clc : ∀ c, cl c = cl 0) (nat : Cls K (cl 0) ∧ NoAttr K (cl 0) f) (h : tSt K cl cx W T (.stf i f y e) Dn σV H) : tAsg (tE cl cx T W K e) (gSub (tFld K (tVar i) f) (tE cl cx T W K y) rSti) Dn σV H := by
  obtain ⟨P, fp, σ, R, h⟩ := h
  rw [exec] at h
  refine ⟨P, fp, σ, R, stBind (k := fun p => keep p.1 >>= fun v => guard (!(imp y)) >>= fun _ => match p.2.at i with
    | some (.ino, .obj c fs) => ofO (fs.lookup f) >>= fun d => odcO d >>= fun kvs => ev T y p.2 >>= fun q => look q.1 >>= fun k => stiD (.dct kvs) k v >>= fun d' => dctO d' >>= fun kvs' => .ok (.nx, p.2.set i (some (.ino, .obj c (putO f kvs' fs))))
    | _ => .bad) R h fun x σ1 fp1 v1 H1 _ R1 s1 f1 i1 r1 h => ?_⟩
  obtain ⟨v, hv, h⟩ := h.pur (nox_keep _)
  obtain ⟨g, h⟩ := h.grd
  have g := ng g
  have s := R1.at i
  generalize hx : σ1.at i = x2 at s h
  generalize hy : vAt σV i = yv at s
  split at h
  · rename_i c fs
    obtain ⟨d, hd, h⟩ := h.pur (nox_ofO _)
    obtain ⟨kvs, hk, h⟩ := h.pur (nox_odc _)
    have hd := ofO_ok hd
    have ed : d = .odc kvs := by cases d <;> cases hk; rfl
    subst ed
    cases s with
    | @ino _ vv cc n =>
      generalize hf : fp1 i = ff at cc
      cases cc with
      | @obj _ _ a dx gs fr h1 q nd =>
        rcases q.look hd with ⟨g1, _⟩ | ⟨_, b, l2, l3, l4⟩
        · cases g1
        · refine ⟨_, vAt_some.mp hy, a, _, dx, gs, .ref b, rfl, h1, by rw [clc]; exact nat.1, by rw [clc]; exact nat.2, l2, P, fp1, σ1, R1, ?_⟩
          refine stBind (k := fun q => look q.1 >>= fun k => stiD (.dct kvs) k v >>= fun d' => dctO d' >>= fun kvs' => .ok (.nx, σ1.set i (some (.ino, .obj c (putO f kvs' fs))))) R1 h fun k σ2 fp2 kv H2 _ R2 s2 f2 i2 r2 h => ?_
          obtain ⟨e1, e2, t⟩ := i2 g
          subst e1
          subst e2
          obtain ⟨kd, hk2, h⟩ := h.pur (nox_look _)
          obtain ⟨d', hd', h⟩ := h.pur (nox_sti _ _ _)
          obtain ⟨kvs', hk3, h⟩ := h.pur (nox_dct _)
          have ed : d' = .dct kvs' := by cases d' <;> cases hk3; rfl
          subst ed
          have l4 : Cell K cl (avS P fp2) H1 (.dct kvs) (.ref b) [b] := l4
          have c2 := l4.mv (Mv.ext t) fun a _ o h nt => t.keep a o h nt
          have bO : b ∈ fp2 i := by rw [hf]; exact List.mem_cons_of_mem _ l3
          have ab : a ≠ b := fun z => nd (by rw [z]; exact l3)
          refine sti_ok c2 (fun a ha => .inr ⟨i, by rw [List.mem_singleton.mp ha]; exact bO⟩) (r2.lk0 hk2) (r1.keep hv (fun _ _ z => z) (Fr.of t)) hd' fun H3 o c3 => ?_
          have m3 : Mv (avS P fp2) H2 (avS P fp2) H3 := ⟨fun x u hu nt z => o.keep x u hu nt fun w => z (.inr ⟨i, by rw [List.mem_singleton.mp w]; exact bO⟩), fun _ z => .inl z⟩
          have s2 := R2.at i
          rw [hx, hy] at s2
          cases s2 with
          | ino c5 _ =>
            rw [hf] at c5
            cases c5 with
            | @obj _ _ _ dx2 gs2 _ h5 q5 nd5 =>
              have e5 := t.keep _ _ h1 nt_ins
              rw [e5] at h5
              cases h5
              cases c3 with
              | @dct _ _ ks' hb3 rk3 lk3 =>
                have q6 := CellF.put (f := f) hb3 rk3 lk3 m3 q5 hd l2 fun a ha ne o' ho nt => o.keep a o' ho nt fun w => ne (List.mem_singleton.mp w)
                have c6 : Cell K cl (avS P fp2) H3 (.obj c (putO f kvs' fs)) (.ref a) (fp2 i) := by
                  rw [hf]
                  exact .obj (o.keep a _ e5 nt_ins fun w => ab (List.mem_singleton.mp w)) q6 nd
                exact h _ _ _ (R2.setC (.inr rfl) hx hy (o.mono fun a z => by rw [List.mem_singleton.mp z]; exact bO) c6)
  · exact (show False from h).elim
end
end DD
namespace DD
open L2 PyProof.Rows PySem PySem.Spec
variable [TabT]
section
variable {K : PySem.W.Frag} {cl cx : Nat → Addr} {W : XK} {P : Px} {σV : L2.St} {fp fp1 fp2 : Fp} {H H1 H2 : Hp} {σ σ1 σ2 : Sg} {T : Tb} {Dn : Ends}
theorem Rel.pastR (R0 : Rel K cl P fp σ σV H) {x : Fl × D} {v : V} (r : Rs K cl (newP (P.now H fp)) (avS (P.now H fp) fp1) H1 x v) : Rs K cl (newP P) (avS P fp1) H1 x v :=
  Rs.z (A := avS P fp1) r fun a z => by
    rcases z with z | z
    · exact R0.new a z
    · exact fresh_new R0 z
theorem PostS.now {rr : R (Fw × Sg)} (R : Rel K cl P fp σ σV H) (h : PostS K cl cx W P rr Dn) : PostS K cl cx W (P.now H fp) rr Dn := by
  cases rr with
  | ok p =>
    obtain ⟨w, σ1⟩ := p
    cases w with
    | nx => exact fun fp1 σV1 H1 R1 => h _ _ _ (R.past R1)
    | ct => exact fun fp1 σV1 H1 R1 => h _ _ _ (R.past R1)
    | bk => exact fun fp1 σV1 H1 R1 => h _ _ _ (R.past R1)
    | rt x => exact fun fp1 σV1 H1 v R1 r => h _ _ _ _ (R.past R1) (R.pastR r)
  | exc x => exact fun od H' z f => h od H' z (fr_back R f)
  | bad => exact h
theorem loopGo_cons {f : D → Sg → R (Fw × Sg)} {d : D} {ds : List D} {r : Fw × Sg} (h : loopGo f (d :: ds) σ = .ok r) :
    ∃ w τ, f d σ = .ok (w, τ) ∧ match (w : Fw) with
      | .nx => loopGo f ds τ = .ok r
      | .ct => loopGo f ds τ = .ok r
      | .bk => r = (.nx, τ)
      | .rt x => r = (.rt x, τ) := by
  obtain ⟨⟨w, τ⟩, h1, h⟩ := R.bind_eq_ok h
  refine ⟨w, τ, h1, ?_⟩
  cases w with
  | nx => exact h
  | ct => exact h
  | bk => cases h; rfl
  | rt x => cases h; rfl
/-- the for statement's step, its source apart -/
def loopF (T : Tb) (tg : Tg) (b : Ss) : D → Sg → R (Fw × Sg) := fun d τ => do
      guard ((tgSlots tg).all (freeAt τ))
      let τ1 ← setT τ tg d
      execs T b τ1
theorem loop_core {tg : Tg} {b : Ss} {ds : List D} {xs : List V} {r : Fw × Sg} (R : Rel K cl P fp σ σV H) (items : Reps K cl (avS P fp) H ds xs) (hg : loopGo (loopF T tg b) ds σ = .ok r) (h : PostS K cl cx W P (.ok r) Dn) :
    ∃ Pv : Nat → L2.St → Hp → Prop, Pv 0 σV H ∧ (∀ i σV1 H1, Pv i σV1 H1 → Fr H (ownS fp) H1) ∧
      (∀ (i : Nat) x σV1 H1, xs[i]? = some x → Pv i σV1 H1 → tgR K tg x σV1 H1 fun σ2 H2 => tSts K cl cx E0 T b { Dn with nx := Pv (i + 1), ct := Pv (i + 1), bk := Dn.nx } σ2 H2) ∧ (∀ σV1 H1, Pv xs.length σV1 H1 → Dn.nx σV1 H1) := by
  have hn := h.now R
  refine ⟨fun i σV1 H1 => ∃ fp1 σ1, Rel K cl (P.now H fp) fp1 σ1 σV1 H1 ∧ loopGo (loopF T tg b) (ds.drop i) σ1 = .ok r, ⟨fp, σ, R.now, hg⟩, fun i σV1 H1 ⟨fp1, σ1, R1, _⟩ => R1.fr0, fun i x σV1 H1 hx ⟨fp1, σ1, R1, g⟩ => ?_, fun σV1 H1 ⟨fp1, σ1, R1, g⟩ => ?_⟩
  · obtain ⟨d, hd, rx⟩ := items.getV hx
    rw [list_get_drop hd] at g
    obtain ⟨w, τ, hf, hw⟩ := loopGo_cons g
    have hf : (guard ((tgSlots tg).all (freeAt σ1)) >>= fun _ => setT σ1 tg d >>= fun τ1 => execs T b τ1) = .ok (w, τ) := hf
    obtain ⟨_, q1, hf⟩ := DD.R.bind_eq_ok hf
    obtain ⟨τ1, hs, hf⟩ := DD.R.bind_eq_ok hf
    have fa : (tgSlots tg).all (freeAt σ1) = true := by
      cases q : (tgSlots tg).all (freeAt σ1) with
      | true => rfl
      | false => rw [q] at q1; cases q1
    have rx1 : Rep K cl (avS (P.now H fp) fp1) H1 d x := rx.mv ⟨fun b o hb nt n => R1.fr0.keep b o hb nt fun z => n (.inr z), fun a z => by
      rcases z with z | z
      · exact .inl (.inl z)
      · rcases R1.new a z with y | y
        · exact .inl (.inr y)
        · exact .inr y⟩
    refine tg_ok R1 (fun j hj => R1.free (List.all_eq_true.mp fa j hj)) rx1 hs fun σV2 R2 _ _ => ⟨P.now H fp, fp1, τ1, R2, ?_⟩
    rw [hf]
    cases w with
    | nx => exact fun fp3 σV3 H3 R3 => ⟨fp3, τ, R3, hw⟩
    | ct => exact fun fp3 σV3 H3 R3 => ⟨fp3, τ, R3, hw⟩
    | bk =>
      have hw : r = (.nx, τ) := hw
      subst hw
      exact fun fp3 σV3 H3 R3 => hn _ _ _ R3
    | rt y =>
      have hw : r = (.rt y, τ) := hw
      subst hw
      exact fun fp3 σV3 H3 v R3 q => hn _ _ _ _ R3 q
  · have e : ds.drop xs.length = [] := List.drop_eq_nil_of_le (by rw [items.length]; exact Nat.le_refl _)
    rw [e] at g
    cases g
    exact hn _ _ _ R1
theorem src_loop {e : E} {f : Fl} {ds : List D} {v : V} (R : Rel K cl P fp σ σV H) (r : Res K cl P fp σV H e (f, .lst ds) v) (l : look (f, .lst ds) = .ok (.lst ds)) (g : srcOk σ (.cons e .nil) [(f, .lst ds)] = true) :
    ∃ a vs, v = .ref a ∧ SqL K H a vs ∧ Reps K cl (avS P fp) H ds vs ∧ ∀ H', Fr H (ownS fp) H' → SqL K H' a vs := by
  have fin : ((f == .brw && true) = false) → ∃ a vs, v = .ref a ∧ SqL K H a vs ∧ Reps K cl (avS P fp) H ds vs ∧ ∀ H', Fr H (ownS fp) H' → SqL K H' a vs := fun hb => by
    obtain ⟨a, vs, e1, h1, items, _, q⟩ := src_lst (b := true) R r l hb
    exact ⟨a, vs, e1, SqL.of h1, items, fun H' fr => q H' fr fun z => nomatch z⟩
  cases f with
  | dat => exact fin rfl
  | own => exact fin rfl
  | ino => cases l
  | brw =>
    cases r with
    | rs r => exact (show False from r).elim
    | brw c h =>
      cases c with
      | @lst _ a vs h1 it lim =>
        have hB : P.B a := by
          rcases h with h | ⟨i, hi, h⟩
          · exact h a (List.mem_singleton.mpr rfl)
          · have g1 := (and2 g).1
            cases e with
            | var j =>
              cases hi
              have s := R.at i
              have ha := h a (List.mem_singleton.mpr rfl)
              have g1 : (match σ.at i with
                | some (.brw, _) => true
                | _ => false) = true := g1
              generalize σ.at i = x at s g1
              generalize vAt σV i = y at s
              cases s with
              | brw _ _ n => rw [n] at ha; cases ha
              | _ => cases g1
            | _ => cases g1
        exact ⟨a, vs, rfl, SqL.of h1, it, fun H' fr => SqL.of (fr.keep _ _ h1 nt_lst fun ⟨j, z⟩ => R.noX j a z (R.bX a hB))⟩
theorem calm_bind {a : Type} {m : R a} {x : a} (h : calm m = .ok x) : m = .ok x := calm_ok h
theorem st_calm {m : R (Fw × Sg)} (h : PostS K cl cx W P (calm m) Dn) : ∃ r, m = .ok r ∧ PostS K cl cx W P (.ok r) Dn := by
  cases m with
  | ok r => exact ⟨r, rfl, h⟩
  | exc y => exact (show False from h).elim
  | bad => exact (show False from h).elim
theorem st_calm2 {m : R (Fw × Sg)} (h : PostS K cl cx W P (calm m) Dn) : PostS K cl cx W P m Dn := by
  obtain ⟨r, e, h⟩ := st_calm h
  rw [e]; exact h
theorem st_e0 {m : R (Fw × Sg)} (h : PostS K cl cx W P (calm m) Dn) : PostS K cl cx E0 P (calm m) Dn := by
  obtain ⟨⟨w, s⟩, e, h⟩ := st_calm h
  rw [e]
  cases w <;> exact h
theorem exec_loop (T : Tb) (w : Wk) (tg : Tg) (src : Es) (b : Ss) (σ : Sg) : exec T (.loop w tg src b) σ = calm (evs T src σ >>= fun p => guard (dctSrc src p.1 && srcOk p.2 src p.1) >>= fun _ => looks p.1 >>= fun ds => wkD w ds >>= fun its => calm (loopGo (loopF T tg b) its p.2)) := by
  rw [exec]; rfl
theorem st_loop_seq {s : E} {tg : Tg} {b : Ss} (clc : ∀ c, cl c = cl 0) (nat : ∀ i f, s = .fld (.var i) f → Cls K (cl 0) ∧ NoAttr K (cl 0) f) (h : tSt K cl cx E0 T (.loop .seq tg (.cons s .nil) b) Dn σV H) :
    tFor (iSeq cl cx T E0 K s) (tgR K tg) (tSts K cl cx E0 T b) Dn σV H ∨ tLock (tFor (iSeq cl cx T E0 K s) (tgR K tg) (tSts K cl cx E0 T b)) Dn σV H := by
  obtain ⟨P, fp, σ, R, h⟩ := h
  rw [exec_loop, evs_one, rb_assoc] at h
  have h := st_calm2 h
  cases hm : ev T s σ with
  | bad => rw [hm] at h; exact (show False from h).elim
  | exc y => rw [hm] at h; exact .inl (.inl (.inl ⟨P, fp, σ, R, by rw [hm]; exact fun od H' x f _ => h od H' x (fr_back R f)⟩))
  | ok p =>
    obtain ⟨w, σ1⟩ := p
    rw [hm] at h
    have h : PostS K cl cx E0 P (guard (dctSrc (.cons s .nil) [w] && srcOk σ1 (.cons s .nil) [w]) >>= fun _ => looks [w] >>= fun ds => wkD .seq ds >>= fun its => calm (loopGo (loopF T tg b) its σ1)) Dn := h
    obtain ⟨g, h⟩ := h.grd
    obtain ⟨g0, g⟩ := Bool.and_eq_true_iff.mp g
    obtain ⟨ds, hl, h2⟩ := h.pur (nox_looks _)
    obtain ⟨d, hd, hl⟩ := DD.R.bind_eq_ok hl
    cases hl
    clear h
    obtain ⟨f, d0⟩ := w
    have ed : d = d0 := by cases f <;> first | (cases hd; rfl) | cases hd
    subst ed
    cases d with
    | lst ds =>
      have h : PostS K cl cx E0 P (calm (loopGo (loopF T tg b) ds σ1)) Dn := h2
      obtain ⟨r, hg, h⟩ := st_calm h
      refine .inl (.inl (.inl ⟨P, fp, σ, R, ?_⟩))
      rw [hm]
      intro fp1 v1 H1 R1 s1 f1 i1 r1
      obtain ⟨a, ws, ev, ha, items, keep⟩ := src_loop R1 r1 hd g
      obtain ⟨Pv, p0, p1, p2, p3⟩ := loop_core R1 items hg h
      exact ⟨a, ev, ⟨ws, ha⟩, for_list Pv p0 (fun i σV' H' _ q => keep H' (p1 i σV' H' q)) p2 p3⟩
    | tup ds =>
      have h : PostS K cl cx E0 P (calm (loopGo (loopF T tg b) ds σ1)) Dn := h2
      obtain ⟨r, hg, h⟩ := st_calm h
      refine .inl (.inl (.inr ⟨P, fp, σ, R, ?_⟩))
      rw [hm]
      intro fp1 v1 H1 R1 s1 f1 i1 r1
      obtain ⟨a, ws, ev, ha, items, lim, keep⟩ := src_tup R1 r1
      obtain ⟨Pv, p0, p1, p2, p3⟩ := loop_core R1 items hg h
      exact ⟨a, ev, ⟨ws, ha⟩, for_tup Pv p0 (fun i σV' H' _ q => keep H' (p1 i σV' H' q)) p2 p3⟩
    | dct kvs =>
      have h : PostS K cl cx E0 P (calm (loopGo (loopF T tg b) (keysD kvs) σ1)) Dn := h2
      obtain ⟨r, hg, hx⟩ := st_calm h
      clear h
      obtain ⟨gf, ge⟩ := Bool.and_eq_true_iff.mp (show (f == .dat && slotE s) = true from g0)
      have gf : f = .dat := beq_iff_eq.mp gf
      subst gf
      obtain ⟨es, d, ks, dat, rk, lim, rd⟩ := slot_read R clc nat ge hm
      subst es
      have nO : ¬ ownS fp d := fun z => dat.2 (.inr z)
      have walk : ∀ (P2 : Px) (H2 : Hp) (D2 : Ends) (o : Obj), Rel K cl P2 fp σ1 σV H2 → H2 d = some (.frz o (.dK ks)) → Sim d ks H H2 → PostS K cl cx E0 P2 (.ok r) D2 → tFor (iSeq cl cx T E0 K s) (tgR K tg) (tSts K cl cx E0 T b) D2 σV H2 := by
        intro P2 H2 D2 o R2 hd2 sm hp
        refine .inr (rd H2 _ sm ⟨d, o, rfl, .inl ⟨ks, hd2, ?_⟩⟩)
        obtain ⟨Pv, p0, p1, p2, p3⟩ := loop_core R2 (reps_keys rk.fsts) hg hp
        rw [List.length_map] at p3
        refine for_it walk_keys Pv p0 (fun i σV' H' _ q => (p1 i σV' H' q).keep d _ hd2 nt_frz nO) (fun i y σV' H3 H4 hi q w => ?_) p3
        obtain ⟨rfl, k, v, w1, rfl⟩ := w
        exact p2 i _ _ _ (by rw [List.getElem?_map, w1]; rfl) q
      rcases dat.1 with hd | ⟨o, hd⟩
      · refine .inr ⟨d, .dK ks, hd, trivial, fun od => walk _ _ _ od (R.lock hd dat.2) upd_same (sim_lock hd) ?_⟩
        have nw : ∀ a, newP (P.now (lockH H d od ks) fp) a → newP P a := fun a z => by
          rcases z with z | z
          · exact R.new a z
          · refine fresh_new R ?_
            by_cases q : a = d
            · have z : lockH H d od ks a = none := z
              rw [q, lockH_same] at z; cases z
            · have z : lockH H d od ks a = none := z
              rw [lockH_ne q] at z; exact z
        have at_d : ∀ {fp' : Fp} {σ' : Sg} {σV' : L2.St} {H' : Hp}, Rel K cl (P.now (lockH H d od ks) fp) fp' σ' σV' H' → H' d = some (.frz od (.dK ks)) := fun R' => R'.fr0.keep d _ upd_same nt_frz nO
        obtain ⟨w, τ⟩ := r
        cases w with
        | nx => exact fun fp' σV' H' R' => ⟨at_d R', hx fp' σV' _ (R.unlock hd dat.2 R')⟩
        | ct => exact fun fp' σV' H' R' => ⟨at_d R', hx fp' σV' _ (R.unlock hd dat.2 R')⟩
        | bk => exact fun fp' σV' H' R' => ⟨at_d R', hx fp' σV' _ (R.unlock hd dat.2 R')⟩
        | rt x =>
          refine fun fp' σV' H' v R' rr => ⟨at_d R', hx fp' σV' _ v (R.unlock hd dat.2 R') ((Rs.sim (sim_unlock (at_d R')) rr fun fr hz w => ?_).z nw)⟩
          rcases hz d w with z | z
          · exact nO z
          · have z : lockH H d od ks d = none := z
            rw [lockH_same] at z; cases z
      · exact .inl (walk _ _ _ o R hd (Sim.refl dat.1) hx)
    | _ => exact (show False from h2).elim
abbrev FRng (cl cx : Nat → Addr) (T : Tb) (K : PySem.W.Frag) (tg : Tg) (b : Ss) (Dn : Ends) (σV : L2.St) (lo : Int) (n : Nat) (H1 : Hp) : Prop :=
  ∃ W : Nat → Nat → L2.St → Hp → Prop, (∃ m, W 0 m σV H1) ∧ ∀ i m σ H, W i m σ H →
    ((Itr lo n).stop i H ∧ Dn.nx σ H) ∨ ((Itr lo n).go i H ∧ ∃ N : L2.St → Hp → Prop, (∀ σ' H', N σ' H' → ∃ m', m' < m ∧ W (i + 1) m' σ' H') ∧ ∀ x H', (Itr lo n).yld i H x H' → tgR K tg x σ H' fun σ2 H2 => tSts K cl cx E0 T b { Dn with nx := N, ct := N, bk := Dn.nx } σ2 H2)
theorem st_loop_rng {src : Es} {tg : Tg} {b : Ss} (h : tSt K cl cx E0 T (.loop .rng tg src b) Dn σV H) :
    tS cl cx T E0 K src σV H fun ws H1 => (∃ n : Int, ws = [.int n] ∧ (-(2 ^ 62) ≤ n ∧ n < 2 ^ 62) ∧ FRng cl cx T K tg b Dn σV 0 n.toNat H1) ∨
      (∃ a c : Int, ws = [.int a, .int c] ∧ (-(2 ^ 62) ≤ a ∧ a < 2 ^ 62 ∧ -(2 ^ 62) ≤ c ∧ c < 2 ^ 62) ∧ FRng cl cx T K tg b Dn σV a (c - a).toNat H1) := by
  obtain ⟨P, fp, σ, R, h⟩ := h
  rw [exec_loop] at h
  have h := st_calm2 h
  refine ⟨P, fp, σ, R, stBind (k := fun p => guard (dctSrc src p.1 && srcOk p.2 src p.1) >>= fun _ => looks p.1 >>= fun ds => wkD .rng ds >>= fun its => calm (loopGo (loopF T tg b) its p.2)) R h fun ys σ1 fp1 ws H1 _ R1 s1 f1 i1 r1 h => ?_⟩
  obtain ⟨g, h⟩ := h.grd
  obtain ⟨ds, hl, h2⟩ := h.pur (nox_looks _)
  clear h
  have lk := r1.looks hl
  have fin : ∀ (lo : Int) (n : Nat), wkD .rng ds = .ok (rangeD lo n) → FRng cl cx T K tg b Dn σV lo n H1 := by
    intro lo n e
    rw [e] at h2
    obtain ⟨r, hg, h3⟩ := st_calm h2
    obtain ⟨Pv, p0, p1, p2, p3⟩ := loop_core R1 (reps_range lo n) hg h3
    refine for_range Pv p0 (fun i σV' H' hi q => p2 i _ σV' H' ?_ q) fun σV' H' q => p3 σV' H' (by rw [List.length_map, List.length_range]; exact q)
    rw [List.getElem?_map, List.getElem?_range hi]; rfl
  rcases wk_rng ds with e | ⟨n, rfl, c, e⟩ | ⟨a, b, rfl, c, e⟩
  · rw [e] at h2; exact (show False from h2).elim
  · rw [Bool.and_eq_true, decide_eq_true_eq] at c
    have c1 := inR_iff.mp c.1
    exact .inl ⟨n, Lks.ints (ns := [n]) lk, c1, fin 0 n.toNat e⟩
  · rw [Bool.and_eq_true, Bool.and_eq_true, decide_eq_true_eq] at c
    have c1 := inR_iff.mp c.1.1
    have c2 := inR_iff.mp c.1.2
    exact .inr ⟨a, b, Lks.ints (ns := [a, b]) lk, ⟨c1.1, c1.2, c2.1, c2.2⟩, fin a (b - a).toNat e⟩
theorem loop_coreG {tg : Tg} {b : Ss} {ds : List D} {r : Fw × Sg} (R : Rel K cl P fp σ σV H) (hg : loopGo (loopF T tg b) ds σ = .ok r) (h : PostS K cl cx W P (.ok r) Dn) :
    ∃ Pv : Nat → L2.St → Hp → Prop, Pv 0 σV H ∧ (∀ i σV1 H1, Pv i σV1 H1 → Fr H (ownS fp) H1) ∧
      (∀ (i : Nat) d x σV1 H3 H1, ds[i]? = some d → Pv i σV1 H3 → Ext H3 H1 → (∀ A', Mv (avS P fp) H A' H1 → (∀ a, A' a → H3 a ≠ none) → Rep K cl A' H1 d x) → tgR K tg x σV1 H1 fun σ2 H2 => tSts K cl cx E0 T b { Dn with nx := Pv (i + 1), ct := Pv (i + 1), bk := Dn.nx } σ2 H2) ∧ (∀ σV1 H1, Pv ds.length σV1 H1 → Dn.nx σV1 H1) := by
  have hn := h.now R
  refine ⟨fun i σV1 H1 => ∃ fp1 σ1, Rel K cl (P.now H fp) fp1 σ1 σV1 H1 ∧ loopGo (loopF T tg b) (ds.drop i) σ1 = .ok r, ⟨fp, σ, R.now, hg⟩, fun i σV1 H1 ⟨fp1, σ1, R1, _⟩ => R1.fr0, fun i d x σV1 H3 H1 hd ⟨fp1, σ1, R0, g⟩ t rdA => ?_, fun σV1 H1 ⟨fp1, σ1, R1, g⟩ => ?_⟩
  · have R1 := R0.ext t
    rw [list_get_drop hd] at g
    obtain ⟨w, τ, hf, hw⟩ := loopGo_cons g
    have hf : (guard ((tgSlots tg).all (freeAt σ1)) >>= fun _ => setT σ1 tg d >>= fun τ1 => execs T b τ1) = .ok (w, τ) := hf
    obtain ⟨_, q1, hf⟩ := DD.R.bind_eq_ok hf
    obtain ⟨τ1, hs, hf⟩ := DD.R.bind_eq_ok hf
    have fa : (tgSlots tg).all (freeAt σ1) = true := by
      cases q : (tgSlots tg).all (freeAt σ1) with
      | true => rfl
      | false => rw [q] at q1; cases q1
    have rx1 : Rep K cl (avS (P.now H fp) fp1) H1 d x := rdA _ ⟨fun b o hb nt n => R1.fr0.keep b o hb nt fun z => n (.inr z), fun a z => by
      rcases z with z | z
      · exact .inl (.inl z)
      · rcases R1.new a z with y | y
        · exact .inl (.inr y)
        · exact .inr y⟩ R0.trk
    refine tg_ok R1 (fun j hj => R1.free (List.all_eq_true.mp fa j hj)) rx1 hs fun σV2 R2 _ _ => ⟨P.now H fp, fp1, τ1, R2, ?_⟩
    rw [hf]
    cases w with
    | nx => exact fun fp3 σV3 H3 R3 => ⟨fp3, τ, R3, hw⟩
    | ct => exact fun fp3 σV3 H3 R3 => ⟨fp3, τ, R3, hw⟩
    | bk =>
      have hw : r = (.nx, τ) := hw
      subst hw
      exact fun fp3 σV3 H3 R3 => hn _ _ _ R3
    | rt y =>
      have hw : r = (.rt y, τ) := hw
      subst hw
      exact fun fp3 σV3 H3 v R3 q => hn _ _ _ _ R3 q
  · rw [List.drop_length] at g
    cases g
    exact hn _ _ _ R1
theorem st_loop_zip {src : Es} {tg : Tg} {b : Ss} (h : tSt K cl cx E0 T (.loop .zip tg src b) Dn σV H) : tFor (iZipB K (tS cl cx T E0 K src)) (tgR K tg) (tSts K cl cx E0 T b) Dn σV H := by
  obtain ⟨P, fp, σ, R, h⟩ := h
  rw [exec_loop] at h
  have h := st_calm2 h
  refine ⟨P, fp, σ, R, stBind (k := fun p => guard (dctSrc src p.1 && srcOk p.2 src p.1) >>= fun _ => looks p.1 >>= fun ds => wkD .zip ds >>= fun its => calm (loopGo (loopF T tg b) its p.2)) R h fun ys σ1 fp1 ws H1 _ R1 s1 f1 i1 r1 h => ?_⟩
  obtain ⟨g, h⟩ := h.grd
  obtain ⟨_, g⟩ := Bool.and_eq_true_iff.mp g
  obtain ⟨ds, hl, h2⟩ := h.pur (nox_looks _)
  clear h
  have two : ∀ (da db : D), ds = [da, db] → ∃ e1 e2 f1 d1 f2 d2 v1 v2, src = .cons e1 (.cons e2 .nil) ∧ ys = [(f1, d1), (f2, d2)] ∧ ws = [v1, v2] ∧ look (f1, d1) = .ok da ∧ look (f2, d2) = .ok db ∧
      Res K cl P fp1 σV H1 e1 (f1, d1) v1 ∧ Res K cl P fp1 σV H1 e2 (f2, d2) v2 ∧ srcOk σ1 (.cons e1 .nil) [(f1, d1)] = true ∧ srcOk σ1 (.cons e2 .nil) [(f2, d2)] = true := by
    intro da db e
    subst e
    cases r1 with
    | nil => cases hl
    | @cons e1 s2 x1 xs2 v1 vs2 ra r1 =>
      obtain ⟨y1, l1, hl⟩ := DD.R.bind_eq_ok hl
      obtain ⟨y2, l2, hl⟩ := DD.R.bind_eq_ok hl
      injection hl with hl
      injection hl with hl1 hl2
      subst hl1 hl2
      cases r1 with
      | nil => cases l2
      | @cons e2 s3 x2 xs3 v2 vs3 rb r1 =>
        obtain ⟨y3, l3, l2⟩ := DD.R.bind_eq_ok l2
        obtain ⟨y4, l4, l2⟩ := DD.R.bind_eq_ok l2
        injection l2 with l2
        injection l2 with l5 l6
        subst l5 l6
        cases r1 with
        | cons _ _ =>
          obtain ⟨_, _, l4⟩ := DD.R.bind_eq_ok l4
          obtain ⟨_, _, l4⟩ := DD.R.bind_eq_ok l4
          cases l4
        | nil =>
          obtain ⟨x1f, x1d⟩ := x1
          obtain ⟨x2f, x2d⟩ := x2
          have g : srcOk σ1 (.cons e1 (.cons e2 .nil)) [(x1f, x1d), (x2f, x2d)] = true := g
          have g1 := (and2 g).1
          have g2 := (and2 g).2
          exact ⟨e1, e2, x1f, x1d, x2f, x2d, v1, v2, rfl, rfl, rfl, l1, l3, ra, rb, Bool.and_eq_true_iff.mpr ⟨g1, rfl⟩, g2⟩
  have fin : ∀ (xa xb : List D) (va vb : List V), Reps K cl (avS P fp1) H1 xa va → Reps K cl (avS P fp1) H1 xb vb → wkD .zip ds = .ok (zipD xa xb) →
      ∃ Pv : Nat → L2.St → Hp → Prop, Pv 0 σV H1 ∧ (∀ i σ' H', Pv i σ' H' → Fr H1 (ownS fp1) H') ∧
        (∀ i x σ' H' H5, i < min va.length vb.length → Pv i σ' H' → YPair (fun i => va[i]?) (fun i => vb[i]?) i H' x H5 → tgR K tg x σ' H5 fun σ2 H2 => tSts K cl cx E0 T b { Dn with nx := Pv (i + 1), ct := Pv (i + 1), bk := Dn.nx } σ2 H2) ∧
        ∀ σ' H', Pv (min va.length vb.length) σ' H' → Dn.nx σ' H' := by
    intro xa xb va vb ra rb e
    rw [e] at h2
    obtain ⟨r, hg, h3⟩ := st_calm (show PostS K cl cx E0 P (calm (loopGo (loopF T tg b) (zipD xa xb) σ1)) Dn from h2)
    obtain ⟨Pv, p0, p1, p2, p3⟩ := loop_coreG R1 hg h3
    have en : (zipD xa xb).length = min va.length vb.length := by rw [zipD_len, ra.length, rb.length]
    refine ⟨Pv, p0, p1, fun i v σ' H' H5 hi q y => ?_, fun σ' H' q => p3 σ' H' (by rw [en]; exact q)⟩
    obtain ⟨T', x', y', rfl, hT, e5, hx, hy⟩ := y
    obtain ⟨dx, hdx, rx⟩ := ra.getV hx
    obtain ⟨dy, hdy, ry⟩ := rb.getV hy
    refine p2 i (.tup [dx, dy]) (.ref T') σ' H' H5 ?_ q (by rw [e5]; exact Ext.new hT) fun A' m tk => rep_pair e5 hT tk m rx ry
    unfold zipD
    have ez : (xa.zip xb)[i]? = some (dx, dy) := List.getElem?_zip_eq_some.mpr ⟨hdx, hdy⟩
    rw [List.getElem?_map, ez]
    rfl
  rcases wk_zip ds with e | ⟨xa, xb, ed, e⟩ | ⟨xa, xb, ed, e⟩ | ⟨xa, xb, ed, e⟩
  · rw [e] at h2; exact (show False from h2).elim
  · obtain ⟨e1, e2, f1, d1, f2, d2, v1, v2, rfl, rfl, rfl, l1, l2, ra, rb, g1, g2⟩ := two _ _ ed
    have k1 : d1 = .tup xa := by cases f1 <;> first | (cases l1; rfl) | cases l1
    have k2 : d2 = .tup xb := by cases f2 <;> first | (cases l2; rfl) | cases l2
    subst k1 k2
    obtain ⟨a, va, rfl, ta, ia, _, ka⟩ := src_tup R1 ra
    obtain ⟨b', vb, rfl, tb, ib, _, kb⟩ := src_tup R1 rb
    obtain ⟨Pv, p0, p1, p2, p3⟩ := fin xa xb va vb ia ib e
    exact ⟨a, b', va, vb, rfl, .inr (.inl ⟨ta, tb, for_it (walk_zipT rfl) Pv p0 (fun i σ' H' _ q => ⟨ka H' (p1 i σ' H' q), kb H' (p1 i σ' H' q)⟩) p2 p3⟩)⟩
  · obtain ⟨e1, e2, f1, d1, f2, d2, v1, v2, rfl, rfl, rfl, l1, l2, ra, rb, g1, g2⟩ := two _ _ ed
    have k1 : d1 = .lst xa := by cases f1 <;> first | (cases l1; rfl) | cases l1
    have k2 : d2 = .lst xb := by cases f2 <;> first | (cases l2; rfl) | cases l2
    subst k1 k2
    obtain ⟨a, va, rfl, ta, ia, ka⟩ := src_loop R1 ra l1 g1
    obtain ⟨b', vb, rfl, tb, ib, kb⟩ := src_loop R1 rb l2 g2
    obtain ⟨Pv, p0, p1, p2, p3⟩ := fin xa xb va vb ia ib e
    exact ⟨a, b', va, vb, rfl, .inl ⟨ta, tb, for_it (walk_zip rfl) Pv p0 (fun i σ' H' _ q => ⟨ka H' (p1 i σ' H' q), kb H' (p1 i σ' H' q)⟩) p2 p3⟩⟩
  · obtain ⟨e1, e2, f1, d1, f2, d2, v1, v2, rfl, rfl, rfl, l1, l2, ra, rb, g1, g2⟩ := two _ _ ed
    have k1 : d1 = .lst xa := by cases f1 <;> first | (cases l1; rfl) | cases l1
    have k2 : d2 = .tup xb := by cases f2 <;> first | (cases l2; rfl) | cases l2
    subst k1 k2
    obtain ⟨a, va, rfl, ta, ia, ka⟩ := src_loop R1 ra l1 g1
    obtain ⟨b', vb, rfl, tb, ib, _, kb⟩ := src_tup R1 rb
    obtain ⟨Pv, p0, p1, p2, p3⟩ := fin xa xb va vb ia ib e
    exact ⟨a, b', va, vb, rfl, .inr (.inr ⟨ta, tb, for_it (walk_zipM rfl) Pv p0 (fun i σ' H' _ q => ⟨ka H' (p1 i σ' H' q), kb H' (p1 i σ' H' q)⟩) p2 p3⟩)⟩
theorem reps_down {A : AS} (a : Int) (n : Nat) : Reps K cl A H (downD a n) ((List.range n).map fun (i : Nat) => V.int (a + (i : Int) * (-1))) := by
  unfold downD
  induction List.range n with
  | nil => exact .nil
  | cons i r ih => exact .cons (.int _) ih
theorem wk_dwn (ds : List D) : wkD .dwn ds = .bad ∨ ∃ a b, ds = [.int a, .int b, .int (-1)] ∧ (inR a && inR b && decide (a - b ≤ 16777216)) = true ∧ wkD .dwn ds = .ok (downD a (a - b).toNat) := by
  match ds with
  | [] => exact .inl rfl
  | [d] => cases d <;> exact .inl rfl
  | [d, e] => cases d <;> cases e <;> exact .inl rfl
  | d :: e :: f :: g :: r => exact .inl (by cases d <;> cases e <;> cases f <;> rfl)
  | [d, e, f] =>
    cases d with
    | int a =>
      cases e with
      | int b =>
        cases f with
        | int c =>
          by_cases h : (c == -1 && inR a && inR b && decide (a - b ≤ 16777216)) = true
          · refine .inr ⟨a, b, ?_, ?_, if_pos h⟩
            · obtain ⟨h1, _⟩ := and4 h
              rw [beq_iff_eq.mp h1]
            · obtain ⟨_, h2, h3, h4⟩ := and4 h
              rw [h2, h3, h4]; rfl
          · exact .inl (if_neg h)
        | _ => exact .inl rfl
      | _ => exact .inl rfl
    | _ => exact .inl rfl
theorem st_loop_dwn {src : Es} {tg : Tg} {b : Ss} (h : tSt K cl cx E0 T (.loop .dwn tg src b) Dn σV H) : tFor (iRng3 (tS cl cx T E0 K src)) (tgR K tg) (tSts K cl cx E0 T b) Dn σV H := by
  obtain ⟨P, fp, σ, R, h⟩ := h
  rw [exec_loop] at h
  have h := st_calm2 h
  refine ⟨P, fp, σ, R, stBind (k := fun p => guard (dctSrc src p.1 && srcOk p.2 src p.1) >>= fun _ => looks p.1 >>= fun ds => wkD .dwn ds >>= fun its => calm (loopGo (loopF T tg b) its p.2)) R h fun ys σ1 fp1 ws H1 _ R1 s1 f1 i1 r1 h => ?_⟩
  obtain ⟨g, h⟩ := h.grd
  obtain ⟨ds, hl, h2⟩ := h.pur (nox_looks _)
  clear h
  have lk := r1.looks hl
  rcases wk_dwn ds with e | ⟨a, b, rfl, c, e⟩
  · rw [e] at h2; exact (show False from h2).elim
  · rw [e] at h2
    rw [Bool.and_eq_true, Bool.and_eq_true, decide_eq_true_eq] at c
    have c1 := inR_iff.mp c.1.1
    have c2 := inR_iff.mp c.1.2
    obtain ⟨r, hg, h3⟩ := st_calm h2
    obtain ⟨Pv, p0, p1, p2, p3⟩ := loop_core R1 (reps_down a (a - b).toNat) hg h3
    refine ⟨a, b, -1, (a - b).toNat, Lks.ints (ns := [a, b, -1]) lk, RgC.neg c1.1 c1.2 c2.1 c2.2, ?_⟩
    refine for_rangeC Pv p0 (fun i σV' H' hi q => p2 i _ σV' H' ?_ q) fun σV' H' q => p3 σV' H' (by rw [List.length_map, List.length_range]; exact q)
    rw [List.getElem?_map, List.getElem?_range hi]; rfl
def whlC (T : Tb) (c : E) : Sg → R (Bool × Sg) := fun τ => do
      let (v, τ1) ← ev T c τ
      let t ← boolD v
      .ok (t, τ1)
theorem whlGo_succ {c : Sg → R (Bool × Sg)} {f : Sg → R (Fw × Sg)} {n : Nat} {r : Fw × Sg} (h : whlGo c f (n + 1) σ = .ok r) :
    ∃ b τ, c σ = .ok (b, τ) ∧ (b = false → r = (.nx, τ)) ∧ (b = true → ∃ w τ2, f τ = .ok (w, τ2) ∧ match (w : Fw) with
      | .nx => whlGo c f n τ2 = .ok r
      | .ct => whlGo c f n τ2 = .ok r
      | .bk => r = (.nx, τ2)
      | .rt x => r = (.rt x, τ2)) := by
  rw [whlGo] at h
  obtain ⟨⟨b, τ⟩, h1, h⟩ := R.bind_eq_ok h
  refine ⟨b, τ, h1, ?_⟩
  cases b with
  | false => cases h; exact ⟨fun _ => rfl, fun z => nomatch z⟩
  | true =>
    obtain ⟨⟨w, τ2⟩, h2, h⟩ := R.bind_eq_ok h
    refine ⟨fun z => (nomatch z), fun _ => ⟨w, τ2, h2, ?_⟩⟩
    cases w with
    | nx => exact h
    | ct => exact h
    | bk => cases h; rfl
    | rt x => cases h; rfl
theorem st_whl {n : Nat} {c : E} {b : Ss} (h : tSt K cl cx E0 T (.whl n c b) Dn σV H) : tWhile (tB (tE cl cx T E0 K c)) (tSts K cl cx E0 T b) Dn σV H := by
  obtain ⟨P, fp, σ, R, h⟩ := h
  have h : PostS K cl cx E0 P (calm (whlGo (whlC T c) (fun τ => execs T b τ) n σ)) Dn := by rw [exec] at h; exact h
  obtain ⟨r, hg, h⟩ := st_calm h
  refine ⟨fun m σV1 H1 => ∃ fp1 σ1, Rel K cl P fp1 σ1 σV1 H1 ∧ whlGo (whlC T c) (fun τ => execs T b τ) m σ1 = .ok r, ⟨n, fp, σ, R, hg⟩, fun m σV1 H1 ⟨fp1, σ1, R1, g⟩ => ?_⟩
  cases m with
  | zero => cases g
  | succ m =>
    obtain ⟨t, τ, hc, hf, ht⟩ := whlGo_succ g
    refine ⟨P, fp1, σ1, R1, ?_⟩
    obtain ⟨⟨v, τ1⟩, h1, hc⟩ := DD.R.bind_eq_ok hc
    obtain ⟨t2, h2, hc⟩ := DD.R.bind_eq_ok hc
    cases hc
    rw [h1]
    intro fp2 v2 H2 R2 s2 f2 i2 r2
    refine ⟨t, r2.bl h2, ?_⟩
    cases t with
    | false =>
      cases hf rfl
      exact iteF (h _ _ _ R2)
    | true =>
      refine iteT ⟨fun σV3 H3 => ∃ fp3 σ3, Rel K cl P fp3 σ3 σV3 H3 ∧ whlGo (whlC T c) (fun τ => execs T b τ) m σ3 = .ok r, fun σV3 H3 q => ⟨m, Nat.lt_succ_self m, q⟩, P, fp2, τ, R2, ?_⟩
      obtain ⟨w, τ2, hw, q⟩ := ht rfl
      rw [hw]
      cases w with
      | nx => exact fun fp3 σV3 H3 R3 => ⟨fp3, τ2, R3, q⟩
      | ct => exact fun fp3 σV3 H3 R3 => ⟨fp3, τ2, R3, q⟩
      | bk => cases q; exact h
      | rt y => cases q; exact h
/-- a list display stored: it is new, whatever its making changed -/
theorem st_stl {i : Nat} {es : Es} (h : tSt K cl cx W T (.stl i es) Dn σV H) : tAsg (tLst (tS cl cx T W K es)) (gName i) Dn σV H := by
  obtain ⟨P, fp, σ, R, h⟩ := h
  rw [exec] at h
  refine ⟨P, fp, σ, R, stBind (k := fun p => keeps p.1 >>= fun ds => guard (decide (ds.length ≤ 16777216) && overAt p.2 i) >>= fun _ => .ok (.nx, setA p.2 [i] [(.own, .lst ds)])) R h fun ys σ1 fp1 ws H1 _ R1 s1 f1 i1 r1 h => ?_⟩
  obtain ⟨ds, l1, h⟩ := h.pur (nox_keeps ys)
  obtain ⟨g, h⟩ := h.grd
  obtain ⟨g1, g2⟩ := Bool.and_eq_true_iff.mp g
  have rs := r1.keeps l1
  have hl : ds.length ≤ 16777216 := of_decide_eq_true g1
  refine ⟨by rw [line_eq, ← rs.length]; exact hl, fun p hp => ?_⟩
  have t := Ext.new (o := .lst ws) hp
  obtain ⟨fr, c, n, z⟩ := Rs.newL hp R1.trk rs hl
  have R2 : Rel K cl (P.wX fun a => P.X a ∨ a ∈ fr) fp1 σ1 σV (upd H1 p (.lst ws)) := R1.fresh t z c.there fun a => Iff.rfl
  have it : Its K cl P.B (avS (P.wX fun a => P.X a ∨ a ∈ fr) fp1) (upd H1 p (.lst ws)) [(.own, .lst ds)] [.ref p] [fr] := .own (c.mv (Mv.less fun a q => by
    rcases q with (q | q) | q
    · exact .inl (.inl q)
    · exact .inr q
    · exact .inl (.inr q)) fun _ _ _ h _ => h) .nil
  have ef : ∀ a, a ∈ [fr].flatten ↔ a ∈ fr := fun a => by rw [List.flatten_cons, List.flatten_nil, List.append_nil]
  obtain ⟨fp', R3⟩ := setA_ok (P := P) (is := [i]) it rfl (fun j hj => by rw [List.mem_singleton.mp hj]; exact over_lt g2) R2 (fun a => by rw [ef]) (fun _ z => z) (by rw [List.flatten_cons, List.flatten_nil, List.append_nil]; exact cell_nodup c)
    (fun a ha => fun q => n a ((ef a).mp ha) (.inl q)) (fun a ha => fresh_new R1 (z a ((ef a).mp ha))) R1.bX
  exact h fp' _ _ R3
end
end DD
namespace DD
open L2 PyProof.Rows PySem PySem.Spec
variable [TabT]
section
variable {cl cx : Nat → Addr} {T : Tb} {M : Nm} {W : XK} {sc : Scope} {fb : Str → Bool} {X : Cx} {k : Nat}
theorem Good.nox (G : Good cl cx T M W sc fb X k) : Good cl cx T M E0 sc fb X.nox k where
  calm := G.calm
  nd := G.nd
  sc := G.sc
  fb := G.fb
  rm := G.rm
  rm3 := G.rm3
  aks := G.aks
  pas := passL
  tk := takes_non
  exs := G.exs
  exm := G.exm
  fns := G.fns
  gls := G.gls
  blt := G.blt
  rng := G.rng
  zip := G.zip
  enu := G.enu
  fre := G.fre
  tab := fun h => by
    obtain ⟨c, t, q⟩ := G.tab h
    exact ⟨c, t, ⟨q.b, q.code, q.mem, q.uni⟩⟩
  clc := G.clc
  nat := G.nat
  mts := G.mts
  mks := G.mks
theorem PS.imp {st : Stmt} {t t' : TS} (h : PS X st t) (i : ∀ D σ H, t' D σ H → t D σ H) : PS X st t' := ⟨fun pins s σ H D I q => h.run pins s σ H D I (i D σ H q)⟩
theorem PSs.imp {st : List Stmt} {t t' : TS} (h : PSs X st t) (i : ∀ D σ H, t' D σ H → t D σ H) : PSs X st t' := ⟨fun pins s σ H D I q => h.run pins s σ H D I (i D σ H q)⟩
theorem PS.nox {st : Stmt} {t : TS} (h : PS X.nox st t) : PS X st t := ⟨fun pins s σ H D I hw =>
  wpAny_mono (h.run pins s σ H D (I.wish _) hw) (fun _ _ q => q.unwish) fun _ _ z => False.elim z⟩
theorem tSt_e0 {K : PySem.W.Frag} {s : S} {Dn : Ends} {σV : L2.St} {H : Hp} (hs : ∀ σ, ∃ m, exec T s σ = calm m) (h : tSt K cl cx W T s Dn σV H) : tSt K cl cx E0 T s Dn σV H := by
  obtain ⟨P, fp, σ, R, h⟩ := h
  obtain ⟨m, e⟩ := hs σ
  rw [e] at h
  exact ⟨P, fp, σ, R, by rw [e]; exact st_e0 h⟩
/-- the parts of a checked comprehension -/
theorem comp_parts (G : Good cl cx T M W sc fb X k) {w : Wk} {src : Es} {tg : Tg} {cs : Es} {x : E} {vs : List Nat} {elt t it : Expr} {ifs : List Expr} {a : Int} {scope : Scope} {pos : Pos}
    (h : ck X.N M sc fb (.comp w src tg cs x vs) (.ListComp elt [⟨t, it, ifs, a⟩] scope pos) = true) :
    a = 0 ∧ ∃ (wi : TI) (own : List (Str × Nat)), PI X t it wi ∧ BlkOk X.N X.env.scope scope own ∧ (∀ s H C cells fp, PG (X.blk s H scope (compEnvC scope cells C X.env) fp) t (tgR X.K tg)) ∧
      (∀ s H C cells fp, PTs (X.blk s H scope (compEnvC scope cells C X.env) fp) ifs (tCs cl cx T X.K cs)) ∧ (∀ s H C cells fp, PE (X.blk s H scope (compEnvC scope cells C X.env) fp) elt (tE cl cx T E0 X.K x)) ∧
      (∀ x, foldedSetIterable it X.env x = pure x) ∧ ∀ σ H Q, tE cl cx T W X.K (.comp w src tg cs x vs) σ H Q → tLc wi (tgR X.K tg) (tCs cl cx T X.K cs) (tE cl cx T E0 X.K x) (own.map (·.2)) σ H Q ∨ tLockE (tLc wi (tgR X.K tg) (tCs cl cx T X.K cs) (tE cl cx T E0 X.K x) (own.map (·.2))) σ H Q := by
  obtain ⟨elt', t', it', ifs', scope', pos', e, h1, h2, h3, h4, h5, h6, h7, h8⟩ := ck_comp h
  cases e
  refine ⟨rfl, ?_⟩
  have one := noTwo h7 h5
  have own : (vs.map fun i => (X.N.getD i Str.empty, i)).map (·.2) = vs := by
    rw [List.map_map]
    exact List.map_id' vs
  have bk := blkOk_by h1
  rw [← G.sc] at bk
  have hg : ∀ s H C cells fp, PG (X.blk s H scope (compEnvC scope cells C X.env) fp) t (tgR X.K tg) := fun s H C cells fp => tg_sound (G.blk scope s H C cells fp) h4
  have he : ∀ s H C cells fp, PE (X.blk s H scope (compEnvC scope cells C X.env) fp) elt (tE cl cx T E0 X.K x) := fun s H C cells fp => soundE x (G.blk scope s H C cells fp) h8
  have ht : ∀ s H C cells fp, PTs (X.blk s H scope (compEnvC scope cells C X.env) fp) ifs (tCs cl cx T X.K cs) := fun s H C cells fp => by
    cases cs with
    | nil =>
      cases ifs with
      | nil => exact pts_nil
      | cons _ _ => cases h7
    | cons c r =>
      cases ifs with
      | nil => cases h7
      | cons c' ifs =>
        cases ifs with
        | cons _ _ => simp at h5
        | nil =>
          unfold cks at h7
          exact pts_one (soundT c (G.blk scope s H C cells fp) (and2 h7).1 (and2 h6).1)
  rcases h3 with ⟨rfl, h3⟩ | ⟨rfl, p, c, as, p2, rfl, h3, h9, h10⟩ | ⟨rfl, p, c1, c2, p2, elts, kk, tpos, rfl, rfl, h3, h9, h10⟩ | ⟨rfl, p, c1, p2, elts, kk, tpos, rfl, rfl, h3, h9, h10⟩
  · cases src with
    | nil => cases h3
    | cons s r =>
      unfold cks at h3
      obtain ⟨h31, h9⟩ := and2 h3
      cases r with
      | cons _ _ => cases h9
      | nil =>
        have hs := soundE s G h31
        refine ⟨_, _, PI.or (PI.or (pi_list hs) (pi_tup hs)) (pi_keys (slot_pe G _ h31)), bk, hg, ht, he, plain_set (ck_plain h31), fun σ H Q h => ?_⟩
        rw [own]
        exact imp_comp_seq h2 one G.clc (slot_nat G h31) h
  · have hs := soundS src G h9
    have pl := cks_plain h9
    cases as with
    | nil =>
      refine ⟨_, _, pi_range1 (G.gl h3) G.rng hs (star_cons pl), bk, hg, ht, he, fun _ => rfl, fun σ H Q h => .inl ?_⟩
      rw [own]
      refine tS_imp (imp_comp_rng h2 one h) fun ws H1 len q => ?_
      rcases q with ⟨n, e, ⟨b1, b2⟩, q⟩ | ⟨a, b, e, _, q⟩
      · exact ⟨n, e, b1, b2, q⟩
      · rw [e, ioAt_len h9] at len; cases len
    | cons c2 as =>
      cases as with
      | nil =>
        have pl2 : plainX c2 = true := by
          cases src with
          | nil => cases h9
          | cons e r =>
            unfold cks at h9
            exact cks_plain (and2 h9).2
        refine ⟨_, _, pi_range2 (G.gl h3) G.rng hs (by rw [star_cons pl, star_cons pl2]; rfl) (by rw [star_cons pl2]; rfl), bk, hg, ht, he, fun _ => rfl, fun σ H Q h => .inl ?_⟩
        rw [own]
        refine tS_imp (imp_comp_rng h2 one h) fun ws H1 len q => ?_
        rcases q with ⟨n, e, _, q⟩ | ⟨a, b, e, bd, q⟩
        · rw [e, ioAt_len h9] at len; cases len
        · exact ⟨a, b, e, bd, q⟩
      | cons _ _ => simp at h10
  · have hs := soundS src G h9
    have pl := cks_plain h9
    have pl2 : plainX c2 = true := by
      cases src with
      | nil => cases h9
      | cons e r =>
        unfold cks at h9
        exact cks_plain (and2 h9).2
    refine ⟨_, _, pi_zipB (G.gl h3) G.zip hs (star_cons pl) (by rw [star_cons pl2]; rfl), bk, hg, ht, he, fun _ => rfl, fun σ H Q h => .inl ?_⟩
    rw [own]
    exact imp_comp_zip h2 one h10 h
  · have hs := soundS src G h9
    have pl := cks_plain h9
    refine ⟨_, _, pi_enumB (G.gl h3) G.enu hs (by rw [star_cons pl]; rfl), bk, hg, ht, he, fun _ => rfl, fun σ H Q h => .inl ?_⟩
    rw [own]
    exact imp_comp_enu h2 one h10 h
end
end DD
namespace DD
open L2 PyProof.Rows PySem PySem.Spec
variable [TabT]
section
variable {cl cx : Nat → Addr} {T : Tb} {M : Nm} {W : XK} {sc : Scope} {fb : Str → Bool} {X : Cx} {k : Nat}
theorem sw_no {a : Expr} {tg : Option Expr} {l : Nat} {env : Env} (hp : plainX a = true) (hl : isLc a = false) : swapsWith a tg l env = pure false := by
  cases a <;> first | rfl | exact (Bool.false_ne_true hp).elim | exact (Bool.false_ne_true hl.symm).elim
theorem sw_attr {a o : Expr} {f : Str} {p : Pos} {l : Nat} {env : Env} (hp : plainX a = true) : swapsWith a (some (.Attribute o f p)) l env = pure false := by
  cases a <;> first | rfl | exact (Bool.false_ne_true hp).elim
theorem sw_cell {a : Expr} {x : Str} {p : Pos} {l : Nat} {env : Env} (ha : isLc a = true) (h : isLocal env.scope x = false) : swapsWith a (some (.Name x p)) l env = pure false := by
  cases a with
  | ListComp elt gens scope cpos =>
    show (pure (env.blockKind == .function && env.kindOf x == some .local && p.line == cpos.line && !(scope.names.any fun (n, k) => n == x && (k == .local || k == .cell))) : Sem Bool) = _
    rw [show (env.kindOf x == some .local) = false from h, Bool.and_false]
    rfl
  | _ => cases ha
theorem sole_tup {a : Expr} {es : List Expr} {kk : Nat} {pos : Pos} {l : Nat} {env : Env} (hp : plainX a = true) : swapsWithSole [.Tuple es kk pos] a l env = pure false := by
  cases a <;> first | rfl | exact (Bool.false_ne_true hp).elim
theorem sole_sub {a o i : Expr} {pos : Pos} {l : Nat} {env : Env} (hp : plainX a = true) : swapsWithSole [.Subscript o i pos] a l env = pure false := by
  cases a <;> first | rfl | exact (Bool.false_ne_true hp).elim
theorem st_none {a t : Expr} {env : Env} (h : noTupE a = true) : swappedStores [t] a env = pure none := by
  cases a <;> first | (cases t <;> rfl) | exact (Bool.false_ne_true h).elim
theorem st_sub {a o i : Expr} {pos : Pos} {env : Env} : swappedStores [.Subscript o i pos] a env = pure none := by
  cases a <;> rfl
def star (e : Expr) : Bool := match e with
  | .Starred .. => true
  | _ => false
theorem plain_nostar {a : Expr} (h : plainX a = true) : star a = false := by
  cases a <;> first | rfl | exact (Bool.false_ne_true h).elim
theorem loc_of {env : Env} {x : Str} (h : isLocal env.scope x = true) : env.kindOf x = some .local := by
  unfold isLocal at h
  exact eq_of_beq h
theorem fn_kind {env : Env} (h : env.scope.kind = .function) : env.blockKind = .function := by
  unfold Env.blockKind; rw [h]; rfl
theorem sw_yes2 {x y : Str} {px py pt p2 : Pos} {kt k2 : Nat} {v w : Expr} {env : Env} (hk : env.scope.kind = .function) (hx : isLocal env.scope x = true) (hy : isLocal env.scope y = true) (hl : (px.line == py.line) = true) (ne : x ≠ y)
    (hv : plainX v = true) (hw : plainX w = true) (h1 : [v, w].all (foldedForSure 8) = false) (h2 : [v, w].all (constantsAlone 8) = false) :
    swappedStores [.Tuple [.Name x px, .Name y py] kt pt] (.Tuple [v, w] k2 p2) env = pure (some [x, y]) := by
  have nv := plain_nostar hv
  have nw := plain_nostar hw
  have hl2 : py.line = px.line := (beq_iff_eq.mp hl).symm
  unfold swappedStores
  have st : ([v, w].any fun | .Starred .. => true | _ => false) = false := by
    show (star v || (star w || false)) = false
    rw [nv, nw]; rfl
  simp only [fn_kind hk, st, h1, h2, loc_of hx, loc_of hy, Expr.pos, List.head?, Option.map, Option.getD, List.filterMap, hl2]
  simp [List.eraseDups_cons, ne, Ne.symm ne]
  rintro (h | h)
  · cases v <;> first | exact (Bool.false_ne_true hv).elim | exact (Bool.false_ne_true h).elim
  · cases w <;> first | exact (Bool.false_ne_true hw).elim | exact (Bool.false_ne_true h).elim
theorem sw_yes3 {x y z : Str} {px py pz pt p2 : Pos} {kt k2 : Nat} {u v w : Expr} {env : Env} (hk : env.scope.kind = .function) (hx : isLocal env.scope x = true) (hy : isLocal env.scope y = true) (hz : isLocal env.scope z = true)
    (hl : (px.line == py.line) = true) (hl3 : (px.line == pz.line) = true) (n1 : x ≠ y) (n2 : x ≠ z) (n3 : y ≠ z)
    (hu : plainX u = true) (hv : plainX v = true) (hw : plainX w = true) (h1 : [u, v, w].all (foldedForSure 8) = false) (h2 : [u, v, w].all (constantsAlone 8) = false) :
    swappedStores [.Tuple [.Name x px, .Name y py, .Name z pz] kt pt] (.Tuple [u, v, w] k2 p2) env = pure (some [x, y, z]) := by
  have hl2 : py.line = px.line := (beq_iff_eq.mp hl).symm
  have hl4 : pz.line = px.line := (beq_iff_eq.mp hl3).symm
  unfold swappedStores
  simp only [fn_kind hk, h1, h2, loc_of hx, loc_of hy, loc_of hz, Expr.pos, List.head?, Option.map, Option.getD, List.filterMap, hl2, hl4]
  simp [List.eraseDups_cons, n1, n2, n3, Ne.symm n1, Ne.symm n2, Ne.symm n3]
  rintro (h | h | h)
  · cases u <;> first | exact (Bool.false_ne_true hu).elim | exact (Bool.false_ne_true h).elim
  · cases v <;> first | exact (Bool.false_ne_true hv).elim | exact (Bool.false_ne_true h).elim
  · cases w <;> first | exact (Bool.false_ne_true hw).elim | exact (Bool.false_ne_true h).elim
theorem sw_un {ts vs : List Expr} {kt k2 : Nat} {pt p2 : Pos} {env : Env} (hpl : vs.all plainX = true) (h : unN env.scope ts vs = true) : swappedStores [.Tuple ts kt pt] (.Tuple vs k2 p2) env = pure none := by
  unfold swappedStores
  unfold unN at h
  simp only [Bool.or_eq_true] at h
  rcases h with (h | h) | h
  · simp [h]
  · simp [h]
  · obtain ⟨t, ht, q⟩ := List.any_eq_true.mp h
    simp
    intro _ _ _ _ h5
    refine absurd ?_ (h5 t ht)
    cases t <;> first | (show none = none; rfl) | skip
    rename_i id pos
    have hn : ¬ env.kindOf id = some .local := fun z => by
      have q : (!(isLocal env.scope id)) = true := q
      unfold isLocal at q
      unfold Env.kindOf at z
      rw [z] at q
      exact Bool.false_ne_true q
    exact if_neg fun z => hn z.1
end
end DD
namespace DD
open L2 PyProof.Rows PySem PySem.Spec
variable [TabT]
section
variable {cl cx : Nat → Addr} {T : Tb} {M : Nm} {W : XK} {sc : Scope} {fb : Str → Bool} {X : Cx} {k : Nat}
theorem soundPs : ∀ (es : Es) {W : XK} {sc : Scope} {fb : Str → Bool} {X : Cx}, Good cl cx T M W sc fb X k → ∀ {as : List Expr}, cks X.N M sc fb es as = true → PA X as (tPs X.K cl cx W T es)
  | .nil, _, _, _, _, G, as, h => by
    cases as with
    | nil => exact pa_nil
    | cons _ _ => cases h
  | .cons e r, _, _, _, _, G, as, h => by
    cases as with
    | nil => cases h
    | cons a as =>
      unfold cks at h
      obtain ⟨h1, h2⟩ := and2 h
      exact pa_cons (soundE e G h1) (soundPs r G h2) (star_cons (ck_plain h1))
theorem cks_all {N : List Str} : ∀ {es : Es} {as : List Expr}, cks N M sc fb es as = true → as.all plainX = true
  | .nil, [], _ => rfl
  | .cons e r, a :: as, h => by
    unfold cks at h
    obtain ⟨h1, h2⟩ := and2 h
    rw [List.all_cons, ck_plain h1, cks_all h2]; rfl
  | .nil, _ :: _, h => by cases h
  | .cons _ _, [], h => by cases h
theorem tPs_imp {K : PySem.W.Frag} : ∀ {es : Es} {σV : L2.St} {H : Hp} {Q Q' : List V → Hp → Prop}, tPs K cl cx W T es σV H Q → (∀ vs H, Q vs H → Q' vs H) → tPs K cl cx W T es σV H Q'
  | .nil, _, _, _, _, h, i => i _ _ h
  | .cons e r, _, _, _, _, h, i => tE_imp h fun v H1 h1 => tPs_imp h1 fun vs H2 q => i _ _ q
theorem PS.or {st : Stmt} {t t' : TS} (h : PS X st t) (h' : PS X st t') : PS X st (fun D σ H => t D σ H ∨ t' D σ H) := ⟨fun pins s σ H D I q => q.elim (h.run pins s σ H D I) (h'.run pins s σ H D I)⟩
theorem sound_set (G : Good cl cx T M W sc fb X k) (hk : X.env.scope.kind = .function) {i : Nat} {e : E} {x : Str} {p pos : Pos} {a : Expr} (h1 : X.N[i]? = some x) (h2 : locB sc fb x = true) (h3 : ck X.N M sc fb e a = true)
    (h4 : (!(isLc a) || lcSwap sc x p.line a || !(isLocal sc x)) = true) : PS X (.Assign [.Name x p] a pos) (tSt X.K cl cx W T (.set i e)) := by
  obtain ⟨q1, q2⟩ := G.loc h2
  cases hl : isLc a with
  | false => exact PS.imp (ps_set G.nd h1 q1 (soundE e G h3) (sw_no (ck_plain h3) hl) q2) fun D σ H h => st_set h
  | true =>
    rw [hl] at h4
    have h4 : (lcSwap sc x p.line a || !(isLocal sc x)) = true := h4
    cases hloc : isLocal sc x with
    | false => exact PS.imp (ps_set G.nd h1 q1 (soundE e G h3) (sw_cell hl (by rw [G.sc]; exact hloc)) q2) fun D σ H h => st_set h
    | true =>
    rw [hloc] at h4
    have h4 : lcSwap sc x p.line a = true := by simpa using h4
    unfold lcSwap at h4
    obtain ⟨l1, l2, l3⟩ := and3 h4
    cases a with
    | ListComp elt gens scope cpos =>
      cases e with
      | comp w src tg cs y vs =>
        obtain ⟨elt', t, it, ifs, scope', pos', e, _⟩ := ck_comp h3
        cases e
        obtain ⟨_, wi, own, p1, p2, p3, p4, p5, p6, p7⟩ := comp_parts G h3
        have lx : X.env.scope.names.lookup x = some .local := by rw [G.sc]; exact eq_of_beq l1
        have p := ps_setLc (spos := pos) (pos := cpos) G.calm G.nd h1 lx (sw_true hk lx l2 (ng l3)) p1 p2 p3 p4 p5 p6
        exact PS.imp (PS.or p (ps_lock p)) fun D σ H h => p7 σ H _ (st_set h)
      | get b _ _ _ => cases b with
        | false => obtain ⟨_, _, _, _, _, e, _⟩ := ck_get1 h3; cases e
        | true => obtain ⟨_, _, _, _, _, e, _⟩ := ck_get2 h3; cases e
      | shr x => obtain ⟨_, e, _⟩ := ck_shr h3; cases e
      | lnt j z =>
        obtain ⟨⟨w, src, tg, cs, y, vs, rfl⟩, h3⟩ := ck_lnt h3
        obtain ⟨elt', t, it, ifs, scope', pos', e, _⟩ := ck_comp h3
        cases e
        obtain ⟨_, wi, own, p1, p2, p3, p4, p5, p6, p7⟩ := comp_parts G h3
        have lx : X.env.scope.names.lookup x = some .local := by rw [G.sc]; exact eq_of_beq l1
        have p := ps_setLc (spos := pos) (pos := cpos) G.calm G.nd h1 lx (sw_true hk lx l2 (ng l3)) p1 p2 p3 p4 p5 p6
        exact PS.imp (PS.or p (ps_lock p)) fun D σ H h => p7 σ H _ (imp_lnt (st_set h))
      | mth m f es => obtain ⟨_, _, _, _, _, _, _, _, _, e, _⟩ := ck_mth h3; cases e
      | _ => unfold ck at h3; cases h3
    | _ => cases hl
theorem sound_par (G : Good cl cx T M W sc fb X k) (hk : X.env.scope.kind = .function) {is : List Nat} {es : Es} {ts vs : List Expr} {kt k2 : Nat} {pt p2 pos : Pos} (h1 : tgNames X.N sc fb is ts = true) (h2 : cks X.N M sc fb es vs = true) (h3 : (ts.length == vs.length) = true)
    (h4 : ((swN sc ts && !(vs.all (foldedForSure 8)) && !(vs.all (constantsAlone 8))) || unN sc ts vs) = true) : PS X (.Assign [.Tuple ts kt pt] (.Tuple vs k2 p2) pos) (tSt X.K cl cx W T (.par is es)) := by
  have pa := soundPs es G h2
  have pl := cks_all h2
  obtain ⟨t1, t2⟩ := and2 h1
  obtain ⟨g1, g2, g3⟩ := tgs_sound G is ts (beq_iff_eq.mp t1) t2
  have le := beq_iff_eq.mp h3
  rw [Bool.or_eq_true] at h4
  rcases h4 with h4 | h4
  · obtain ⟨s1, s2, s3⟩ := and3 h4
    rw [← G.sc] at s1
    unfold swN at s1
    split at s1
    · rename_i x px y py
      obtain ⟨a1, a2, a3, a4⟩ := and4 s1
      match vs, is, le, t1 with
      | [v, w], [i, j], _, _ =>
        simp only [List.zip_cons_cons, List.zip_nil_right, List.all_cons, List.all_nil, Bool.and_true, Bool.and_eq_true, decide_eq_true_eq] at t2
        have n1 : X.N[i]? = some x := t2.1.1
        have n2 : X.N[j]? = some y := t2.2.1
        have ne : x ≠ y := of_decide_eq_true a4
        have ij : i ≠ j := fun z => ne (by rw [z, n2] at n1; exact (Option.some.inj n1).symm)
        have p1 : plainX v = true := (and2 pl).1
        have p2 : plainX w = true := (and2 (and2 pl).2).1
        refine PS.imp (ps_par G.calm G.nd n1 n2 ij (loc_of a1) (loc_of a2) pa (sw_yes2 hk a1 a2 a3 ne p1 p2 (ng s2) (ng s3)) (sole_tup rfl)) fun D σ H h => ?_
        refine st_parN h fun vs H1 l _ q => ?_
        match vs, l with
        | [v1, v2], _ => exact ⟨v1, v2, rfl, q H1 (Ext.refl _)⟩
    · rename_i x px y py z pz
      obtain ⟨a0, a8⟩ := and2 s1
      obtain ⟨a0, a7⟩ := and2 a0
      obtain ⟨a0, a6⟩ := and2 a0
      obtain ⟨a0, a5⟩ := and2 a0
      obtain ⟨a1, a2, a3, a4⟩ := and4 a0
      match vs, is, le, t1 with
      | [u, v, w], [i, j, l], _, _ =>
        simp only [List.zip_cons_cons, List.zip_nil_right, List.all_cons, List.all_nil, Bool.and_true, Bool.and_eq_true, decide_eq_true_eq] at t2
        have n1 : X.N[i]? = some x := t2.1.1
        have n2 : X.N[j]? = some y := t2.2.1.1
        have n3 : X.N[l]? = some z := t2.2.2.1
        have e1 : x ≠ y := of_decide_eq_true a6
        have e2 : x ≠ z := of_decide_eq_true a7
        have e3 : y ≠ z := of_decide_eq_true a8
        have ij : i ≠ j := fun q => e1 (by rw [q, n2] at n1; exact (Option.some.inj n1).symm)
        have il : i ≠ l := fun q => e2 (by rw [q, n3] at n1; exact (Option.some.inj n1).symm)
        have jl : j ≠ l := fun q => e3 (by rw [q, n3] at n2; exact (Option.some.inj n2).symm)
        have p1 : plainX u = true := (and2 pl).1
        have p2 : plainX v = true := (and2 (and2 pl).2).1
        have p3 : plainX w = true := (and2 (and2 (and2 pl).2).2).1
        refine PS.imp (ps_par3 G.calm G.nd n1 n2 n3 ij il jl (loc_of a1) (loc_of a2) (loc_of a3) pa (sw_yes3 hk a1 a2 a3 a4 a5 e1 e2 e3 p1 p2 p3 (ng s2) (ng s3)) (sole_tup rfl)) fun D σ H h => ?_
        refine st_parN h fun vs H1 l _ q => ?_
        match vs, l with
        | [v1, v2, v3], _ => exact ⟨v1, v2, v3, rfl, q H1 (Ext.refl _)⟩
    · cases s1
  · rw [← G.sc] at h4
    refine PS.imp (ps_asg (pe_tup pa) (pg_tup G.calm g1 g2 g3) (sole_tup rfl) (sw_un pl h4) rfl) fun D σ H h => ?_
    refine st_parN h fun vs H1 l l16 q => ⟨by rw [line_eq]; exact l16, fun p hp => ?_⟩
    exact ⟨p, vs, rfl, .inl (.inl upd_same), l, tgN_set l (q _ (Ext.new hp))⟩
section
variable {N : List Str} {t : Stmt}
theorem cs_asg {s : S} (hs : match s with
    | .set _ _ => true | .mv _ _ => true | .unp _ _ => true | .par _ _ => true | .stl _ _ => true | .sti _ _ _ => true | .sta _ _ _ _ => true | .stf _ _ _ _ => true
    | _ => false) (h : ckS N M sc fb s t = true) : ∃ tg a pos, t = .Assign [tg] a pos := by
  unfold ckS at h
  split at h <;> first
    | exact ⟨_, _, _, rfl⟩
    | exact (Bool.false_ne_true hs).elim
    | exact (Bool.false_ne_true h).elim
theorem cs_set {i : Nat} {e : E} (h : ckS N M sc fb (.set i e) t = true) : ∃ x p a pos, t = .Assign [.Name x p] a pos ∧ N[i]? = some x ∧ locB sc fb x = true ∧ ck N M sc fb e a = true ∧ (!(isLc a) || lcSwap sc x p.line a || !(isLocal sc x)) = true := by
  obtain ⟨tg, a, pos, rfl⟩ := cs_asg rfl h
  cases tg with
  | Name x p =>
    unfold ckS at h
    obtain ⟨h1, h2, h3, h4⟩ := and4 h
    exact ⟨x, p, a, pos, rfl, of_decide_eq_true h1, h2, h3, h4⟩
  | _ => unfold ckS at h; cases h
theorem cs_mv {i j : Nat} (h : ckS N M sc fb (.mv i j) t = true) : ∃ x p y p2 pos, t = .Assign [.Name x p] (.Name y p2) pos ∧ N[i]? = some x ∧ locB sc fb x = true ∧ N[j]? = some y ∧ visB sc y = true ∧ okN y = true := by
  obtain ⟨tg, a, pos, rfl⟩ := cs_asg rfl h
  cases tg with
  | Name x p =>
    cases a with
    | Name y p2 =>
      unfold ckS at h
      obtain ⟨h, h5⟩ := and2 h
      obtain ⟨h1, h2, h3, h4⟩ := and4 h
      exact ⟨x, p, y, p2, pos, rfl, of_decide_eq_true h1, h2, of_decide_eq_true h3, h4, h5⟩
    | _ => unfold ckS at h; cases h
  | _ => unfold ckS at h; cases h
theorem cs_unp {is : List Nat} {e : E} (h : ckS N M sc fb (.unp is e) t = true) : ∃ ts kt p a pos, t = .Assign [.Tuple ts kt p] a pos ∧ tgNames N sc fb is ts = true ∧ ck N M sc fb e a = true ∧ noTupE a = true := by
  obtain ⟨tg, a, pos, rfl⟩ := cs_asg rfl h
  cases tg with
  | Tuple ts kt p =>
    unfold ckS at h
    obtain ⟨h1, h2, h3⟩ := and3 h
    exact ⟨ts, kt, p, a, pos, rfl, h1, h2, h3⟩
  | _ => unfold ckS at h; cases h
theorem cs_par {is : List Nat} {es : Es} (h : ckS N M sc fb (.par is es) t = true) : ∃ ts kt p vs k2 p2 pos, t = .Assign [.Tuple ts kt p] (.Tuple vs k2 p2) pos ∧ tgNames N sc fb is ts = true ∧ cks N M sc fb es vs = true ∧ (ts.length == vs.length) = true ∧
    ((swN sc ts && !(vs.all (foldedForSure 8)) && !(vs.all (constantsAlone 8))) || unN sc ts vs) = true := by
  obtain ⟨tg, a, pos, rfl⟩ := cs_asg rfl h
  cases tg with
  | Tuple ts kt p =>
    cases a with
    | Tuple vs k2 p2 =>
      unfold ckS at h
      obtain ⟨h1, h2, h3, h4⟩ := and4 h
      exact ⟨ts, kt, p, vs, k2, p2, pos, rfl, h1, h2, h3, h4⟩
    | _ => unfold ckS at h; cases h
  | _ => unfold ckS at h; cases h
theorem cs_stl {i : Nat} {es : Es} (h : ckS N M sc fb (.stl i es) t = true) : ∃ x p as p2 pos, t = .Assign [.Name x p] (.List as p2) pos ∧ N[i]? = some x ∧ locB sc fb x = true ∧ cks N M sc fb es as = true := by
  obtain ⟨tg, a, pos, rfl⟩ := cs_asg rfl h
  cases tg with
  | Name x p =>
    cases a with
    | List as p2 =>
      unfold ckS at h
      obtain ⟨h1, h2, h3⟩ := and3 h
      exact ⟨x, p, as, p2, pos, rfl, of_decide_eq_true h1, h2, h3⟩
    | _ => unfold ckS at h; cases h
  | _ => unfold ckS at h; cases h
theorem cs_sti {i : Nat} {y e : E} (h : ckS N M sc fb (.sti i y e) t = true) : ∃ x p b p2 a pos, t = .Assign [.Subscript (.Name x p) b p2] a pos ∧ N[i]? = some x ∧ visB sc x = true ∧ okN x = true ∧ ck N M sc fb y b = true ∧ ck N M sc fb e a = true := by
  obtain ⟨tg, a, pos, rfl⟩ := cs_asg rfl h
  cases tg with
  | Subscript o b p2 =>
    cases o with
    | Name x p =>
      unfold ckS at h
      obtain ⟨h, h5⟩ := and2 h
      obtain ⟨h1, h2, h3, h4⟩ := and4 h
      exact ⟨x, p, b, p2, a, pos, rfl, of_decide_eq_true h1, h2, h3, h4, h5⟩
    | _ => unfold ckS at h; cases h
  | _ => unfold ckS at h; cases h
theorem cs_sta {i : Nat} {f : Str} {sh : Bool} {e : E} (h : ckS N M sc fb (.sta i f sh e) t = true) : ∃ x p p2 a pos, t = .Assign [.Attribute (.Name x p) f p2] a pos ∧ f ∈ M.flds ∧ N[i]? = some x ∧ visB sc x = true ∧ okN x = true ∧ ck N M sc fb e a = true := by
  obtain ⟨tg, a, pos, rfl⟩ := cs_asg rfl h
  cases tg with
  | Attribute o g p2 =>
    cases o with
    | Name x p =>
      unfold ckS at h
      obtain ⟨h, h6⟩ := and2 h
      obtain ⟨h, h5⟩ := and2 h
      obtain ⟨h1, h2, h3, h4⟩ := and4 h
      cases of_decide_eq_true h1
      exact ⟨x, p, p2, a, pos, rfl, of_decide_eq_true h2, of_decide_eq_true h3, h4, h5, h6⟩
    | _ => unfold ckS at h; cases h
  | _ => unfold ckS at h; cases h
theorem cs_stf {i : Nat} {f : Str} {y e : E} (h : ckS N M sc fb (.stf i f y e) t = true) : ∃ x p p1 b p2 a pos, t = .Assign [.Subscript (.Attribute (.Name x p) f p1) b p2] a pos ∧ f ∈ M.flds ∧ N[i]? = some x ∧ visB sc x = true ∧ okN x = true ∧ ck N M sc fb y b = true ∧ ck N M sc fb e a = true := by
  obtain ⟨tg, a, pos, rfl⟩ := cs_asg rfl h
  cases tg with
  | Subscript o b p2 =>
    cases o with
    | Attribute o2 g p1 =>
      cases o2 with
      | Name x p =>
        unfold ckS at h
        obtain ⟨h, h7⟩ := and2 h
        obtain ⟨h, h6⟩ := and2 h
        obtain ⟨h, h5⟩ := and2 h
        obtain ⟨h1, h2, h3, h4⟩ := and4 h
        cases of_decide_eq_true h1
        exact ⟨x, p, p1, b, p2, a, pos, rfl, of_decide_eq_true h2, of_decide_eq_true h3, h4, h5, h6, h7⟩
      | _ => unfold ckS at h; cases h
    | _ => unfold ckS at h; cases h
  | _ => unfold ckS at h; cases h
theorem cs_exp {e : E} (h : ckS N M sc fb (.exp e) t = true) : ∃ a pos, t = .Expr a pos ∧ ck N M sc fb e a = true ∧ isLc a = false := by
  cases t with
  | Expr a pos => unfold ckS at h; exact ⟨a, pos, rfl, (and2 h).1, ng (and2 h).2⟩
  | _ => unfold ckS at h; cases h
theorem cs_ret {e : E} (h : ckS N M sc fb (.ret e) t = true) : ∃ a pos, t = .Return (some a) pos ∧ ck N M sc fb e a = true := by
  cases t with
  | Return a pos =>
    cases a with
    | none => unfold ckS at h; cases h
    | some a => unfold ckS at h; exact ⟨a, pos, rfl, h⟩
  | _ => unfold ckS at h; cases h
theorem raN_ok {x : Str} (h : raN t = some x) : ∃ p m j p2 pos pos', t = .Raise (some (.Call (.Name x p) [.Constant (.str m) j p2] [] pos)) none pos' := by
  unfold raN at h
  split at h
  · cases h; exact ⟨_, _, _, _, _, _, rfl⟩
  · cases h
theorem trN_ok {a : Expr} {hds : List ExceptHandler} (h : trN t = some (a, hds)) : ∃ rp pos, t = .Try [.Return (some a) rp] hds [] [] pos := by
  unfold trN at h
  split at h
  · cases h; exact ⟨_, _, rfl⟩
  · cases h
theorem cs_rai {c : Nat} (h : ckS N M sc fb (.rai c) t = true) : ∃ x p m j p2 pos pos', t = .Raise (some (.Call (.Name x p) [.Constant (.str m) j p2] [] pos)) none pos' ∧ M.exs[c]? = some x ∧ glB sc x = true ∧ okN x = true := by
  unfold ckS at h
  cases e : raN t with
  | none => rw [e] at h; cases h
  | some x =>
    rw [e] at h
    obtain ⟨h1, h2, h3⟩ := and3 h
    obtain ⟨p, m, j, p2, pos, pos', rfl⟩ := raN_ok e
    exact ⟨x, p, m, j, p2, pos, pos', rfl, of_decide_eq_true h1, h2, h3⟩
theorem cs_tryr {e : E} {hs : List (Nat × D)} (h : ckS N M sc fb (.tryr e hs) t = true) : ∃ a rp hds pos, t = .Try [.Return (some a) rp] hds [] [] pos ∧ ck N M sc fb e a = true ∧ hds ≠ [] ∧ ckH M sc hs hds = true := by
  unfold ckS at h
  cases e : trN t with
  | none => rw [e] at h; cases h
  | some q =>
    obtain ⟨a, hds⟩ := q
    rw [e] at h
    obtain ⟨h1, h2, h3⟩ := and3 h
    obtain ⟨rp, pos, rfl⟩ := trN_ok e
    exact ⟨a, rp, hds, pos, rfl, h1, (fun z => by rw [z] at h2; cases h2), h3⟩
theorem tyN2_ok {a : Expr} {hds : List ExceptHandler} (h : tyN2 t = some (a, hds)) : ∃ rp pos, t = .Try [.Expr a rp] hds [] [] pos := by
  unfold tyN2 at h
  split at h
  · cases h; exact ⟨_, _, rfl⟩
  · cases h
theorem cs_trye {e : E} {hs : List (Nat × D)} (h : ckS N M sc fb (.trye e hs) t = true) : ∃ a rp hds pos, t = .Try [.Expr a rp] hds [] [] pos ∧ ck N M sc fb e a = true ∧ isLc a = false ∧ hds ≠ [] ∧ ckH M sc hs hds = true := by
  unfold ckS at h
  cases e : tyN2 t with
  | none => rw [e] at h; cases h
  | some q =>
    obtain ⟨a, hds⟩ := q
    rw [e] at h
    obtain ⟨h1, h4, h2, h3⟩ := and4 h
    obtain ⟨rp, pos, rfl⟩ := tyN2_ok e
    exact ⟨a, rp, hds, pos, rfl, h1, ng h4, (fun z => by rw [z] at h2; cases h2), h3⟩
theorem cs_ret0 (h : ckS N M sc fb .ret0 t = true) : ∃ pos, t = .Return none pos := by
  cases t with
  | Return a pos =>
    cases a with
    | none => exact ⟨pos, rfl⟩
    | some a => unfold ckS at h; cases h
  | _ => unfold ckS at h; cases h
theorem cs_pass (h : ckS N M sc fb .pass t = true) : ∃ pos, t = .Pass pos := by
  cases t with
  | Pass pos => exact ⟨pos, rfl⟩
  | _ => unfold ckS at h; cases h
theorem cs_cont (h : ckS N M sc fb .cont t = true) : ∃ pos, t = .Continue pos := by
  cases t with
  | Continue pos => exact ⟨pos, rfl⟩
  | _ => unfold ckS at h; cases h
theorem cs_brk (h : ckS N M sc fb .brk t = true) : ∃ pos, t = .Break pos := by
  cases t with
  | Break pos => exact ⟨pos, rfl⟩
  | _ => unfold ckS at h; cases h
theorem cs_iff {c : E} {a b : Ss} (h : ckS N M sc fb (.iff c a b) t = true) : ∃ c' a' b' pos, t = .If c' a' b' pos ∧ notIf c = true ∧ ck N M sc fb c c' = true ∧ ckSs N M sc fb a a' = true ∧ ckSs N M sc fb b b' = true := by
  cases t with
  | If c' a' b' pos =>
    unfold ckS at h
    obtain ⟨h1, h2, h3, h4⟩ := and4 h
    exact ⟨c', a', b', pos, rfl, h1, h2, h3, h4⟩
  | _ => unfold ckS at h; cases h
theorem cs_whl {n : Nat} {c : E} {b : Ss} (h : ckS N M sc fb (.whl n c b) t = true) : ∃ c' b' pos, t = .While c' b' [] pos ∧ notIf c = true ∧ ck N M sc fb c c' = true ∧ ckSs N M sc fb b b' = true := by
  cases t with
  | While c' b' els pos =>
    cases els with
    | cons _ _ => unfold ckS at h; cases h
    | nil =>
      unfold ckS at h
      obtain ⟨h1, h2, h3⟩ := and3 h
      exact ⟨c', b', pos, rfl, h1, h2, h3⟩
  | _ => unfold ckS at h; cases h
theorem cs_loop {w : Wk} {tg : Tg} {src : Es} {b : Ss} (h : ckS N M sc fb (.loop w tg src b) t = true) : ∃ t' it b' pos, t = .For t' it b' [] pos ∧ ckTg N sc fb tg t' = true ∧ ((w = .seq ∧ cks N M sc fb src [it] = true) ∨
      (w = .rng ∧ ∃ p c as p2, it = .Call (.Name "range" p) (c :: as) [] p2 ∧ glB sc "range" = true ∧ cks N M sc fb src (c :: as) = true ∧ (c :: as).length ≤ 2) ∨
      (w = .dwn ∧ ∃ p a1 a2 a3 p2, it = .Call (.Name "range" p) [a1, a2, a3] [] p2 ∧ glB sc "range" = true ∧ cks N M sc fb src [a1, a2, a3] = true) ∨
      (w = .zip ∧ ∃ p a1 a2 p2 elts kk tpos, it = .Call (.Name "zip" p) [a1, a2] [] p2 ∧ t' = .Tuple elts kk tpos ∧ glB sc "zip" = true ∧ cks N M sc fb src [a1, a2] = true)) ∧ ckSs N M sc fb b b' = true := by
  cases t with
  | For t' it b' els pos =>
    cases els with
    | cons _ _ => unfold ckS at h; cases h
    | nil =>
      unfold ckS at h
      obtain ⟨h1, h2, h3⟩ := and3 h
      refine ⟨t', it, b', pos, rfl, h1, ?_, h3⟩
      cases w with
      | seq => exact .inl ⟨rfl, h2⟩
      | dwn =>
        refine .inr (.inr (.inl ⟨rfl, ?_⟩))
        split at h2
        · cases ‹Wk.dwn = Wk.seq›
        · cases ‹Wk.dwn = Wk.rng›
        · rename_i x p as p2 _
          obtain ⟨a1, a2, a3, a4⟩ := and4 h2
          have e : x = "range" := of_decide_eq_true a1
          subst e
          have l := of_decide_eq_true a4
          match as, l with
          | [b1, b2, b3], _ => exact ⟨p, b1, b2, b3, p2, rfl, a2, a3⟩
        · cases ‹Wk.dwn = Wk.zip›
        · cases h2
      | rng =>
        refine .inr (.inl ⟨rfl, ?_⟩)
        split at h2
        · cases ‹Wk.rng = Wk.seq›
        · rename_i x p as p2 _
          obtain ⟨h2, h6⟩ := and2 h2
          obtain ⟨a1, a2, a3, a4⟩ := and4 h2
          have e : x = "range" := of_decide_eq_true a1
          subst e
          cases as with
          | nil => cases a4
          | cons c as => exact ⟨p, c, as, p2, rfl, a2, a3, of_decide_eq_true h6⟩
        · cases ‹Wk.rng = Wk.dwn›
        · cases ‹Wk.rng = Wk.zip›
        · cases h2
      | zip =>
        refine .inr (.inr (.inr ⟨rfl, ?_⟩))
        split at h2
        · cases ‹Wk.zip = Wk.seq›
        · cases ‹Wk.zip = Wk.rng›
        · cases ‹Wk.zip = Wk.dwn›
        · rename_i x p a1 a2 p2 _
          obtain ⟨b1, b2, b3, b4⟩ := and4 h2
          have e : x = "zip" := of_decide_eq_true b1
          subst e
          cases t' with
          | Tuple elts kk tpos => exact ⟨p, a1, a2, p2, elts, kk, tpos, rfl, rfl, b2, b3⟩
          | _ => cases b4
        · cases h2
      | enu => simp at h2
      | items => simp at h2
  | _ => unfold ckS at h; cases h
end
/-- where a statement stands -/
structure StX (X : Cx) : Prop where
  kind : X.env.scope.kind = .function
  stk : X.stack = X.env :: X.outer
  frm : X.env.frame = some X.env.locals
theorem StX.nox {X : Cx} (h : StX X) : StX X.nox := ⟨h.kind, h.stk, h.frm⟩
/-- within a try -/
theorem Good.try (G : Good cl cx T M W sc fb X k) {W2 : XK} {pn : List (Addr × Obj)} {xe : Value → Shared → Prop} (tk : Takes (X.tr pn xe) (fun cls d _ H => W2 cls d H)) : Good cl cx T M W2 sc fb (X.tr pn xe) k where
  calm := G.calm
  nd := G.nd
  sc := G.sc
  fb := G.fb
  rm := G.rm
  rm3 := G.rm3
  aks := G.aks
  pas := passes_call tk fun cls d σ H h => h
  tk := tk
  exs := G.exs
  exm := G.exm
  fns := G.fns
  gls := G.gls
  blt := G.blt
  rng := G.rng
  zip := G.zip
  enu := G.enu
  fre := G.fre
  tab := fun h => by
    obtain ⟨c, t, q⟩ := G.tab h
    exact ⟨c, t, ⟨q.b, q.code, q.mem, q.uni⟩⟩
  clc := G.clc
  nat := G.nat
  mts := G.mts
  mks := G.mks
theorem hds_ok (G : Good cl cx T M W sc fb X k) {hs : List (Nat × D)} {hds : List ExceptHandler} (h : ckH M sc hs hds = true) : HdsOk X hds (hdL cx hs) ∧ (∀ q ∈ hs, (∃ x, M.exs[q.1]? = some x) ∧ ∀ (K : PySem.W.Frag) A H, Rep K cl A H q.2 (vC q.2)) := hdx_ok G.sc G.exs h
theorem shr_fp {K : PySem.W.Frag} {P : Px} {fp : Fp} {σ : Sg} {σV : L2.St} {H : Hp} (R : Rel K cl P fp σ σV H) (h : shrA σ = true) : ∀ a, ¬ ownS fp a := fun a ⟨i, z⟩ => by
  have s := R.sl i
  have q : ∀ x, σ.at i = some x → (match (some x : Sl) with
      | some (.own, _) => false
      | some (.ino, _) => false
      | _ => true) = true := fun x e => by
    unfold Sg.at at e
    cases e2 : σ[i]? with
    | none => rw [e2] at e; cases e
    | some y =>
      rw [e2] at e
      have e : y = some x := e
      have := List.all_eq_true.mp h y (List.mem_of_getElem? e2)
      rw [e] at this
      exact this
  generalize hx : σ.at i = x at s q
  generalize (σV[i]?).join = y at s
  cases s with
  | none n => rw [n] at z; cases z
  | dat r n => rw [n] at z; cases z
  | own c => exact nomatch q _ rfl
  | ino c n => exact nomatch q _ rfl
  | brw c f n => rw [n] at z; cases z
theorem wm_ok {K : PySem.W.Frag} {hs : List (Nat × D)} {Dn : Ends} {H' : Hp} {od : Option Addr} {σ' : L2.St} {c : Nat} {q : Nat × D} (hm : ∀ q ∈ hs, ∀ q' ∈ hs, PySem.W.exmOne K (.ref (cx q.1)) (.ref (cx q'.1)) = some (decide (q.1 = q'.1)))
    (hf : (hs.find? fun q => decide (q.1 = c)) = some q) (fin : Dn.rt (vC q.2) H') : wMany K (fun cls d _ H => W cls d H) Dn (hdL cx hs) (.ref (cx c)) od σ' H' := by
  have hq : q.1 = c := by
    have := List.find?_some hf
    exact of_decide_eq_true this
  have qm := List.mem_of_find?_eq_some hf
  rw [← hq]
  have go : ∀ l : List (Nat × D), (∀ z ∈ l, z ∈ hs) → (l.find? fun z => decide (z.1 = c)) = some q → wMany K (fun cls d _ H => W cls d H) Dn (hdL cx l) (.ref (cx q.1)) od σ' H' := by
    intro l
    induction l with
    | nil => intro _ z; cases z
    | cons z l ih =>
      intro hl hz
      refine ⟨_, hm q qm z (hl z List.mem_cons_self), fun hb a _ => ?_, fun hb => ?_⟩
      · have hb := of_decide_eq_true hb
        rw [List.find?_cons, decide_eq_true (by rw [← hb, hq])] at hz
        cases hz
        exact fin
      · have hb := of_decide_eq_false hb
        rw [List.find?_cons, decide_eq_false (fun e => hb (by rw [hq, e]))] at hz
        exact ih (fun u hu => hl u (List.mem_cons_of_mem _ hu)) hz
  exact go hs (fun _ h => h) hf
theorem st_tryr {K : PySem.W.Frag} {e : E} {hs : List (Nat × D)} {Dn : Ends} {σV : L2.St} {H : Hp} (hr : ∀ q ∈ hs, ∀ A H, Rep K cl A H q.2 (vC q.2)) (hm : ∀ q ∈ hs, ∀ q' ∈ hs, PySem.W.exmOne K (.ref (cx q.1)) (.ref (cx q'.1)) = some (decide (q.1 = q'.1)))
    (h : tSt K cl cx W T (.tryr e hs) Dn σV H) : tE cl cx T (fun cls d H => ∀ σ' : L2.St, wMany K (fun cls d _ H => W cls d H) Dn (hdL cx hs) cls d σ' H) K e σV H (fun v H' => Dn.rt v H') := by
  obtain ⟨P, fp, σ, R, h⟩ := h
  rw [exec] at h
  obtain ⟨g, h⟩ := h.grd
  refine ⟨P, fp, σ, R, ?_⟩
  have nO := shr_fp R g
  cases hm2 : ev T e σ with
  | bad => rw [hm2] at h; exact (show False from h).elim
  | ok p =>
    obtain ⟨x, σ1⟩ := p
    rw [hm2] at h
    have h : PostS K cl cx W P (guard (x.1 != .brw && x.1 != .ino) >>= fun _ => .ok (.rt x, σ1)) Dn := h
    obtain ⟨g2, h⟩ := h.grd
    intro fp1 v1 H1 R1 s1 f1 i1 r1
    refine h _ _ _ _ R1 ?_
    cases r1 with
    | rs r => exact r
    | brw _ _ => cases g2
    | ino _ _ => cases g2
  | exc y =>
    rw [hm2] at h
    intro od H' ex fr _ σ'
    have t : Ext H H' := ⟨fun b o q n => fr.keep b o q n (nO b), fun b q => fr.there b q (nO b), fr.tabs⟩
    have h : PostS K cl cx W P (match hs.find? fun q => decide (q.1 = y.c) with
      | some q => .ok (.rt (.dat, q.2), σ)
      | none => .bad) Dn := h
    cases hf : hs.find? fun q => decide (q.1 = y.c) with
    | none => rw [hf] at h; exact (show False from h).elim
    | some q =>
      rw [hf] at h
      exact wm_ok hm hf (h fp σV H' (vC q.2) (R.ext t) (show Rep K cl _ H' q.2 (vC q.2) from hr q (List.mem_of_find?_eq_some hf) _ _))
theorem st_trye {K : PySem.W.Frag} {e : E} {hs : List (Nat × D)} {Dn : Ends} {σV : L2.St} {H : Hp} (hr : ∀ q ∈ hs, ∀ A H, Rep K cl A H q.2 (vC q.2)) (hm : ∀ q ∈ hs, ∀ q' ∈ hs, PySem.W.exmOne K (.ref (cx q.1)) (.ref (cx q'.1)) = some (decide (q.1 = q'.1)))
    (h : tSt K cl cx W T (.trye e hs) Dn σV H) : tE cl cx T (fun cls d H => ∀ σ' : L2.St, wMany K (fun cls d _ H => W cls d H) Dn (hdL cx hs) cls d σ' H) K e σV H (fun _ H' => Dn.nx σV H') := by
  obtain ⟨P, fp, σ, R, h⟩ := h
  rw [exec] at h
  obtain ⟨g, h⟩ := h.grd
  have g := ng g
  refine ⟨P, fp, σ, R, ?_⟩
  cases hm2 : ev T e σ with
  | bad => rw [hm2] at h; exact (show False from h).elim
  | ok p =>
    rw [hm2] at h
    intro fp1 v1 H1 R1 s1 f1 i1 r1
    obtain ⟨_, _, t⟩ := i1 g
    exact h fp σV H1 (R.ext t)
  | exc y =>
    rw [hm2] at h
    intro od H' ex fr t0 σ'
    have t := t0 g
    have h : PostS K cl cx W P (match hs.find? fun q => decide (q.1 = y.c) with
      | some q => .ok (.rt (.dat, q.2), σ)
      | none => .bad) Dn := h
    cases hf : hs.find? fun q => decide (q.1 = y.c) with
    | none => rw [hf] at h; exact (show False from h).elim
    | some q =>
      rw [hf] at h
      exact wm_ok hm hf (h fp σV H' (vC q.2) (R.ext t) (show Rep K cl _ H' q.2 (vC q.2) from hr q (List.mem_of_find?_eq_some hf) _ _))
theorem fz_post {K : PySem.W.Frag} {P : Px} {Dn : Ends} {i : Nat} {rr : R (Fw × Sg)} (h : PostS K cl cx W P (rr >>= giveS i) Dn) : PostS K cl cx W P rr Dn := by
  cases rr with
  | bad => exact h
  | exc y => exact h
  | ok p =>
    obtain ⟨w, σ⟩ := p
    cases w with
    | ct => exact h
    | bk => exact h
    | rt x => exact h
    | nx =>
      intro fp σV H R
      have h : PostS K cl cx W P (match σ.at i with
        | some (.own, d) => .ok (.nx, σ.set i (some (.dat, d)))
        | _ => .ok (.nx, σ)) Dn := h
      have s := R.at i
      generalize hx : σ.at i = x at s h
      generalize hy : vAt σV i = y at s
      cases s with
      | none n => exact h _ _ _ R
      | dat r n => exact h _ _ _ R
      | ino c n => exact h _ _ _ R
      | brw c f n => exact h _ _ _ R
      | own c =>
        have e0 : clr fp i i = [] := if_pos rfl
        have rp := c.rep (A' := avS P (clr fp i)) (Mv.less fun a z => sub_av (clr_sub fp i) a z) fun a ha z => by
          rcases z with z | ⟨j, z⟩
          · exact R.noX i a ha z
          · unfold clr at z
            split at z
            · cases z
            · rename_i n; exact n (R.dis j i a z ha)
        exact h (clr fp i) σV H (R.upd1 (clr_sub fp i) (fun j n => if_neg n) (by rw [hy]; exact .dat rp e0))
theorem own_never {X : Cx} : PassesOwn (model X.prog X.w) X.A X.nox.env X.nox.xe := PassesOwn.never
mutual
theorem soundSt : ∀ (s : S) {W : XK} {sc : Scope} {fb : Str → Bool} {X : Cx}, Good cl cx T M W sc fb X k → StX X → ∀ {t : Stmt}, ckS X.N M sc fb s t = true → PS X t (tSt X.K cl cx W T s)
  | .nev, _, _, _, _, G, hk, _, h => PS.imp ps_never fun D σ H ⟨P, fp, σ', R, q⟩ => by rw [exec] at q; exact q
  | .pass, _, _, _, _, G, hk, _, h => by
    obtain ⟨pos, rfl⟩ := cs_pass h
    exact PS.imp ps_pass fun D σ H ⟨P, fp, σ', R, q⟩ => by rw [exec] at q; exact q _ _ _ R
  | .cont, _, _, _, _, G, hk, _, h => by
    obtain ⟨pos, rfl⟩ := cs_cont h
    exact PS.imp ps_continue fun D σ H ⟨P, fp, σ', R, q⟩ => by rw [exec] at q; exact q _ _ _ R
  | .brk, _, _, _, _, G, hk, _, h => by
    obtain ⟨pos, rfl⟩ := cs_brk h
    exact PS.imp ps_break fun D σ H ⟨P, fp, σ', R, q⟩ => by rw [exec] at q; exact q _ _ _ R
  | .set i e, _, _, _, _, G, hk, _, h => by
    obtain ⟨x, p, a, pos, rfl, h1, h2, h3, h4⟩ := cs_set h
    exact sound_set G hk.kind h1 h2 h3 h4
  | .mv i j, _, _, _, _, G, hk, _, h => by
    obtain ⟨x, p, y, p2, pos, rfl, h1, h2, h3, h4, h5⟩ := cs_mv h
    obtain ⟨q1, q2⟩ := G.loc h2
    exact PS.imp (ps_set G.nd h1 q1 (pe_var (pos := p2) h3 (G.vis h4) (okN_iff h5).1 (okN_iff h5).2.1) rfl q2) fun D σ H h => st_mv h
  | .unp is e, _, _, _, _, G, hk, _, h => by
    obtain ⟨ts, kt, p, a, pos, rfl, h1, h2, h3⟩ := cs_unp h
    have hg := tg_sound G (tg := .tup is) (a := .Tuple ts kt p) h1
    exact PS.imp (ps_asg (soundE e G h2) hg (sole_tup (ck_plain h2)) (st_none h3) rfl) fun D σ H h => st_unp h
  | .par is es, _, _, _, _, G, hk, _, h => by
    obtain ⟨ts, kt, p, vs, k2, p2, pos, rfl, h1, h2, h3, h4⟩ := cs_par h
    exact sound_par G hk.kind h1 h2 h3 h4
  | .stl i es, _, _, _, _, G, hk, _, h => by
    obtain ⟨x, p, as, p2, pos, rfl, h1, h2, h3⟩ := cs_stl h
    obtain ⟨q1, q2⟩ := G.loc h2
    exact PS.imp (ps_set G.nd h1 q1 (pe_lst (soundS es G h3)) (sw_no rfl rfl) q2) fun D σ H h => st_stl h
  | .sti i y e, _, _, _, _, G, hk, _, h => by
    obtain ⟨x, p, b, p2, a, pos, rfl, h1, h2, h3, h4, h5⟩ := cs_sti h
    have hv := pe_var (pos := p) h1 (G.vis h2) (okN_iff h3).1 (okN_iff h3).2.1
    have pb := ck_plain h4
    have hg := pg_sub (pos := p2) hv (soundE y G h4) (set_sti (by have := G.units; omega)) (by intro _; cases b <;> first | rfl | exact (Bool.false_ne_true pb).elim)
    exact PS.imp (ps_asg (soundE e G h5) hg (sole_sub (ck_plain h5)) st_sub rfl) fun D σ H h => st_sti h
  | .sta i f sh e, _, _, _, _, G, hk, _, h => by
    obtain ⟨x, p, p2, a, pos, rfl, h1, h2, h3, h4, h5⟩ := cs_sta h
    have hv := pe_var (pos := p) h2 (G.vis h3) (okN_iff h4).1 (okN_iff h4).2.1
    exact PS.imp (ps_fld hv (soundE e G h5) (sw_attr (ck_plain h5))) fun D σ H h => st_sta G.clc (G.nat f h1) h
  | .stf i f y e, _, _, _, _, G, hk, _, h => by
    obtain ⟨x, p, p1, b, p2, a, pos, rfl, h1, h2, h3, h4, h5, h6⟩ := cs_stf h
    have hv := pe_var (pos := p) h2 (G.vis h3) (okN_iff h4).1 (okN_iff h4).2.1
    have pb := ck_plain h5
    have pf : PE _ (.Attribute (.Name x p) f p1) _ := pe_fld hv (by rfl)
    have hg := pg_sub (pos := p2) pf (soundE y G h5) (set_sti (by have := G.units; omega)) (by intro _; cases b <;> first | rfl | exact (Bool.false_ne_true pb).elim)
    exact PS.imp (ps_asg (soundE e G h6) hg (sole_sub (ck_plain h6)) st_sub rfl) fun D σ H h => st_stf G.clc (G.nat f h1) h
  | .exp e, _, _, _, _, G, hk, _, h => by
    obtain ⟨a, pos, rfl, h1, h2⟩ := cs_exp h
    exact PS.imp (ps_expr (soundE e G h1) (sw_no (ck_plain h1) h2)) fun D σ H h => st_exp h
  | .ret e, _, _, _, _, G, hk, _, h => by
    obtain ⟨a, pos, rfl, h1⟩ := cs_ret h
    exact PS.imp (ps_ret (soundE e G h1)) fun D σ H h => st_ret h
  | .ret0, _, _, _, _, G, hk, _, h => by
    obtain ⟨pos, rfl⟩ := cs_ret0 h
    exact PS.imp ps_retN fun D σ H h => st_ret0 h
  | .rai c, _, _, _, _, G, hk, _, h => by
    obtain ⟨x, p, m, j, p2, pos, pos', rfl, h1, h2, h3⟩ := cs_rai h
    have F := G.exs c x h1
    exact PS.imp (ps_raise G.calm G.tk (pmk_own PySem.F.excBase_ValueError F.exc F.mg F.kp (raises_own F.sub F.ty) (G.gl h2) (okN_iff h3).1)) fun D σ H ⟨P, fp, σ', R, q⟩ => by rw [exec] at q; exact q none H rfl R.fr0
  | .tryr e hs, _, _, _, X, G, hk, _, h => by
    obtain ⟨a, rp, hds, pos, rfl, h1, h2, h3⟩ := cs_tryr h
    obtain ⟨q1, q2⟩ := hds_ok G h3
    cases hds with
    | nil => exact absurd rfl h2
    | cons h0 hds =>
      refine PS.imp (ps_try_many (tb := fun W2 D σ H => tE cl cx T (fun cls d H => ∀ σ' : L2.St, W2 cls d σ' H) X.K e σ H fun v H' => D.rt v H') hk.stk hk.frm G.tk (fun W2 pn xe tk2 _ => ?_) q1) fun D σ H h => st_tryr (fun q hq => (q2 q hq).2 X.K) (fun q hq q' hq' => ?_) h
      · have tk3 : Takes (X.tr pn xe) (fun cls d _ H => ∀ σ' : L2.St, W2 cls d σ' H) := fun u s' z => tk2 u s' (by
          obtain ⟨a1, a2, a3, a4, a5, a6, a7, a8, a9, b1, b2, b3, b4, b5, b6, b7, w⟩ := z
          exact ⟨a1, a2, a3, a4, a5, a6, a7, a8, a9, b1, b2, b3, b4, b5, b6, b7, w _⟩)
        exact PSs.imp (pss_cons (ps_ret (soundE e (G.try tk3) h1)) pss_nil) fun D σ H h => h
      · obtain ⟨x, e1⟩ := (q2 q hq).1
        obtain ⟨x', e2⟩ := (q2 q' hq').1
        exact G.exm _ _ _ _ e1 e2
  | .trye e hs, _, _, _, X, G, hk, _, h => by
    obtain ⟨a, rp, hds, pos, rfl, h1, h0, h2, h3⟩ := cs_trye h
    obtain ⟨q1, q2⟩ := hds_ok G h3
    cases hds with
    | nil => exact absurd rfl h2
    | cons hd hds =>
      refine PS.imp (ps_try_many (tb := fun W2 D σ H => tE cl cx T (fun cls d H => ∀ σ' : L2.St, W2 cls d σ' H) X.K e σ H fun _ H' => D.nx σ H') hk.stk hk.frm G.tk (fun W2 pn xe tk2 _ => ?_) q1) fun D σ H h => st_trye (fun q hq => (q2 q hq).2 X.K) (fun q hq q' hq' => ?_) h
      · have tk3 : Takes (X.tr pn xe) (fun cls d _ H => ∀ σ' : L2.St, W2 cls d σ' H) := fun u s' z => tk2 u s' (by
          obtain ⟨a1, a2, a3, a4, a5, a6, a7, a8, a9, b1, b2, b3, b4, b5, b6, b7, w⟩ := z
          exact ⟨a1, a2, a3, a4, a5, a6, a7, a8, a9, b1, b2, b3, b4, b5, b6, b7, w _⟩)
        exact PSs.imp (pss_cons (ps_expr (soundE e (G.try tk3) h1) (sw_no (ck_plain h1) h0)) pss_nil) fun D σ H h => h
      · obtain ⟨x, e1⟩ := (q2 q hq).1
        obtain ⟨x', e2⟩ := (q2 q' hq').1
        exact G.exm _ _ _ _ e1 e2
  | .fz i s, _, _, _, _, G, hk, _, h => by
    unfold ckS at h
    exact PS.imp (soundSt s G hk h) fun D σ H ⟨P, fp, σ', R, q⟩ => by
      rw [exec] at q
      exact ⟨P, fp, σ', R, fz_post q⟩
  | .iff c a b, _, _, _, _, G, hk, _, h => by
    obtain ⟨c', a', b', pos, rfl, h1, h2, h3, h4⟩ := cs_iff h
    exact PS.imp (ps_if (soundT c G h2 h1) (soundSs a G hk h3) (soundSs b G hk h4)) fun D σ H h => st_iff h
  | .whl n c b, _, _, _, _, G, hk, _, h => by
    obtain ⟨c', b', pos, rfl, h1, h2, h3⟩ := cs_whl h
    exact PS.imp (PS.nox (ps_while PassesOwn.never (soundT c G.nox h2 h1) (soundSs b G.nox hk.nox h3))) fun D σ H h => st_whl (tSt_e0 (fun σ => by rw [exec]; exact ⟨_, rfl⟩) h)
  | .loop w tg src b, _, _, _, X, G, hk, _, h => by
    obtain ⟨t, it, b', pos, rfl, h1, h2, h3⟩ := cs_loop h
    have hg := tg_sound G.nox h1
    have hb := soundSs b G.nox hk.nox h3
    rcases h2 with ⟨rfl, h2⟩ | ⟨rfl, p, c, as, p2, rfl, h4, h5, h6⟩ | ⟨rfl, p, a1, a2, a3, p2, rfl, h4, h5⟩ | ⟨rfl, p, a1, a2, p2, elts, kk, tpos, rfl, rfl, h4, h5⟩
    · cases src with
      | nil => cases h2
      | cons s r =>
        unfold cks at h2
        obtain ⟨h21, h9⟩ := and2 h2
        cases r with
        | cons _ _ => cases h9
        | nil =>
          have hs := soundE s G.nox h21
          have p := PS.nox (ps_for (pos := pos) PassesOwn.never G.calm (PI.or (PI.or (pi_list hs) (pi_tup hs)) (pi_keys (slot_pe G.nox _ h21))) hg hb (plain_set (ck_plain h21)))
          exact PS.imp (PS.or p (ps_lock p)) fun D σ H h => st_loop_seq G.clc (slot_nat G.nox h21) (tSt_e0 (fun σ => by rw [exec]; exact ⟨_, rfl⟩) h)
    · have hs := soundS src G.nox h5
      have pl := cks_plain h5
      cases as with
      | nil =>
        refine PS.imp (PS.nox (ps_for PassesOwn.never G.calm (pi_range1 (G.nox.gl h4) G.rng hs (star_cons pl)) hg hb (fun _ => rfl))) fun D σ H h => ?_
        refine tS_imp (st_loop_rng (tSt_e0 (fun σ => by rw [exec]; exact ⟨_, rfl⟩) h)) fun ws H1 len q => ?_
        rcases q with ⟨n, e, ⟨b1, b2⟩, q⟩ | ⟨a, b, e, _, q⟩
        · exact ⟨n, e, b1, b2, q⟩
        · rw [e, ioAt_len h5] at len; cases len
      | cons c2 as =>
        cases as with
        | nil =>
          have pl2 : plainX c2 = true := by
            cases src with
            | nil => cases h5
            | cons e r =>
              unfold cks at h5
              exact cks_plain (and2 h5).2
          refine PS.imp (PS.nox (ps_for PassesOwn.never G.calm (pi_range2 (G.nox.gl h4) G.rng hs (by rw [star_cons pl, star_cons pl2]; rfl) (by rw [star_cons pl2]; rfl)) hg hb (fun _ => rfl))) fun D σ H h => ?_
          refine tS_imp (st_loop_rng (tSt_e0 (fun σ => by rw [exec]; exact ⟨_, rfl⟩) h)) fun ws H1 len q => ?_
          rcases q with ⟨n, e, _, q⟩ | ⟨a, b, e, bd, q⟩
          · rw [e, ioAt_len h5] at len; cases len
          · exact ⟨a, b, e, bd, q⟩
        | cons _ _ => simp at h6
    · have hs := soundS src G.nox h5
      have al := cks_all h5
      have pl1 : plainX a1 = true := (and2 al).1
      have pl2 : plainX a2 = true := (and2 (and2 al).2).1
      have pl3 : plainX a3 = true := (and2 (and2 (and2 al).2).2).1
      exact PS.imp (PS.nox (ps_for PassesOwn.never G.calm (pi_range3 (G.nox.gl h4) G.rng hs (star_cons pl1) (by rw [star_cons pl2, star_cons pl3]; rfl)) hg hb (fun _ => rfl))) fun D σ H h => st_loop_dwn (tSt_e0 (fun σ => by rw [exec]; exact ⟨_, rfl⟩) h)
    · have hs := soundS src G.nox h5
      have al := cks_all h5
      have pl1 : plainX a1 = true := (and2 al).1
      have pl2 : plainX a2 = true := (and2 (and2 al).2).1
      exact PS.imp (PS.nox (ps_for PassesOwn.never G.calm (pi_zipB (G.nox.gl h4) G.zip hs (star_cons pl1) (by rw [star_cons pl2]; rfl)) hg hb (fun _ => rfl))) fun D σ H h => st_loop_zip (tSt_e0 (fun σ => by rw [exec]; exact ⟨_, rfl⟩) h)
theorem soundSs : ∀ (s : Ss) {W : XK} {sc : Scope} {fb : Str → Bool} {X : Cx}, Good cl cx T M W sc fb X k → StX X → ∀ {ts : List Stmt}, ckSs X.N M sc fb s ts = true → PSs X ts (tSts X.K cl cx W T s)
  | .nil, _, _, _, _, G, hk, ts, h => by
    cases ts with
    | nil => exact PSs.imp pss_nil fun D σ H h => sts_nil h
    | cons _ _ => cases h
  | .cons s r, _, _, _, _, G, hk, ts, h => by
    cases ts with
    | nil => cases h
    | cons t ts =>
      unfold ckSs at h
      obtain ⟨h1, h2⟩ := and2 h
      exact PSs.imp (pss_cons (soundSt s G hk h1) (soundSs r G hk h2)) fun D σ H h => sts_cons h
end
end
end DD
namespace DD
open L2 PyProof.Rows PySem PySem.Spec
variable [TabT]
/-- a def: its parameters' number, its slots' number, its body -/
structure Fn where
  a : Nat
  n : Nat
  b : Ss
def startD (n : Nat) (as : List (Fl × D)) : Sg := as.map some ++ List.replicate (n - as.length) none
/-- what is given back -/
def outD (σ : Sg) : Nat → List (Fl × D) → R (List D)
  | _, [] => .ok []
  | j, x :: xs => do
    let d ← (match x.1 with
      | .ino => (match σ.at j with
        | some (.ino, d) => if !isObj d then R.ok d else R.bad
        | _ => R.bad)
      | _ => R.ok D.non)
    let ds ← outD σ (j + 1) xs
    .ok (d :: ds)
def endD : Fw → R (Fl × D)
  | .nx => .ok (.dat, .non)
  | .rt x => .ok x
  | _ => .bad
def runF (T : Tb) (f : Fn) (as : List (Fl × D)) : R ((Fl × D) × List D) := do
  guard (decide (as.length = f.a))
  let (w, σ) ← execs T f.b (startD f.n as)
  let r ← endD w
  let outs ← outD σ 0 as
  .ok (r, outs)
/-- an __init__: the new instance at its slot 0 -/
def runI (T : Tb) (f : Fn) (c : Nat) (as : List (Fl × D)) : R D := do
  guard (decide (as.length + 1 = f.a))
  let (w, σ) ← execs T f.b (startD f.n ((.ino, .obj c []) :: as))
  let r ← endD w
  guard (match r with
    | (.dat, .non) => true
    | _ => false)
  match σ.at 0 with
  | some (.ino, d) => .ok d
  | _ => .bad
/-- of what is given back the first -/
def cutO (n : Nat) : R ((Fl × D) × List D) → R ((Fl × D) × List D)
  | .ok (r, outs) => .ok (r, outs.take n)
  | .exc y => .exc y
  | .bad => .bad
def datA (dl : List D) : List (Fl × D) := dl.map fun d => (.dat, d)
def isDatA (x : Fl × D) : Bool := match x.1 with
  | .dat => true
  | _ => false
/-- a def that is called with fewer arguments, or by names: which def; the data of those that lack; for each parameter the argument or the datum -/
inductive Vr where
  | df (f0 : Nat) (dl : List D)
  | kw (f0 n : Nat) (ks : List Str) (sel : List (Nat ⊕ Nat)) (dl : List D)
def Vr.f0 : Vr → Nat
  | .df f _ => f
  | .kw f _ _ _ _ => f
def selA {α : Type} (sel : List (Nat ⊕ Nat)) (xs ds : List α) (z : α) : List α := sel.map fun
  | .inl i => xs.getD i z
  | .inr j => ds.getD j z
def datO (as : List (Fl × D)) : R ((Fl × D) × List D) → R ((Fl × D) × List D)
  | .ok (r, _) => .ok (r, as.map (·.2))
  | .exc y => .exc y
  | .bad => .bad
def callV (C0 : List (Fl × D) → R ((Fl × D) × List D)) : Vr → List (Fl × D) → R ((Fl × D) × List D)
  | .df _ dl, as => cutO as.length (C0 (as ++ datA dl))
  | .kw _ _ _ sel dl, as => if as.all isDatA then datO as (C0 (selA sel as (datA dl) (.dat, .non))) else .bad
/-- the defs, by fuel; V: a def that is called with fewer arguments or by names -/
def callT (G : Nat → D) (F : Nat → Option Fn) (V : Nat → Option Vr) : Nat → Tb
  | 0 => ⟨G, fun _ _ => .bad, fun _ _ _ => .bad⟩
  | k + 1 => ⟨G, fun f as => match V f with
    | some v => (match F v.f0 with
      | some g => callV (runF (callT G F V k) g) v as
      | none => .bad)
    | none => match F f with
      | some g => runF (callT G F V k) g as
      | none => .bad, fun c f as => match F f with
    | some g => runI (callT G F V k) g c as
    | none => .bad⟩
section
variable {K : PySem.W.Frag} {cl cx : Nat → Addr} {P : Px} {H H' : Hp} {σ : Sg} {σV : L2.St} {fp : Fp}
theorem at_start {n : Nat} {as : List (Fl × D)} {i : Nat} : (startD n as).at i = as[i]? := by
  unfold Sg.at startD
  by_cases h : i < as.length
  · rw [List.getElem?_append_left (by rw [List.length_map]; exact h), List.getElem?_map]
    cases as[i]? <;> rfl
  · rw [List.getElem?_append_right (by rw [List.length_map]; omega), List.getElem?_replicate, List.getElem?_eq_none (l := as) (by omega)]
    split <;> rfl
theorem v_start {N : List Str} {vs : List V} {i : Nat} : ((L2.start N vs)[i]?).join = vs[i]? := by
  unfold L2.start
  by_cases h : i < vs.length
  · rw [List.getElem?_append_left (by rw [List.length_map]; exact h), List.getElem?_map]
    cases vs[i]? <;> rfl
  · rw [List.getElem?_append_right (by rw [List.length_map]; omega), List.getElem?_replicate, List.getElem?_eq_none (l := vs) (by omega)]
    split <;> rfl
theorem outD_ok : ∀ {as : List (Fl × D)} {j : Nat} {outs : List D}, outD σ j as = .ok outs → outs.length = as.length ∧ ∀ (i : Nat) (x d : D), as[i]? = some (Fl.ino, x) → outs[i]? = some d → σ.at (j + i) = some (.ino, d) ∧ isObj d = false
  | [], _, _, h => by cases h; exact ⟨rfl, fun i x d h => by cases h⟩
  | x :: xs, j, outs, h => by
    obtain ⟨d, h1, h⟩ := R.bind_eq_ok h
    obtain ⟨ds, h2, h⟩ := R.bind_eq_ok h
    cases h
    obtain ⟨l, q⟩ := outD_ok h2
    refine ⟨congrArg (· + 1) l, fun i y e hi ho => ?_⟩
    cases i with
    | zero =>
      cases hi
      cases ho
      have h1 : (match σ.at j with
        | some (.ino, d) => if !isObj d then R.ok d else R.bad
        | _ => R.bad) = .ok d := h1
      rw [Nat.add_zero]
      generalize σ.at j = s at h1
      cases s with
      | none => cases h1
      | some s =>
        obtain ⟨f, e⟩ := s
        cases f <;> first | (cases h1; done) | skip
        obtain ⟨g, h1⟩ := ifok h1
        cases h1
        exact ⟨rfl, ng g⟩
    | succ i =>
      have := q i y e hi ho
      rw [show j + (i + 1) = j + 1 + i by omega]
      exact this
theorem nox_out : ∀ {as : List (Fl × D)} {j : Nat}, NoX (outD σ j as)
  | [], _ => nox_ok _
  | x :: xs, j => nox_bind (fun y h => by
      obtain ⟨f, d⟩ := x
      cases f with
      | ino =>
        have h : (match σ.at j with
          | some (.ino, d) => if !isObj d then R.ok d else R.bad
          | _ => R.bad) = .exc y := h
        split at h
        · exact nox_if (nox_ok _) nox_bad y h
        · cases h
      | _ => cases h) fun _ => nox_bind nox_out fun _ => nox_ok _
theorem cell_same {A A' : AS} {H' : Hp} {d d' : D} {v : V} {f f' : List Addr} (c : Cell K cl A H d v f) (c' : Cell K cl A' H' d' v f') (n : isObj d = false) (n' : isObj d' = false) : f = f' := by
  cases c <;> first | (cases n; done) | (cases c' <;> first | (cases n'; done) | rfl)
/-- at a def's entry -/
theorem entry {A : AS} {g : Fp} {as : List (Fl × D)} {vs : List V} {N : List Str} (ar : ArgsR K cl A H g as vs) (t : Trk A H) (tk : TabsK H) (hn : vs.length ≤ N.length) :
    Rel K cl ⟨H, ownS g, fun a => A a ∧ ¬ ownS g a, fun a => A a ∧ ¬ ownS g a, vs⟩ g (startD N.length as) (L2.start N vs) H ∧ ∀ a, ownS g a → A a := by
  have own : ∀ a, ownS g a → A a := fun a ⟨j, h⟩ => by
    by_cases hj : j < as.length
    · have e1 : as[j]? = some as[j] := List.getElem?_eq_getElem hj
      have e2 : vs[j]? = some (vs[j]'(by rw [← ar.len]; exact hj)) := List.getElem?_eq_getElem _
      have r := ar.each j _ _ e1 e2
      generalize as[j] = x at r
      cases r with
      | dat _ n => rw [n] at h; cases h
      | brw _ _ n => rw [n] at h; cases h
      | ino _ q => exact q a h
    · rw [ar.out j (by omega)] at h; cases h
  have le : ∀ a, avS ⟨H, ownS g, fun a => A a ∧ ¬ ownS g a, fun a => A a ∧ ¬ ownS g a, vs⟩ g a → A a := fun a h => h.elim (fun z => z.1) (own a)
  refine ⟨⟨?_, fun i => ?_, ar.dis, fun i a h z => z.2 ⟨i, h⟩, fun a h => t a h.1, fun a h => h, Fr.refl _ _, fun a h => .inl h, tk⟩, own⟩
  · unfold startD L2.start
    rw [List.length_append, List.length_map, List.length_replicate, List.length_append, List.length_map, List.length_replicate]
    have := ar.len
    omega
  · rw [at_start, v_start]
    by_cases hi : i < as.length
    · have e1 : as[i]? = some as[i] := List.getElem?_eq_getElem hi
      have e2 : vs[i]? = some (vs[i]'(by rw [← ar.len]; exact hi)) := List.getElem?_eq_getElem _
      have r := ar.each i _ _ e1 e2
      rw [e1]
      generalize hv : vs[i]? = y at e2
      cases e2
      generalize as[i] = x at r
      cases r with
      | dat r n => exact .dat (r.mv (Mv.less le)) n
      | brw c q n => exact .brw (c.mv (Mv.less le) fun _ _ _ h _ => h) q n
      | ino c q => exact .ino (c.mv (Mv.less le) fun _ _ _ h _ => h) hv
    · rw [List.getElem?_eq_none (by omega)]
      exact .none (ar.out i (by omega))
theorem exit {A : AS} {g : Fp} {as : List (Fl × D)} {vs : List V} {outs : List D} (ar : ArgsR K cl A H g as vs) (no : NoO as) (own : ∀ a, ownS g a → A a)
    (R : Rel K cl ⟨H, ownS g, fun a => A a ∧ ¬ ownS g a, fun a => A a ∧ ¬ ownS g a, vs⟩ fp σ σV H') (ho : outD σ 0 as = .ok outs) :
    OutR K cl A H' g as vs outs ∧ ∀ a, A a → avS ⟨H, ownS g, fun a => A a ∧ ¬ ownS g a, fun a => A a ∧ ¬ ownS g a, vs⟩ fp a := by
  obtain ⟨l, q⟩ := outD_ok ho
  have at_ino : ∀ (j : Nat) (x : D), as[j]? = some (Fl.ino, x) → ∃ d v, outs[j]? = some d ∧ vs[j]? = some v ∧ g j = fp j ∧ Cell K cl (avS ⟨H, ownS g, fun a => A a ∧ ¬ ownS g a, fun a => A a ∧ ¬ ownS g a, vs⟩ fp) H' d v (fp j) := by
    intro j x hx
    have hj : j < as.length := (List.getElem?_eq_some_iff.mp hx).1
    have e1 : outs[j]? = some (outs[j]'(by rw [l]; exact hj)) := List.getElem?_eq_getElem _
    have e2 : vs[j]? = some (vs[j]'(by rw [← ar.len]; exact hj)) := List.getElem?_eq_getElem _
    have s := R.sl j
    have q1 := q j x _ hx e1
    rw [Nat.zero_add] at q1
    rw [q1.1] at s
    generalize (σV[j]?).join = y at s
    have r := ar.each j _ _ hx e2
    cases s with
    | ino c n =>
      have n : vs[j]? = some _ := n
      rw [e2] at n
      cases n
      cases r with
      | ino c0 _ => exact ⟨_, _, e1, e2, cell_same c0 c (no j _ hx) q1.2, c⟩
  have back : ∀ a, A a → avS ⟨H, ownS g, fun a => A a ∧ ¬ ownS g a, fun a => A a ∧ ¬ ownS g a, vs⟩ fp a := fun a h => by
    by_cases z : ownS g a
    · obtain ⟨j, z⟩ := z
      by_cases hj : j < as.length
      · have e1 : as[j]? = some as[j] := List.getElem?_eq_getElem hj
        have e2 : vs[j]? = some (vs[j]'(by rw [← ar.len]; exact hj)) := List.getElem?_eq_getElem _
        have r := ar.each j _ _ e1 e2
        generalize as[j] = x at r e1
        cases r with
        | dat _ n => rw [n] at z; cases z
        | brw _ _ n => rw [n] at z; cases z
        | ino c _ =>
          obtain ⟨_, _, _, _, e, _⟩ := at_ino j _ e1
          rw [e] at z
          exact .inr ⟨j, z⟩
      · rw [ar.out j (by omega)] at z; cases z
    · exact .inl ⟨h, z⟩
  refine ⟨⟨l, fun j x d v hx hd hv => ?_⟩, back⟩
  obtain ⟨d', v', e1, e2, e3, c⟩ := at_ino j x hx
  rw [hd] at e1
  rw [hv] at e2
  cases e1
  cases e2
  rw [e3]
  exact c.mv (Mv.less back) fun _ _ _ h _ => h
theorem nox_end (w : Fw) : NoX (endD w) := fun y h => by cases w <;> cases h
/-- a def's code object -/
def cdOf (K : PySem.W.Frag) (f : Addr) : Addr := match K.lookup f with
  | some ⟨_, _, .func fd, _⟩ => (match fd.code with
    | .ref c => c
    | _ => 0)
  | _ => 0
/-- its table of code objects is one of those that are told -/
def TabD (K : PySem.W.Frag) (base : Heap) (mg : Str → Option Value) (f : Addr) (qual : Str) : Prop :=
  ∃ t, LamX.TabB base mg (cdOf K f) t ∧ (t, qual ++ ".<locals>." ++ "<lambda>") ∈ TabT.T ∧ ∀ p ∈ TabT.T, p.1 = t → p.2 = qual ++ ".<locals>." ++ "<lambda>"
def fbF (scope : Scope) (x : Str) : Bool := scope.names.lookup x == some .cell
section
variable {P : Program} {w : World} {mg : Str → Option Value} {base : Heap} {T : Tb} {M : Nm} {k : Nat}
/-- what every def is told of the others -/
structure Env2 (K : PySem.W.Frag) (cl cx : Nat → Addr) (P : Program) (w : World) (mg : Str → Option Value) (base : Heap) (T : Tb) (M : Nm) (k : Nat) : Prop where
  fns : ∀ f x, M.fns[f]? = some x → Fi K mg P w base k x (M.kws.getD f []) (M.ars.getD f 0) (spF K cl cx (M.ars.getD f 0) (T.C f))
  gls : ∀ g x, M.gls[g]? = some x → ∃ (u : Value) (v : V), mg x = some u ∧ RelV v u ∧ ∀ A H, Rep K cl A H (T.G g) v
  blt : ∀ b, bifV b ≠ .none → mg (bifN b) = none
  rng : mg "range" = none
  zip : mg "zip" = none
  enu : mg "enumerate" = none
  fre : ∀ x ∈ freN, mg x = none
  aks : ∀ q ∈ M.aks, AskD K mg M.exs q
  exs : ∀ c x, M.exs[c]? = some x → ExF K mg (cx c) x
  exm : ∀ c c' x x', M.exs[c]? = some x → M.exs[c']? = some x' → PySem.W.exmOne K (.ref (cx c)) (.ref (cx c')) = some (decide (c = c'))
  clc : ∀ c, cl c = cl 0
  nat : ∀ f ∈ M.flds, Cls K (cl 0) ∧ NoAttr K (cl 0) f
  mts : ∀ m f, (m, f) ∈ M.mts → Cls K (cl 0) ∧ ∃ fa fd ps, Meth K (cl 0) m fa ∧ Binds K fd ps [] ∧ FnOk P w K mg base (L2.CX P w) k fa fd ps (spF K cl cx (M.ars.getD f 0) (T.C f))
  mks : ∀ x c f, (x, c, f) ∈ M.mks → mg x = some (.ref (cl 0)) ∧ ∃ fi fd ps, Mk K (cl 0) fi ∧ Binds K fd ps [] ∧ FnOk P w K mg base (L2.CX P w) k fi fd ps (spI K cl cx c (M.ars.getD f 0) (T.I c f))
theorem Env2.lm (e : Env2 K cl cx P w mg base T M k) (b : Bool) : Env2 K cl cx P w mg base T { M with lm := b } k := ⟨e.fns, e.gls, e.blt, e.rng, e.zip, e.enu, e.fre, e.aks, e.exs, e.exm, e.clc, e.nat, e.mts, e.mks⟩
theorem fun_good {x qual : Str} {params : Arguments} {N ps : List Str} {body : List Stmt} {scope : Scope} {f : Addr} {fd : FuncData} {dvs : List V} {kws : List (Str × V)} {cdv : Value} {A : Around} {outer : List Env} {s : Shared} {H : Hp} {E : XK}
    (td : M.lm = true → TabD K base mg f qual) (e2 : Env2 K cl cx P w mg base T M k) (S : FnScope N ps scope) (hr : Room (k + 3) (A.deeper (envOfC qual scope s.heap.objs.size f cdv))) (ec : ∃ oc od dV kV doc pm an ct osl, K.lookup f = some ⟨oc, od, .func (PySem.W.fnOf x qual params body scope dV kV doc pm an cdv ct), osl⟩) (hcd : PySem.W.codeIn K cdv qual = true) :
    Good cl cx T M E scope (fun _ => true) (cxOf (L2.CX P w) P w K mg base N qual scope f cdv A outer s H E) k := by
  refine ⟨rfl, S.nd, rfl, rfl, hr.mono (by omega), fun _ => hr, e2.aks, ?_, takes_of rfl rfl rfl rfl, e2.exs, e2.exm, e2.fns, e2.gls, e2.blt, e2.rng, e2.zip, e2.enu, e2.fre, fun q => ?_, e2.clc, e2.nat, e2.mts, e2.mks⟩
  · exact passes_call (W := fun cls d _ H => E cls d H) (takes_of rfl rfl rfl rfl) fun cls d σ H h => h
  · obtain ⟨t, q1, q2, q3⟩ := td q
    obtain ⟨oc, od, dV, kV, doc, pm, an, ct, osl, lk⟩ := ec
    have ec : cdv = .ref (cdOf K f) := by
      cases cdv with
      | ref c => unfold cdOf; rw [lk]
      | _ => cases hcd
    exact ⟨_, t, ⟨q1, ec, q2, q3⟩⟩
theorem fun_sound {x : Str} {N : List Str} {n : Nat} {body : List Stmt} {scope : Scope} {fn : Fn} {f : Addr} {fd : FuncData} {qual : Str} {params : Arguments} {ps : List Str} {dvs : List V} {kws : List (Str × V)}
    (F : FunD K x qual params body scope dvs kws f fd) (td : M.lm = true → TabD K base mg f qual) (e2 : Env2 K cl cx P w mg base T M k) (S : FnScope N ps scope) (hl : ps.length = n)
    (hn : fn.a = n) (hN : fn.n = N.length) (hc : ckSs N M scope (fun y => true) fn.b body = true) :
    FnOk P w K mg base (L2.CX P w) (k + 4) f fd ps (spF K cl cx n (runF T fn)) := by
  obtain ⟨oc, od, dV, kV, doc, pm, an, cdv, ct, osl, rfl, lk, hcd, _, _⟩ := F.ex
  refine fn_of lk hcd S (fun vs H Q E ⟨A, g, as, ar, t, l, _⟩ => l.trans hl.symm) fun A outer s H vs Q E hr ⟨Av, g, as, ar, t, l, h⟩ => ?_
  refine ⟨tSts K cl cx E T fn.b, soundSs (sc := scope) (fb := fun y => true) (M := M) (k := k) fn.b (fun_good (dvs := dvs) (kws := kws) (fd := PySem.W.fnOf x qual params body scope dV kV doc pm an cdv ct) td e2 S hr ⟨_, _, _, _, _, _, _, _, _, lk⟩ hcd) ⟨S.kind, rfl, rfl⟩ hc, ?_⟩
  have le : vs.length ≤ N.length := by
    rw [l, ← hl, ← S.pre]
    exact List.length_take_le' _ _
  obtain ⟨R0, own⟩ := entry (N := N) ar t.1 t.2.1 le
  refine ⟨_, g, startD N.length as, R0, ?_⟩
  unfold runF at h
  rw [show decide (as.length = fn.a) = true from decide_eq_true (by rw [ar.len, l, hn]), hN] at h
  have h : (match (execs T fn.b (startD N.length as) >>= fun p => endD p.1 >>= fun r => outD p.2 0 as >>= fun outs => .ok (r, outs)) with
    | .ok (r, outs) => ∀ v H', Fr H (ownS g) H' → OutR K cl Av H' g as vs outs → Rs K cl (fun a => H a = none) Av H' r v → Q v H'
    | .exc x => ∀ od H', ExR K cl x od H' → Fr H (ownS g) H' → E (.ref (cx x.c)) od H'
    | .bad => False) := h
  cases hx : execs T fn.b (startD N.length as) with
  | bad => rw [hx] at h; exact h
  | exc y => rw [hx] at h; exact h
  | ok p =>
    obtain ⟨wf, σ⟩ := p
    rw [hx] at h
    have fin : ∀ r : Fl × D, (match (outD σ 0 as >>= fun outs => .ok (r, outs) : R ((Fl × D) × List D)) with
        | .ok (r, outs) => ∀ v H', Fr H (ownS g) H' → OutR K cl Av H' g as vs outs → Rs K cl (fun a => H a = none) Av H' r v → Q v H'
        | .exc x => ∀ od H', ExR K cl x od H' → Fr H (ownS g) H' → E (.ref (cx x.c)) od H'
        | .bad => False) → ∀ fp σV H' v, Rel K cl ⟨H, ownS g, fun a => Av a ∧ ¬ ownS g a, fun a => Av a ∧ ¬ ownS g a, vs⟩ fp σ σV H' →
          Rs K cl (newP ⟨H, ownS g, fun a => Av a ∧ ¬ ownS g a, fun a => Av a ∧ ¬ ownS g a, vs⟩) (avS ⟨H, ownS g, fun a => Av a ∧ ¬ ownS g a, fun a => Av a ∧ ¬ ownS g a, vs⟩ fp) H' r v → Q v H' := by
      intro r h fp σV H' v R rv
      cases ho : outD σ 0 as with
      | bad => rw [ho] at h; exact h.elim
      | exc y => exact absurd ho (nox_out y)
      | ok outs =>
        rw [ho] at h
        obtain ⟨o, back⟩ := exit ar t.2.2 own R ho
        refine h v H' R.fr0 o ?_
        obtain ⟨f, d⟩ := r
        cases f with
        | dat => exact (Rs.mv (x := (.dat, d)) rv (Mv.less back))
        | own =>
          obtain ⟨fr, c, n, nz⟩ := rv
          have nz' : ∀ a ∈ fr, H a = none := fun a ha => (nz a ha).elim (fun z => absurd (back a (own a z)) (n a ha)) id
          exact Rs.mv (x := (.own, d)) ⟨fr, c, n, nz'⟩ (Mv.less back)
        | ino => exact rv.elim
        | brw => exact rv.elim
    cases wf with
    | nx => exact fun fp σV H' R => fin (.dat, .non) h fp σV H' .non R (show Rep K cl _ H' .non .non from .non)
    | rt x => exact fun fp σV H' v R rv => fin x h fp σV H' v R rv
    | ct => exact fun _ _ _ _ => h
    | bk => exact fun _ _ _ _ => h
/-- an __init__ -/
theorem init_sound {nm : Str} {N : List Str} {n c : Nat} {body : List Stmt} {scope : Scope} {fn : Fn} {f : Addr} {fd : FuncData} {qual : Str} {params : Arguments} {ps : List Str} {dvs : List V} {kws : List (Str × V)}
    (F : FunD K nm qual params body scope dvs kws f fd) (td : M.lm = true → TabD K base mg f qual) (e2 : Env2 K cl cx P w mg base T M k) (S : FnScope N ps scope) (hl : ps.length = n)
    (hn : fn.a = n) (hN : fn.n = N.length) (hc : ckSs N M scope (fun y => true) fn.b body = true) :
    FnOk P w K mg base (L2.CX P w) (k + 4) f fd ps (spI K cl cx c n (runI T fn c)) := by
  obtain ⟨oc, od, dV, kV, doc, pm, an, cdv, ct, osl, rfl, lk, hcd, _, _⟩ := F.ex
  refine fn_of lk hcd S (fun vs H Q E ⟨A, g, as, x, _, ar, _, t, l, _⟩ => l.trans hl.symm) fun A outer s H vs Q E hr ⟨Av, g, as, x, e0, ar, go, t, l, h⟩ => ?_
  refine ⟨tSts K cl cx E T fn.b, soundSs (sc := scope) (fb := fun y => true) (M := M) (k := k) fn.b (fun_good (dvs := dvs) (kws := kws) (fd := PySem.W.fnOf nm qual params body scope dV kV doc pm an cdv ct) td e2 S hr ⟨_, _, _, _, _, _, _, _, _, lk⟩ hcd) ⟨S.kind, rfl, rfl⟩ hc, ?_⟩
  have le : vs.length ≤ N.length := by
    rw [l, ← hl, ← S.pre]
    exact List.length_take_le' _ _
  obtain ⟨R0, own⟩ := entry (N := N) ar t.1 t.2 le
  refine ⟨_, g, _, R0, ?_⟩
  have la : as.length + 1 = fn.a := by
    have := ar.len
    rw [List.length_cons] at this
    rw [this, l, hn]
  unfold runI at h
  rw [show decide (as.length + 1 = fn.a) = true from decide_eq_true la, hN] at h
  have h : (match (execs T fn.b (startD N.length ((.ino, .obj c []) :: as)) >>= fun p => endD p.1 >>= fun r => guard (match r with
        | (.dat, .non) => true
        | _ => false) >>= fun _ => match p.2.at 0 with
      | some (.ino, d) => R.ok d
      | _ => R.bad) with
    | .ok d => ∀ H' fr, Fr H (fun a => a = x) H' → Cell K cl (fun a => (Av a ∧ a ≠ x) ∨ a ∈ fr) H' d (.ref x) fr → (∀ a ∈ fr, ¬ (Av a ∧ a ≠ x)) → (∀ a ∈ fr, a = x ∨ H a = none) → Q .non H'
    | .exc y => ∀ od H', ExR K cl y od H' → Fr H (fun a => a = x) H' → E (.ref (cx y.c)) od H'
    | .bad => False) := h
  cases hx : execs T fn.b (startD N.length ((.ino, .obj c []) :: as)) with
  | bad => rw [hx] at h; exact h
  | exc y =>
    rw [hx] at h
    exact fun od H' ex fr => h od H' ex (fr.mono go)
  | ok p =>
    obtain ⟨wf, σ⟩ := p
    rw [hx] at h
    have fin : ∀ fp σV H', (match (match σ.at 0 with
        | some (.ino, d) => R.ok d
        | _ => R.bad : R D) with
      | .ok d => ∀ H' fr, Fr H (fun a => a = x) H' → Cell K cl (fun a => (Av a ∧ a ≠ x) ∨ a ∈ fr) H' d (.ref x) fr → (∀ a ∈ fr, ¬ (Av a ∧ a ≠ x)) → (∀ a ∈ fr, a = x ∨ H a = none) → Q .non H'
      | .exc y => ∀ od H', ExR K cl y od H' → Fr H (fun a => a = x) H' → E (.ref (cx y.c)) od H'
      | .bad => False) → Rel K cl ⟨H, ownS g, fun a => Av a ∧ ¬ ownS g a, fun a => Av a ∧ ¬ ownS g a, vs⟩ fp σ σV H' → Q .non H' := by
      intro fp σV H' h R1
      have s := R1.at 0
      generalize hs : σ.at 0 = y at s h
      generalize hy : vAt σV 0 = yv at s
      cases s with
      | @ino d v cc nn =>
        have nn : vs[0]? = some v := nn
        rw [e0] at nn
        cases nn
        have cv : ∀ a, (Av a ∧ a ≠ x) → Av a ∧ ¬ ownS g a := fun a z => ⟨z.1, fun w => z.2 (go a w)⟩
        refine h H' (fp 0) (R1.fr0.mono go) (cc.mv (Mv.less fun a z => ?_) fun _ _ _ h _ => h) (fun a ha z => R1.noX 0 a ha (cv a z)) fun a ha => ?_
        · rcases z with z | z
          · exact .inl (cv a z)
          · exact .inr ⟨0, z⟩
        · rcases R1.new a ⟨0, ha⟩ with z | z
          · exact .inl (go a z)
          · exact .inr z
      | none _ => exact h.elim
      | dat _ _ => exact h.elim
      | own _ => exact h.elim
      | brw _ _ _ => exact h.elim
    cases wf with
    | nx => exact fun fp σV H' R => fin fp σV H' h R
    | rt y =>
      obtain ⟨fl, d⟩ := y
      intro fp σV H' v R1 rv
      have h : (match (guard (match ((fl, d) : Fl × D) with
          | (.dat, .non) => true
          | _ => false) >>= fun _ => match σ.at 0 with
        | some (.ino, d) => R.ok d
        | _ => R.bad : R D) with
        | .ok d => ∀ H' fr, Fr H (fun a => a = x) H' → Cell K cl (fun a => (Av a ∧ a ≠ x) ∨ a ∈ fr) H' d (.ref x) fr → (∀ a ∈ fr, ¬ (Av a ∧ a ≠ x)) → (∀ a ∈ fr, a = x ∨ H a = none) → Q .non H'
        | .exc y => ∀ od H', ExR K cl y od H' → Fr H (fun a => a = x) H' → E (.ref (cx y.c)) od H'
        | .bad => False) := h
      cases fl with
      | dat =>
        cases d with
        | non =>
          cases rv
          exact fin fp σV H' h R1
        | _ => exact h.elim
      | _ => cases d <;> exact h.elim
    | ct => exact fun _ _ _ _ => h
    | bk => exact fun _ _ _ _ => h
end
/-- how a def stands -/
structure DefOk (K : PySem.W.Frag) (mg : Str → Option Value) (base : Heap) (lm : Bool) (x : Str) (N : List Str) (n : Nat) (body : List Stmt) (scope : Scope) (f : Addr) : Prop where
  ex : ∃ (fd : FuncData) (name qual : Str) (params : Arguments) (ps : List Str) (dvs : List V) (kws : List (Str × V)), FunD K name qual params body scope dvs kws f fd ∧ (lm = true → TabD K base mg f qual) ∧ Binds K fd ps [] ∧ FnScope N ps scope ∧ ps.length = n
section
variable {K : PySem.W.Frag} {cl cx : Nat → Addr}
/-- a def's promise where some of its arguments are data that lack -/
theorem spF_dfl {n n0 : Nat} {C0 C1 : List (Fl × D) → R ((Fl × D) × List D)} {dl : List D} {dvs : List V} (hl : n + dl.length = n0) (rp : ∀ A H, Reps K cl A H dl dvs) (hC : ∀ as, C1 as = cutO as.length (C0 (as ++ datA dl)))
    {vs : List V} {H : Hp} {Q : VK} {E : XK} (h : spF K cl cx n C1 vs H Q E) : spF K cl cx n0 C0 (vs ++ dvs) H Q E := by
  obtain ⟨A, g, as, ar, ⟨t1, t2, t3⟩, l, h⟩ := h
  have la := ar.len
  have ld : dl.length = dvs.length := (rp A H).length
  have lD : (datA dl).length = dl.length := List.length_map ..
  refine ⟨A, g, as ++ datA dl, ⟨by rw [List.length_append, List.length_append, lD, la, ld], fun j x v hx hv => ?_, ar.dis, fun j hj => ar.out j (by rw [List.length_append] at hj; omega)⟩, ⟨t1, t2, fun j d hj => ?_⟩, by rw [List.length_append, l, ← ld]; exact hl, ?_⟩
  · by_cases hj : j < as.length
    · rw [List.getElem?_append_left hj] at hx
      rw [List.getElem?_append_left (by omega)] at hv
      exact ar.each j x v hx hv
    · rw [List.getElem?_append_right (by omega)] at hx
      rw [List.getElem?_append_right (by omega)] at hv
      unfold datA at hx
      rw [List.getElem?_map] at hx
      cases hd : dl[j - as.length]? with
      | none => rw [hd] at hx; cases hx
      | some d =>
        rw [hd] at hx
        cases hx
        obtain ⟨v', hv', r⟩ := (rp A H).get hd
        rw [la] at hv'
        rw [hv'] at hv
        cases hv
        exact .dat r (ar.out j (by omega))
  · by_cases hj2 : j < as.length
    · rw [List.getElem?_append_left hj2] at hj
      exact t3 j d hj
    · rw [List.getElem?_append_right (by omega)] at hj
      unfold datA at hj
      rw [List.getElem?_map] at hj
      cases hd : dl[j - as.length]? with
      | none => rw [hd] at hj; cases hj
      | some d' => rw [hd] at hj; cases hj
  · rw [hC as] at h
    generalize C0 (as ++ datA dl) = m at h ⊢
    cases m with
    | ok p =>
      obtain ⟨r, outs⟩ := p
      intro v H' f o q
      refine h v H' f ⟨?_, fun j x d u hx hd hv => ?_⟩ q
      · have := o.1
        rw [List.length_append] at this
        rw [List.length_take]; omega
      · have hj := (List.getElem?_eq_some_iff.mp hx).1
        rw [List.getElem?_take, if_pos hj] at hd
        exact o.2 j x d u (by rw [List.getElem?_append_left hj]; exact hx) hd (by rw [List.getElem?_append_left (by omega)]; exact hv)
    | exc y => exact h
    | bad => exact h
theorem selA_len {α : Type} {sel : List (Nat ⊕ Nat)} {xs ds : List α} {z : α} : (selA sel xs ds z).length = sel.length := List.length_map ..
/-- a def's promise where it is called by names -/
theorem spF_kw {n n0 : Nat} {C0 C1 : List (Fl × D) → R ((Fl × D) × List D)} {sel : List (Nat ⊕ Nat)} {dl : List D} {dvs : List V} (hl : sel.length = n0) (hb : ∀ x ∈ sel, (∀ i, x = .inl i → i < n) ∧ (∀ j, x = .inr j → j < dl.length)) (rp : ∀ A H, Reps K cl A H dl dvs)
    (hC : ∀ as, C1 as = if as.all isDatA then datO as (C0 (selA sel as (datA dl) (.dat, .non))) else .bad)
    {vs : List V} {H : Hp} {Q : VK} {E : XK} (h : spF K cl cx n C1 vs H Q E) : spF K cl cx n0 C0 (selA sel vs dvs .non) H Q E := by
  obtain ⟨A, g, as, ar, ⟨t1, t2, t3⟩, l, h⟩ := h
  have la := ar.len
  rw [hC as] at h
  cases hd : as.all isDatA with
  | false =>
    rw [hd] at h
    exact h.elim
  | true =>
    rw [hd, if_pos rfl] at h
    have dt : ∀ {i : Nat} {x : Fl × D}, as[i]? = some x → x = (Fl.dat, x.2) := fun {i x} e => by
      have := List.all_eq_true.mp hd x (List.mem_of_getElem? e)
      obtain ⟨f, d⟩ := x
      cases f <;> first | rfl | cases this
    have ea : ∀ {j : Nat} {x : Fl × D}, (selA sel as (datA dl) (.dat, .non))[j]? = some x → x = (Fl.dat, x.2) ∧ ∀ v, (selA sel vs dvs .non)[j]? = some v → Rep K cl A H x.2 v := fun {j x} e => by
      unfold selA at e ⊢
      rw [List.getElem?_map] at e ⊢
      cases hs : sel[j]? with
      | none => rw [hs] at e; cases e
      | some s =>
        rw [hs] at e
        have b := hb s (List.mem_of_getElem? hs)
        cases s with
        | inl i =>
          have hi := b.1 i rfl
          have e : as.getD i (.dat, .non) = x := Option.some.inj e
          have hx : as[i]? = some x := by
            rw [List.getD_eq_getElem?_getD, List.getElem?_eq_getElem (by omega)] at e
            rw [List.getElem?_eq_getElem (by omega), ← e]; rfl
          refine ⟨dt hx, fun v hv => ?_⟩
          have hv : vs.getD i .non = v := Option.some.inj hv
          have hv2 : vs[i]? = some v := by
            rw [List.getD_eq_getElem?_getD, List.getElem?_eq_getElem (by omega)] at hv
            rw [List.getElem?_eq_getElem (by omega), ← hv]; rfl
          have := ar.each i x v hx hv2
          rw [dt hx] at this
          cases this with
          | dat r _ => exact r
        | inr k =>
          have hk := b.2 k rfl
          have e : (datA dl).getD k (.dat, .non) = x := Option.some.inj e
          have ed : dl[k]? = some dl[k] := List.getElem?_eq_getElem hk
          have ex : x = (Fl.dat, dl[k]) := by
            rw [← e, List.getD_eq_getElem?_getD]
            unfold datA
            rw [List.getElem?_map, ed]; rfl
          refine ⟨by rw [ex], fun v hv => ?_⟩
          have hv : dvs.getD k .non = v := Option.some.inj hv
          obtain ⟨v', hv', r⟩ := (rp A H).get ed
          rw [List.getD_eq_getElem?_getD, hv'] at hv
          cases hv
          rw [ex]
          exact r
    refine ⟨A, fun _ => [], selA sel as (datA dl) (.dat, .non), ⟨by rw [selA_len, selA_len], fun j x v hx hv => ?_, (fun _ _ _ z => nomatch z), fun _ _ => rfl⟩, ⟨t1, t2, fun j d hj => ?_⟩, by rw [selA_len]; exact hl, ?_⟩
    · obtain ⟨e1, e2⟩ := ea hx
      rw [e1]
      exact .dat (e2 v hv) rfl
    · cases (ea hj).1
    · generalize C0 (selA sel as (datA dl) (.dat, .non)) = m at h ⊢
      cases m with
      | ok p =>
        obtain ⟨r, outs⟩ := p
        intro v H' f o q
        refine h v H' (f.mono fun a ⟨_, z⟩ => nomatch z) ⟨List.length_map .., fun j x d u hx hd hv => ?_⟩ q
        cases dt hx
      | exc y => exact fun od H' ex f => h od H' ex (f.mono fun a ⟨_, z⟩ => nomatch z)
      | bad => exact h
/-- how a def binds that is called with fewer arguments or by names: a arguments are written, nm the names -/
def VBind (K : PySem.W.Frag) (cl : Nat → Addr) (fd : FuncData) (ps : List Str) (nm : List Str) (a n0 : Nat) : Vr → Prop
  | .df _ dl => nm = [] ∧ a + dl.length = n0 ∧ ∃ (ds : List Value) (vs : List V), Binds K fd ps ds ∧ Vals vs ds ∧ ∀ A H, Reps K cl A H dl vs
  | .kw _ n ks sel dl => nm = ks ∧ ks ≠ [] ∧ n + ks.length = a ∧ sel.length = n0 ∧ (∀ x ∈ sel, (∀ i, x = .inl i → i < a) ∧ (∀ j, x = .inr j → j < dl.length)) ∧
    ∃ (its : List Value) (dvs : List V), (∀ A H, Reps K cl A H dl dvs) ∧ KBn K fd ps n ks (fun us ws => selA sel (us ++ ws) its .none) (fun vs zs => selA sel (vs ++ zs) dvs .non)
/-- how a def stands that is called with fewer arguments or by names -/
structure DefV (K : PySem.W.Frag) (cl : Nat → Addr) (mg : Str → Option Value) (base : Heap) (lm : Bool) (N : List Str) (n0 : Nat) (body : List Stmt) (scope : Scope) (nm : List Str) (a : Nat) (v : Vr) (f : Addr) : Prop where
  ex : ∃ (fd : FuncData) (name qual : Str) (params : Arguments) (ps : List Str) (dvs : List V) (kws : List (Str × V)), FunD K name qual params body scope dvs kws f fd ∧ (lm = true → TabD K base mg f qual) ∧ VBind K cl fd ps nm a n0 v ∧ FnScope N ps scope ∧ ps.length = n0
end
/-- every def, by fuel -/
theorem all_sound {P : Program} {w : World} {mg : Str → Option Value} {base : Heap} {G : Nat → D} {F : Nat → Option Fn} {Vd : Nat → Option Vr} {M : Nm} {Ds : Nat → Option (List Str × List Stmt × Scope)} {Lm : Nat → Bool}
    (hd : ∀ f x, M.fns[f]? = some x → (Vd f = none ∧ M.kws.getD f [] = [] ∧ ∃ N body scope a, Ds f = some (N, body, scope) ∧ mg x = some (.ref a) ∧ PySem.W.keepIn K (.ref a) = true ∧ DefOk K mg base (Lm f) x N (M.ars.getD f 0) body scope a) ∨
      ∃ v N body scope a, Vd f = some v ∧ Ds v.f0 = some (N, body, scope) ∧ mg x = some (.ref a) ∧ PySem.W.keepIn K (.ref a) = true ∧ DefV K cl mg base (Lm v.f0) N (M.ars.getD v.f0 0) body scope (M.kws.getD f []) (M.ars.getD f 0) v a)
    (hm : ∀ m f, (m, f) ∈ M.mts → Vd f = none ∧ ∃ N body scope a, Ds f = some (N, body, scope) ∧ Cls K (cl 0) ∧ Meth K (cl 0) m a ∧ DefOk K mg base (Lm f) m N (M.ars.getD f 0) body scope a)
    (hk : ∀ x c f, (x, c, f) ∈ M.mks → ∃ N body scope a, Ds f = some (N, body, scope) ∧ mg x = some (.ref (cl 0)) ∧ Mk K (cl 0) a ∧ DefOk K mg base (Lm f) x N (M.ars.getD f 0) body scope a)
    (hf : ∀ f N body scope, Ds f = some (N, body, scope) → ∃ fn, F f = some fn ∧ fn.a = M.ars.getD f 0 ∧ fn.n = N.length ∧ ckSs N { M with lm := Lm f } scope (fun y => true) fn.b body = true)
    (clc : ∀ c, cl c = cl 0) (nat : ∀ f ∈ M.flds, Cls K (cl 0) ∧ NoAttr K (cl 0) f)
    (gls : ∀ g x, M.gls[g]? = some x → ∃ (u : Value) (v : V), mg x = some u ∧ RelV v u ∧ ∀ A H, Rep K cl A H (G g) v)
    (blt : ∀ b, bifV b ≠ .none → mg (bifN b) = none) (rng : mg "range" = none) (zip : mg "zip" = none) (enu : mg "enumerate" = none) (fre : ∀ x ∈ freN, mg x = none) (aks : ∀ q ∈ M.aks, AskD K mg M.exs q)
    (exs : ∀ c x, M.exs[c]? = some x → ExF K mg (cx c) x) (exm : ∀ c c' x x', M.exs[c]? = some x → M.exs[c']? = some x' → PySem.W.exmOne K (.ref (cx c)) (.ref (cx c')) = some (decide (c = c'))) :
    ∀ k, Env2 K cl cx P w mg base (callT G F Vd k) M (4 * k)
  | 0 => by
    refine ⟨fun f x hx => ?_, gls, blt, rng, zip, enu, fre, aks, exs, exm, clc, nat, fun m f hx => ?_, fun x c f hx => ?_⟩
    · rcases hd f x hx with ⟨_, e0, N, body, scope, a, _, h1, h2, d⟩ | ⟨v, N, body, scope, a, _, _, h1, h2, d⟩
      · obtain ⟨fd, name, qual, params, ps, dvs, kws, Fd, _, hb, S, hl⟩ := d.ex
        exact ⟨a, fd, ps, spF K cl cx (M.ars.getD f 0) ((callT G F Vd 0).C f), h1, h2, ⟨fun vs H Q E ⟨_, _, _, _, _, l, _⟩ => l.trans hl.symm, fun A outer s H args us vs Q E _ _ _ _ ⟨_, _, _, _, _, _, h⟩ => h.elim⟩, .inl ⟨e0, [], [], hb, .nil, fun vs H Q E h => by rw [List.append_nil]; exact h⟩⟩
      · obtain ⟨fd, name, qual, params, ps, dvs, kws, Fd, _, hb, S, hl⟩ := d.ex
        refine ⟨a, fd, ps, spF K cl cx (M.ars.getD v.f0 0) ((callT G F Vd 0).C v.f0), h1, h2, ⟨fun vs H Q E ⟨_, _, _, _, _, l, _⟩ => l.trans hl.symm, fun A outer s H args us vs Q E _ _ _ _ ⟨_, _, _, _, _, _, h⟩ => h.elim⟩, ?_⟩
        cases v with
        | df f0 dl =>
          obtain ⟨e1, e2, ds, vs, e3, e4, _⟩ := hb
          exact .inl ⟨e1, ds, vs, e3, e4, fun vs H Q E ⟨_, _, _, _, _, _, h⟩ => h.elim⟩
        | kw f0 n ks sel dl =>
          obtain ⟨e1, e2, e3, e4, e5, its, dvs, e6, e7⟩ := hb
          exact .inr ⟨by rw [e1]; exact e2, n, _, _, by rw [e1]; exact e7, by rw [e1]; exact e3, fun vs zs H Q E ⟨_, _, _, _, _, _, h⟩ => h.elim⟩
    · obtain ⟨_, N, body, scope, a, _, h1, h2, d⟩ := hm m f hx
      obtain ⟨fd, name, qual, params, ps, dvs, kws, Fd, _, hb, S, hl⟩ := d.ex
      exact ⟨h1, a, fd, ps, h2, hb, ⟨fun vs H Q E ⟨_, _, _, _, _, l, _⟩ => l.trans hl.symm, fun A outer s H args us vs Q E _ _ _ _ ⟨_, _, _, _, _, _, h⟩ => h.elim⟩⟩
    · obtain ⟨N, body, scope, a, _, h1, h2, d⟩ := hk x c f hx
      obtain ⟨fd, name, qual, params, ps, dvs, kws, Fd, _, hb, S, hl⟩ := d.ex
      exact ⟨h1, a, fd, ps, h2, hb, ⟨fun vs H Q E ⟨_, _, _, _, _, _, _, _, l, _⟩ => l.trans hl.symm, fun A outer s H args us vs Q E _ _ _ _ ⟨_, _, _, _, _, _, _, _, _, h⟩ => h.elim⟩⟩
  | k + 1 => by
    have ih := all_sound (P := P) (w := w) hd hm hk hf clc nat gls blt rng zip enu fre aks exs exm k
    have ec : ∀ {f : Nat} {fn : Fn}, Vd f = none → F f = some fn → (callT G F Vd (k + 1)).C f = runF (callT G F Vd k) fn := fun {f fn} e1 e2 => by
      funext as
      show (match Vd f with
        | some v => (match F v.f0 with
          | some g => callV (runF (callT G F Vd k) g) v as
          | none => .bad)
        | none => match F f with
          | some g => runF (callT G F Vd k) g as
          | none => .bad) = _
      rw [e1, e2]
    have ecv : ∀ {f : Nat} {v : Vr} {fn : Fn}, Vd f = some v → F v.f0 = some fn → ∀ as, (callT G F Vd (k + 1)).C f as = callV (runF (callT G F Vd k) fn) v as := fun {f v fn} e1 e2 as => by
      show (match Vd f with
        | some v => (match F v.f0 with
          | some g => callV (runF (callT G F Vd k) g) v as
          | none => .bad)
        | none => match F f with
          | some g => runF (callT G F Vd k) g as
          | none => .bad) = _
      rw [e1]
      show (match F v.f0 with
          | some g => callV (runF (callT G F Vd k) g) v as
          | none => .bad) = _
      rw [e2]
    have ei : ∀ {f c : Nat} {fn : Fn}, F f = some fn → (callT G F Vd (k + 1)).I c f = runI (callT G F Vd k) fn c := fun {f c fn} e2 => by
      funext as
      show (match F f with
        | some g => runI (callT G F Vd k) g c as
        | none => .bad) = _
      rw [e2]
    refine ⟨fun f x hx => ?_, gls, blt, rng, zip, enu, fre, aks, exs, exm, clc, nat, fun m f hx => ?_, fun x c f hx => ?_⟩
    · rcases hd f x hx with ⟨e0, ek, N, body, scope, a, e, h1, h2, d⟩ | ⟨v, N, body, scope, a, e0, e, h1, h2, d⟩
      · obtain ⟨fn, e2, g1, g2, g3⟩ := hf f N body scope e
        obtain ⟨fd, name, qual, params, ps, dvs, kws, Fd, td, hb, S, hl⟩ := d.ex
        rw [ec e0 e2]
        exact ⟨a, fd, ps, _, h1, h2, fun_sound (M := { M with lm := Lm f }) Fd td (ih.lm _) S hl g1 g2 g3, .inl ⟨ek, [], [], hb, .nil, fun vs H Q E h => by rw [List.append_nil]; exact h⟩⟩
      · obtain ⟨fn, e2, g1, g2, g3⟩ := hf v.f0 N body scope e
        obtain ⟨fd, name, qual, params, ps, dvs, kws, Fd, td, hb, S, hl⟩ := d.ex
        refine ⟨a, fd, ps, _, h1, h2, fun_sound (M := { M with lm := Lm v.f0 }) Fd td (ih.lm _) S hl g1 g2 g3, ?_⟩
        cases v with
        | df f0 dl =>
          obtain ⟨b1, b2, ds, vs, b3, b4, b5⟩ := hb
          exact .inl ⟨b1, ds, vs, b3, b4, fun us H Q E h => spF_dfl b2 b5 (ecv e0 e2) h⟩
        | kw f0 n ks sel dl =>
          obtain ⟨b1, b2, b3, b4, b5, its, dvs, b6, b7⟩ := hb
          exact .inr ⟨by rw [b1]; exact b2, n, _, _, by rw [b1]; exact b7, by rw [b1]; exact b3, fun vs zs H Q E h => spF_kw b4 b5 b6 (ecv e0 e2) h⟩
    · obtain ⟨e0, N, body, scope, a, e, h1, h2, d⟩ := hm m f hx
      obtain ⟨fn, e2, g1, g2, g3⟩ := hf f N body scope e
      obtain ⟨fd, name, qual, params, ps, dvs, kws, Fd, td, hb, S, hl⟩ := d.ex
      rw [ec e0 e2]
      exact ⟨h1, a, fd, ps, h2, hb, fun_sound (M := { M with lm := Lm f }) Fd td (ih.lm _) S hl g1 g2 g3⟩
    · obtain ⟨N, body, scope, a, e, h1, h2, d⟩ := hk x c f hx
      obtain ⟨fn, e2, g1, g2, g3⟩ := hf f N body scope e
      obtain ⟨fd, name, qual, params, ps, dvs, kws, Fd, td, hb, S, hl⟩ := d.ex
      rw [ei e2]
      exact ⟨h1, a, fd, ps, h2, hb, init_sound (M := { M with lm := Lm f }) Fd td (ih.lm _) S hl g1 g2 g3⟩
end
end DD
namespace DD
open L2 PyProof.Rows PySem PySem.Spec He
/-- where no table is asked for -/
local instance tab0 : TabT := ⟨[]⟩
mutual
def gB (K : PySem.W.Frag) : D → Value → Bool
  | .non, .none => true
  | .bl b, .bool c => b == c
  | .int i, .int j _ => decide (i = j)
  | .str s, .str t _ => decide (s = t)
  | .tup ds, .ref a => (match K.lookup a with
    | some o => decide (o.cls = .type "tuple") && (match o.data with
      | .seq its _ => decide (its.size ≤ 16777216) && gBs K ds its.toList
      | _ => false)
    | none => false)
  | _, _ => false
def gBs (K : PySem.W.Frag) : List D → List Value → Bool
  | [], [] => true
  | d :: ds, v :: vs => gB K d v && gBs K ds vs
  | _, _ => false
end
mutual
theorem gB_ok {K : PySem.W.Frag} {cl : Nat → Addr} : ∀ (d : D) (u : Value), gB K d u = true → ∃ v, RelV v u ∧ ∀ A H, Rep K cl A H d v
  | .non, u, h => by
    cases u with
    | none => exact ⟨.non, rfl, fun A H => .non⟩
    | _ => unfold gB at h; cases h
  | .bl b, u, h => by
    cases u with
    | bool c => unfold gB at h; cases beq_iff_eq.mp h; exact ⟨.bl b, rfl, fun A H => .bl b⟩
    | _ => unfold gB at h; cases h
  | .int i, u, h => by
    cases u with
    | int j t => unfold gB at h; cases of_decide_eq_true h; exact ⟨.int i, ⟨t, rfl⟩, fun A H => .int i⟩
    | _ => unfold gB at h; cases h
  | .str s, u, h => by
    cases u with
    | str j t => unfold gB at h; cases of_decide_eq_true h; exact ⟨.str s, ⟨t, rfl⟩, fun A H => .str s⟩
    | _ => unfold gB at h; cases h
  | .tup ds, u, h => by
    cases u with
    | ref a =>
      unfold gB at h
      cases e : K.lookup a with
      | none => rw [e] at h; cases h
      | some o =>
        rw [e] at h
        obtain ⟨h1, h2⟩ := and2 h
        cases e2 : o.data with
        | seq its n =>
          rw [e2] at h2
          obtain ⟨h3, h4⟩ := and2 h2
          obtain ⟨vs, r, k⟩ := gBs_ok ds its.toList h4
          refine ⟨.ref a, rfl, fun A H => .tup (.inr ⟨o, its, n, e, of_decide_eq_true h1, e2, by rw [line_eq]; exact of_decide_eq_true h3, r⟩) (k A H) ?_⟩
          rw [(k noA (fun _ => none)).length, r.length, Array.length_toList]
          exact of_decide_eq_true h3
        | _ => rw [e2] at h2; cases h2
    | _ => unfold gB at h; cases h
  | .lst _, u, h => by unfold gB at h; cases h
  | .dct _, u, h => by unfold gB at h; cases h
  | .obj _ _, u, h => by unfold gB at h; cases h
  | .scr _, u, h => by unfold gB at h; cases h
theorem gBs_ok {K : PySem.W.Frag} {cl : Nat → Addr} : ∀ (ds : List D) (us : List Value), gBs K ds us = true → ∃ vs, Vals vs us ∧ ∀ A H, Reps K cl A H ds vs
  | [], [], _ => ⟨[], .nil, fun A H => .nil⟩
  | d :: ds, u :: us, h => by
    unfold gBs at h
    obtain ⟨h1, h2⟩ := and2 h
    obtain ⟨v, r, k⟩ := gB_ok d u h1
    obtain ⟨vs, rs, ks⟩ := gBs_ok ds us h2
    exact ⟨v :: vs, .cons r rs, fun A H => .cons (k A H) (ks A H)⟩
  | [], _ :: _, h => by unfold gBs at h; cases h
  | _ :: _, [], h => by unfold gBs at h; cases h
end
def clsBody : Stmt → List Stmt
  | .ClassDef _ _ _ body _ _ _ _ _ _ _ => body
  | _ => []
/-- a def: its name, its text, its names, what it comes to, whether it makes lambdas, its class, its defaults -/
structure Df where
  x : Str
  st : Stmt
  N : List Str
  fn : Fn
  lm : Bool := false
  cls : Option Str := none
  dfl : List Dv := []
  /-- called with fewer arguments or by names -/
  vir : Option Vr := none
  /-- calls what it gets, under try -/
  tel : Option (List (Nat × Hv) × D) := none
/-- a class: its name, its instances' fields -/
structure Ci where
  name : Str
  flds : List Str
def Df.q (d : Df) : Str := match d.cls with
  | none => d.x
  | some c => c ++ "." ++ d.x
def Df.at_ (d : Df) : Str × Option Str := match d.cls with
  | none => (d.x, none)
  | some c => (c, some d.x)
def Df.dd (d : Df) : DefD := ⟨d.at_, d.x, d.q, defArgs d.st, defBody d.st, defScope d.st, d.dfl, []⟩
def Df.ps (d : Df) : List Str := d.N.take d.fn.a
def scB (N P : List Str) (sc : Scope) : Bool := decide (sc.kind = .function) && !sc.isCoroutine && !sc.isGenerator && decide N.Nodup && decide (N.take P.length = P) &&
  (P.all fun x => sc.names.lookup x == some .local || sc.names.lookup x == some .cell) && (sc.names.all fun y => !(y.2 == .free))
theorem scB_ok {N P : List Str} {sc : Scope} (h : scB N P sc = true) : FnScope N P sc := by
  obtain ⟨h, h7⟩ := and2 h
  obtain ⟨h, h6⟩ := and2 h
  obtain ⟨h, h5⟩ := and2 h
  obtain ⟨h1, h2, h3, h4⟩ := and4 h
  refine ⟨of_decide_eq_true h1, ng h2, ng h3, of_decide_eq_true h4, of_decide_eq_true h5, fun x hx => ?_, fun y hy e => ?_⟩
  · have := List.all_eq_true.mp h6 x hx
    rw [Bool.or_eq_true, beq_iff_eq, beq_iff_eq] at this
    exact this
  · have := ng (List.all_eq_true.mp h7 y hy)
    rw [e] at this
    cases this
def telOk (M : Nm) (d : Df) : Bool := match d.tel with
  | none => true
  | some t => tellB M.exs (defScope d.st) (d.N.getD 0 Str.empty) t.1 t.2 (defBody d.st) && decide (d.fn.a = 1) && okN (d.N.getD 0 Str.empty)
def ckDf (M : Nm) (d : Df) : Bool := scB d.N d.ps (defScope d.st) && decide (d.fn.n = d.N.length) && decide (d.fn.a ≤ d.N.length) && (ckSs d.N { M with lm := d.lm } (defScope d.st) (fun _ => true) d.fn.b (defBody d.st) && telOk M d)
/-- how its arguments bind, all written -/
inductive BindOk (d : Df) : Prop
  | non (e : d.dfl = []) (h : ∀ (kV doc pm : Value) (an : Option Addr) (cdv ct : Value) (us : List Value), us.length = d.ps.length →
      bindArgs (PySem.W.fnOf d.x d.q (defArgs d.st) (defBody d.st) (defScope d.st) .none kV doc pm an cdv ct) ⟨us, []⟩ = pure (d.ps.zip us)) : BindOk d
  | dfl (e : d.dfl ≠ []) (h : ∀ (T : Addr) (kV doc pm : Value) (an : Option Addr) (cdv ct : Value) (us its : List Value), us.length = d.ps.length → its.length = d.dfl.length →
      ∃ k, bindArgs (PySem.W.fnOf d.x d.q (defArgs d.st) (defBody d.st) (defScope d.st) (.ref T) kV doc pm an cdv ct) ⟨us, []⟩ = seqItems? (.ref T) >>= k ∧ k (some its.toArray) = pure (d.ps.zip us)) : BindOk d
def fFree : List Str := freN ++ (["min", "max", "sum", "all", "any"] : List Str)
def isM (ci : Option Ci) (d : Df) : Bool := match ci with
  | some c => decide (d.cls = some c.name) && !decide (d.x = "__init__")
  | none => false
def isI (ci : Option Ci) (d : Df) : Bool := match ci with
  | some c => decide (d.cls = some c.name) && decide (d.x = "__init__")
  | none => false
def faC (Ds : List Df) : Option Ci → List Fa
  | none => []
  | some c => Fa.glo c.name :: Fa.cls c.name :: (c.flds.map (Fa.noat c.name) ++ ((Ds.filter (isM (some c))).map (fun d => Fa.meth c.name d.x) ++ ((Ds.filter (isI (some c))).map fun _ => Fa.mkr c.name)))
/-- of exception classes -/
def faX (xs : List Str) : List Fa := xs.map Fa.glo ++ (xs.map Fa.exc ++ (List.range xs.length).flatMap fun c => (List.range xs.length).map fun d => Fa.exm (xs.getD c Str.empty) (xs.getD d Str.empty) (decide (c = d)))
def cxO (K : PySem.W.Frag) (xs : List Str) (c : Nat) : Addr := ga K (xs.getD c Str.empty)
def faOf (Ds : List Df) (ci : Option Ci) (xs : List Str) : List Fa := (Ds.filter (·.cls.isNone)).map (fun d => Fa.glo d.x) ++ (fFree.map Fa.free ++ (faC Ds ci ++ faX xs))
def exB (gl : List (Str × D)) (K : PySem.W.Frag) : Bool := gl.all fun p => match PySem.W.nsIn K mainGlobals p.1 with
  | some (some v) => gB K p.2 v
  | _ => false
/-- the defs that make lambdas -/
def tfOf (Ds : List Df) : List Defn := (Ds.filter (·.lm)).map Df.at_
/-- the constants, and that the tables are several -/
def exT (Ds : List Df) (gl : List (Str × D)) (K : PySem.W.Frag) : Bool := exB gl K && decide ((Ds.filter (·.lm)).map fun d => (cT K d.at_).2).Nodup
/-- the tables, with the names of the code objects that they tell -/
def tabOfK (Ds : List Df) (K : PySem.W.Frag) : List (Addr × Str) := (Ds.filter (·.lm)).map fun d => ((cT K d.at_).2, d.q ++ ".<locals>." ++ "<lambda>")
def csOf (Ds : List Df) (K : PySem.W.Frag) : List (Addr × Addr) := (tfOf Ds).map (cT K)
def ixs (p : Df → Bool) : List Df → Nat → List (Df × Nat)
  | [], _ => []
  | d :: r, n => if p d then (d, n) :: ixs p r (n + 1) else ixs p r (n + 1)
def kwO : Option Vr → List Str
  | some (.kw _ _ ks _ _) => ks
  | _ => []
def nmOf (Ds : List Df) (gl : List (Str × D)) (ci : Option Ci) (xs : List Str) : Nm := ⟨(Ds.takeWhile (·.cls.isNone)).map (·.x), gl.map (·.1), Ds.map (·.fn.a), false, (match ci with
  | some c => c.flds
  | none => []), (ixs (isM ci) Ds 0).map (fun p => (p.1.x, p.2)), (match ci with
  | some c => (ixs (isI ci) Ds 0).map fun p => (c.name, 0, p.2)
  | none => []), Ds.map (fun d => kwO d.vir), xs, Ds.filterMap fun d => if d.cls.isNone && d.vir.isNone then d.tel.map fun t => (d.x, t) else none⟩
def gOfL (gl : List (Str × D)) (g : Nat) : D := ((gl[g]?).map (·.2)).getD .non
def vdOf (Ds : List Df) (f : Nat) : Option Vr := (Ds[f]?).bind fun d => if d.cls.isNone then d.vir else none
def tbOf (Ds : List Df) (gl : List (Str × D)) (k : Nat) : Tb := callT (gOfL gl) (fun f => (Ds[f]?).map (·.fn)) (vdOf Ds) k
def dvD : Dv → Option D
  | .non => some .non
  | .bl b => some (.bl b)
  | .int i => some (.int i)
  | .str x => some (.str x)
  | _ => none
theorem dv_reps {K : PySem.W.Frag} {cl : Nat → Addr} : ∀ (vs : List Dv) (dl : List D), vs.map dvD = dl.map some → ∀ A H, Reps K cl A H dl (vs.map (Dv.v K))
  | [], [], _, _, _ => .nil
  | [], _ :: _, h, _, _ => by cases h
  | _ :: _, [], h, _, _ => by cases h
  | v :: vs, d :: dl, h, A, H => by
    rw [List.map_cons, List.map_cons] at h
    injection h with h1 h2
    refine .cons ?_ (dv_reps vs dl h2 A H)
    cases v <;> first | (cases h1; first | exact .non | exact .bl _ | exact .int _ | exact .str _) | cases h1
def selB (sel : List (Nat ⊕ Nat)) (a b : Nat) : Bool := sel.all fun
  | .inl i => decide (i < a)
  | .inr j => decide (j < b)
theorem selB_ok {sel : List (Nat ⊕ Nat)} {a b : Nat} (h : selB sel a b = true) : ∀ x ∈ sel, (∀ i, x = .inl i → i < a) ∧ (∀ j, x = .inr j → j < b) := fun x hx => by
  have := List.all_eq_true.mp h x hx
  cases x with
  | inl i => exact ⟨fun j e => by cases e; exact of_decide_eq_true this, (fun j e => nomatch e)⟩
  | inr i => exact ⟨(fun j e => nomatch e), fun j e => by cases e; exact of_decide_eq_true this⟩
/-- how it binds: v's data, its names -/
def VirB (d0 : Df) (a : Nat) : Vr → Prop
  | .df _ dl => a + dl.length = d0.fn.a ∧ d0.dfl ≠ [] ∧ ∃ j, (d0.dfl.drop j).map dvD = dl.map some ∧ ∀ (T : Addr) (kV doc pm : Value) (an : Option Addr) (cdv ct : Value) (us its : List Value), us.length = a → its.length = d0.dfl.length →
      ∃ k, bindArgs (PySem.W.fnOf d0.x d0.q (defArgs d0.st) (defBody d0.st) (defScope d0.st) (.ref T) kV doc pm an cdv ct) ⟨us, []⟩ = seqItems? (.ref T) >>= k ∧ k (some its.toArray) = pure (d0.ps.zip (us ++ its.drop j))
  | .kw _ n ks sel dl => ks ≠ [] ∧ n + ks.length = a ∧ sel.length = d0.fn.a ∧ selB sel a dl.length = true ∧ d0.dfl.map dvD = dl.map some ∧
      ((d0.dfl = [] ∧ ∀ (kV doc pm : Value) (an : Option Addr) (cdv ct : Value) (us ws : List Value), us.length = n → ws.length = ks.length →
        bindArgs (PySem.W.fnOf d0.x d0.q (defArgs d0.st) (defBody d0.st) (defScope d0.st) .none kV doc pm an cdv ct) ⟨us, ks.zip ws⟩ = pure (d0.ps.zip (selA sel (us ++ ws) [] .none))) ∨
       (d0.dfl ≠ [] ∧ ∀ (T : Addr) (kV doc pm : Value) (an : Option Addr) (cdv ct : Value) (us its ws : List Value), us.length = n → its.length = d0.dfl.length → ws.length = ks.length →
        ∃ k, bindArgs (PySem.W.fnOf d0.x d0.q (defArgs d0.st) (defBody d0.st) (defScope d0.st) (.ref T) kV doc pm an cdv ct) ⟨us, ks.zip ws⟩ = seqItems? (.ref T) >>= k ∧ k (some its.toArray) = pure (d0.ps.zip (selA sel (us ++ ws) its .none))))
/-- a def that is called with fewer arguments or by names -/
structure VirOk (Ds : List Df) (d : Df) (v : Vr) (d0 : Df) : Prop where
  at0 : Ds[v.f0]? = some d0
  x : d0.x = d.x
  c0 : d0.cls = none
  c : d.cls = none
  bnd : VirB d0 d.fn.a v
abbrev VirAll (Ds : List Df) : Prop := ∀ d ∈ Ds, ∀ v, d.vir = some v → ∃ d0, VirOk Ds d v d0
theorem selA_vals {sel : List (Nat ⊕ Nat)} : ∀ {vs ds : List V} {us its : List Value}, Vals vs us → Vals ds its → Vals (selA sel vs ds .non) (selA sel us its .none) := by
  intro vs ds us its r1 r2
  have gt : ∀ {vs : List V} {us : List Value}, Vals vs us → ∀ i, RelV (vs.getD i .non) (us.getD i .none) := fun {vs us} r => by
    induction r with
    | nil => exact fun i => rfl
    | cons h t ih =>
      intro i
      cases i with
      | zero => exact h
      | succ i => exact ih i
  unfold selA
  induction sel with
  | nil => exact .nil
  | cons x r ih =>
    refine .cons ?_ ih
    cases x with
    | inl i => exact gt r1 i
    | inr j => exact gt r2 j
def clOf (K : PySem.W.Frag) (ci : Option Ci) : Nat → Addr := fun _ => match ci with
  | some c => ga K c.name
  | none => 0
theorem ixs_ok {p : Df → Bool} : ∀ {Ds : List Df} {n : Nat} {x : Df × Nat}, x ∈ ixs p Ds n → ∃ i, x.2 = n + i ∧ Ds[i]? = some x.1 ∧ p x.1 = true
  | [], _, _, h => by cases h
  | d :: r, n, x, h => by
    unfold ixs at h
    split at h
    · rename_i q
      rcases List.mem_cons.mp h with e | h
      · rw [e]; exact ⟨0, rfl, rfl, q⟩
      · obtain ⟨i, e1, e2, e3⟩ := ixs_ok h
        exact ⟨i + 1, by omega, e2, e3⟩
    · obtain ⟨i, e1, e2, e3⟩ := ixs_ok h
      exact ⟨i + 1, by omega, e2, e3⟩
theorem tw_ok {p : Df → Bool} : ∀ {Ds : List Df} {i : Nat} {d : Df}, (Ds.takeWhile p)[i]? = some d → Ds[i]? = some d ∧ p d = true
  | [], i, d, h => by simp at h
  | e :: r, i, d, h => by
    rw [List.takeWhile_cons] at h
    split at h
    · rename_i q
      cases i with
      | zero => cases h; exact ⟨rfl, q⟩
      | succ i => exact tw_ok (Ds := r) (i := i) h
    · cases h
section
variable {Ds : List Df} {gl : List (Str × D)} {ci : Option Ci} {xs : List Str} {P : Program} {w : World} {K : PySem.W.Frag} {h h2 : Heap} {mg : Str → Option Value}
theorem nodup_at {α : Type} : ∀ {l : List α} {i j : Nat} {x : α}, l.Nodup → l[i]? = some x → l[j]? = some x → i = j := by
  intro l i j x h h1 h2
  obtain ⟨a1, b1⟩ := List.getElem?_eq_some_iff.mp h1
  obtain ⟨a2, b2⟩ := List.getElem?_eq_some_iff.mp h2
  have w := List.pairwise_iff_getElem.mp h
  rcases Nat.lt_trichotomy i j with z | z | z
  · exact absurd (b1.trans b2.symm) (w i j a1 a2 z)
  · exact z
  · exact absurd (b2.trans b1.symm) (w j i a2 a1 z)
theorem tab_at (c : SaysX (faOf Ds ci xs) (Ds.map Df.dd) [] (tfOf Ds) (exT Ds gl) w h2 K) {base : Heap} (tb : ∀ p ∈ csOf Ds K, LamX.TabB base mg p.1 p.2) {d : Df} (hd : d ∈ Ds) (hl : d.lm = true) :
    @TabD ⟨tabOfK Ds K⟩ K base mg (fAd K d.at_) d.q := by
  have hm : d ∈ Ds.filter (·.lm) := List.mem_filter.mpr ⟨hd, hl⟩
  refine ⟨(cT K d.at_).2, ?_, ?_, fun p hp e => ?_⟩
  · exact tb _ (List.mem_map.mpr ⟨_, List.mem_map.mpr ⟨_, hm, rfl⟩, rfl⟩)
  · exact List.mem_map.mpr ⟨_, hm, rfl⟩
  · obtain ⟨q, hq, rfl⟩ := List.mem_map.mp (show p ∈ tabOfK Ds K from hp)
    have nd := of_decide_eq_true (and2 c.more).2
    obtain ⟨i, hi⟩ := List.mem_iff_getElem?.mp hq
    obtain ⟨j, hj⟩ := List.mem_iff_getElem?.mp hm
    have e1 : ((Ds.filter (·.lm)).map fun d => (cT K d.at_).2)[i]? = some (cT K q.at_).2 := by rw [List.getElem?_map, hi]; rfl
    have e2 : ((Ds.filter (·.lm)).map fun d => (cT K d.at_).2)[j]? = some (cT K q.at_).2 := by rw [List.getElem?_map, hj]; exact congrArg some e.symm
    have ij := nodup_at nd e1 e2
    subst ij
    rw [hi] at hj
    cases hj
    rfl
theorem fun_at (c : SaysX (faOf Ds ci xs) (Ds.map Df.dd) [] (tfOf Ds) (exT Ds gl) w h2 K) {d : Df} (hd : d ∈ Ds) : ∃ fd, FunD K d.x d.q (defArgs d.st) (defBody d.st) (defScope d.st) (d.dfl.map (Dv.v K)) [] (fAd K d.at_) fd := by
  obtain ⟨fd, F⟩ := c.t.d.defs (List.mem_map.mpr ⟨d, hd, rfl⟩)
  exact ⟨fd, F⟩
theorem bind_at {d : Df} {f : Addr} {fd : FuncData} (F : FunD K d.x d.q (defArgs d.st) (defBody d.st) (defScope d.st) (d.dfl.map (Dv.v K)) [] f fd) (b : BindOk d) : Binds K fd d.ps [] := by
  cases b with
  | non e h =>
    rw [e] at F
    exact F.bindsN h
  | dfl e h =>
    obtain ⟨ds, r, hb⟩ := F.binds1 (ps := d.ps) d.ps.length (d.dfl.map (Dv.v K)).length (fun z => e (List.map_eq_nil_iff.mp z)) (by omega) fun T kV doc pm an cdv ct us its l1 l2 => by
      rw [List.length_map] at l2
      obtain ⟨k, e1, e2⟩ := h T kV doc pm an cdv ct us its l1 l2
      refine ⟨k, e1, ?_⟩
      rw [List.drop_eq_nil_of_le (by rw [List.length_map, l2]; exact Nat.le_refl _), List.append_nil]
      exact e2
    rw [List.drop_length] at r
    cases r
    exact hb
theorem def_at (c : SaysX (faOf Ds ci xs) (Ds.map Df.dd) [] (tfOf Ds) (exT Ds gl) w h2 K) (hb : ∀ d ∈ Ds, d.vir = none → BindOk d) {base : Heap} (tb : ∀ p ∈ csOf Ds K, LamX.TabB base mg p.1 p.2) {d : Df} (hd : d ∈ Ds) (hv0 : d.vir = none) (hc : ckDf (nmOf Ds gl ci xs) d = true) (x : Str) :
    @DefOk ⟨tabOfK Ds K⟩ K mg base d.lm x d.N d.fn.a (defBody d.st) (defScope d.st) (fAd K d.at_) := by
  obtain ⟨h1, h2, h3, h4⟩ := and4 hc
  obtain ⟨fd, F⟩ := fun_at c hd
  have le := of_decide_eq_true h3
  letI : TabT := ⟨tabOfK Ds K⟩
  refine ⟨fd, d.x, d.q, _, d.ps, _, [], F, (fun q => tab_at c tb hd q), bind_at F (hb d hd hv0), scB_ok h1, ?_⟩
  show (d.N.take d.fn.a).length = _
  rw [List.length_take]; omega
theorem fa_at (c : SaysX (faOf Ds ci xs) (Ds.map Df.dd) [] (tfOf Ds) (exT Ds gl) w h2 K) {f : Fa} (hf : f ∈ faC Ds ci) : f.ok K = true := c.t.d.facts (List.mem_append_right _ (List.mem_append_right _ (List.mem_append_left _ hf)))
theorem fx_at (c : SaysX (faOf Ds ci xs) (Ds.map Df.dd) [] (tfOf Ds) (exT Ds gl) w h2 K) {f : Fa} (hf : f ∈ faX xs) : f.ok K = true := c.t.d.facts (List.mem_append_right _ (List.mem_append_right _ (List.mem_append_right _ hf)))
theorem all_fi (X : K.In h) (G : h.Ns mainGlobals mg) (c : SaysX (faOf Ds ci xs) (Ds.map Df.dd) [] (tfOf Ds) (exT Ds gl) w h2 K) (hb : ∀ d ∈ Ds, d.vir = none → BindOk d) (hvi : VirAll Ds) (hc : Ds.all (ckDf (nmOf Ds gl ci xs)) = true) {base : Heap} (tb : ∀ p ∈ csOf Ds K, LamX.TabB base mg p.1 p.2) (k : Nat) :
    @Env2 ⟨tabOfK Ds K⟩ K (clOf K ci) (cxO K xs) P w mg base (tbOf Ds gl k) (nmOf Ds gl ci xs) (4 * k) := by
  letI : TabT := ⟨tabOfK Ds K⟩
  have all := fun (d : Df) (hd : d ∈ Ds) => List.all_eq_true.mp hc d hd
  have fre : ∀ x ∈ fFree, mg x = none := fun x hx => free_ok X G (c.t.d.facts (f := .free x) (List.mem_append_right _ (List.mem_append_left _ (List.mem_map.mpr ⟨x, hx, rfl⟩))))
  have gls : ∀ g x, (nmOf Ds gl ci xs).gls[g]? = some x → ∃ (u : Value) (v : V), mg x = some u ∧ RelV v u ∧ ∀ A H, Rep K (clOf K ci) A H (gOfL gl g) v := fun g x hx => by
    have hx : (gl.map (·.1))[g]? = some x := hx
    rw [List.getElem?_map] at hx
    cases e : gl[g]? with
    | none => rw [e] at hx; cases hx
    | some p =>
      rw [e] at hx
      cases hx
      have q := List.all_eq_true.mp (and2 c.more).1 p (List.mem_of_getElem? e)
      have eg : gOfL gl g = p.2 := by unfold gOfL; rw [e]; rfl
      rw [eg]
      cases e2 : PySem.W.nsIn K mainGlobals p.1 with
      | none => rw [e2] at q; cases q
      | some o =>
        cases o with
        | none => rw [e2] at q; cases q
        | some u =>
          rw [e2] at q
          obtain ⟨v, r, k⟩ := gB_ok (cl := clOf K ci) p.2 u q
          exact ⟨u, v, PySem.W.mg_of X G e2, r, k⟩
  have blt : ∀ b, bifV b ≠ .none → mg (bifN b) = none := fun b hb => by
    cases b <;> first | exact absurd rfl hb | exact fre _ (by decide +kernel)
  have kwE : ∀ {f : Nat} {d : Df}, Ds[f]? = some d → (nmOf Ds gl ci xs).kws.getD f [] = kwO d.vir := fun {f d} e => by
    show (Ds.map fun d => kwO d.vir).getD f [] = _
    rw [List.getD_eq_getElem?_getD, List.getElem?_map, e]; rfl
  have arsE : ∀ {f : Nat} {d : Df}, Ds[f]? = some d → (nmOf Ds gl ci xs).ars.getD f 0 = d.fn.a := fun {f d} e => by
    show (Ds.map (·.fn.a)).getD f 0 = _
    rw [List.getD_eq_getElem?_getD, List.getElem?_map, e]; rfl
  have ok : ∀ {f : Nat} {d : Df}, Ds[f]? = some d → d.vir = none → ∀ x, DefOk K mg base (((Ds[f]?).map (·.lm)).getD false) x d.N ((nmOf Ds gl ci xs).ars.getD f 0) (defBody d.st) (defScope d.st) (fAd K d.at_) := fun {f d} e hv0 x => by
    rw [arsE e, e]
    exact def_at c hb tb (List.mem_of_getElem? e) hv0 (all d (List.mem_of_getElem? e)) x
  have mv : ∀ {f : Nat} {d : Df}, Ds[f]? = some d → d.cls ≠ none → d.vir = none ∧ vdOf Ds f = none := fun {f d} e hc0 => by
    constructor
    · cases hv : d.vir with
      | none => rfl
      | some p =>
        obtain ⟨d0, V⟩ := hvi d (List.mem_of_getElem? e) p hv
        exact absurd V.c hc0
    · unfold vdOf
      rw [e]
      show (if d.cls.isNone then d.vir else none) = none
      cases hc : d.cls with
      | none => exact absurd hc hc0
      | some c => rfl
  have gx : ∀ {e : Nat} {x : Str}, xs[e]? = some x → xs.getD e Str.empty = x := fun {e x} h => by rw [List.getD_eq_getElem?_getD, h]; rfl
  have exs : ∀ e x, (nmOf Ds gl ci xs).exs[e]? = some x → ExF K mg (cxO K xs e) x := fun e x hx => by
    have hx : xs[e]? = some x := hx
    have hm := List.mem_of_getElem? hx
    unfold cxO
    rw [gx hx]
    obtain ⟨a1, a2, a3, a4⟩ := exc_ok (fx_at c (f := .exc x) (List.mem_append_right _ (List.mem_append_left _ (List.mem_map_of_mem hm))))
    exact ⟨glo_ok X G (fx_at c (f := .glo x) (List.mem_append_left _ (List.mem_map_of_mem hm))), a1, a2, a3, a4⟩
  have exm : ∀ e e' x x', (nmOf Ds gl ci xs).exs[e]? = some x → (nmOf Ds gl ci xs).exs[e']? = some x' → PySem.W.exmOne K (.ref (cxO K xs e)) (.ref (cxO K xs e')) = some (decide (e = e')) := fun e e' x x' h1 h2 => by
    have h1 : xs[e]? = some x := h1
    have h2 : xs[e']? = some x' := h2
    have l1 := (List.getElem?_eq_some_iff.mp h1).1
    have l2 := (List.getElem?_eq_some_iff.mp h2).1
    exact exm_ok (fx_at c (f := .exm (xs.getD e Str.empty) (xs.getD e' Str.empty) (decide (e = e'))) (List.mem_append_right _ (List.mem_append_right _ (List.mem_flatMap.mpr ⟨e, List.mem_range.mpr l1, List.mem_map.mpr ⟨e', List.mem_range.mpr l2, rfl⟩⟩))))
  have aks : ∀ q ∈ (nmOf Ds gl ci xs).aks, AskD K mg (nmOf Ds gl ci xs).exs q := fun q hq => by
    obtain ⟨d, hd, e⟩ := List.mem_filterMap.mp (show q ∈ Ds.filterMap fun d => if d.cls.isNone && d.vir.isNone then d.tel.map fun t => (d.x, t) else none from hq)
    split at e
    · rename_i q0
      obtain ⟨ec, ev⟩ := and2 q0
      cases et : d.tel with
      | none => rw [et] at e; cases e
      | some t =>
        rw [et] at e
        cases e
        obtain ⟨h1, h2, h3, h4⟩ := and4 (all d hd)
        have h4 := (and2 h4).2
        unfold telOk at h4
        rw [et] at h4
        obtain ⟨t1, t2, t3⟩ := and3 h4
        have t2 := of_decide_eq_true t2
        have h3 := of_decide_eq_true h3
        obtain ⟨fd, F⟩ := fun_at c hd
        have B := bind_at F (hb d hd (Option.isNone_iff_eq_none.mp ev))
        have kp := F.kp
        have en : d.cls = none := Option.isNone_iff_eq_none.mp ec
        have ea : d.at_ = (d.x, none) := by unfold Df.at_; rw [en]
        have hg := glo_ok X G (c.t.d.facts (f := .glo d.x) (List.mem_append_left _ (List.mem_map.mpr ⟨d, List.mem_filter.mpr ⟨hd, ec⟩, rfl⟩)))
        have hg : mg d.x = some (.ref (fAd K d.at_)) := by rw [ea]; exact hg
        have ps : d.ps = [d.N.getD 0 Str.empty] := by
          show d.N.take d.fn.a = _
          rw [t2]
          cases hN : d.N with
          | nil => rw [hN, t2] at h3; exact absurd h3 (by decide)
          | cons y r => rfl
        have S := scB_ok h1
        rw [ps] at B S
        obtain ⟨oc, od, dV, kV, doc, pm, an, cdv, ct, osl, rfl, lk, hcd, hD, hK⟩ := F.ex
        exact ⟨fAd K d.at_, d.N, _, d.x, d.q, defScope d.st, defArgs d.st, defBody d.st, dV, kV, doc, pm, cdv, ct, oc, an, od, osl, hg, kp, lk, hcd, B, S, t3, t1⟩
    · cases e
  refine all_sound (K := K) (cl := clOf K ci) (cx := cxO K xs) (P := P) (w := w) (mg := mg) (base := base) (G := gOfL gl) (F := fun f => (Ds[f]?).map (·.fn)) (Vd := vdOf Ds) (M := nmOf Ds gl ci xs) (Ds := fun f => (Ds[f]?).map fun d => (d.N, defBody d.st, defScope d.st)) (Lm := fun f => ((Ds[f]?).map (·.lm)).getD false)
    (fun f x hx => ?_) (fun m f hx => ?_) (fun x c0 f hx => ?_) (fun f N body scope e => ?_) (fun _ => rfl) (fun f hf => ?_) gls blt (fre _ (by decide +kernel)) (fre _ (by decide +kernel)) (fre _ (by decide +kernel)) (fun x hx => fre x (List.mem_append_left _ hx)) aks exs exm k
  · have hx : ((Ds.takeWhile (·.cls.isNone)).map (·.x))[f]? = some x := hx
    rw [List.getElem?_map] at hx
    cases e : (Ds.takeWhile (·.cls.isNone))[f]? with
    | none => rw [e] at hx; cases hx
    | some d =>
      rw [e] at hx
      cases hx
      obtain ⟨e, ec⟩ := tw_ok e
      have hd := List.mem_of_getElem? e
      have en : d.cls = none := Option.isNone_iff_eq_none.mp ec
      have ea : d.at_ = (d.x, none) := by unfold Df.at_; rw [en]
      have hg := glo_ok X G (c.t.d.facts (f := .glo d.x) (List.mem_append_left _ (List.mem_map.mpr ⟨d, List.mem_filter.mpr ⟨hd, ec⟩, rfl⟩)))
      have ev : vdOf Ds f = d.vir := by
        unfold vdOf
        rw [e]
        show (if d.cls.isNone then d.vir else none) = _
        rw [ec]; rfl
      cases hv : d.vir with
      | none =>
        obtain ⟨fd, F⟩ := fun_at c hd
        refine .inl ⟨by rw [ev, hv], by rw [kwE e, hv]; rfl, d.N, defBody d.st, defScope d.st, fAd K d.at_, by rw [e]; rfl, ?_, F.kp, ok e hv _⟩
        rw [ea]
        exact hg
      | some v =>
        obtain ⟨d0, V⟩ := hvi d hd v hv
        have hd0 := List.mem_of_getElem? V.at0
        obtain ⟨fd, F⟩ := fun_at c hd0
        have ea0 : d0.at_ = (d.x, none) := by unfold Df.at_; rw [V.c0, V.x]
        obtain ⟨h1, h2, h3, h4⟩ := and4 (all d0 hd0)
        have le := of_decide_eq_true h3
        have pl : d0.ps.length = d0.fn.a := by
          show (d0.N.take d0.fn.a).length = _
          rw [List.length_take]; omega
        have vb : VBind K (clOf K ci) fd d0.ps (kwO d.vir) d.fn.a d0.fn.a v := by
          have B := V.bnd
          rw [hv]
          cases v with
          | df f0 dl =>
            obtain ⟨b1, b2, j, hj, hbd⟩ := B
            have lj : d0.dfl.length - j = dl.length := by
              have := congrArg List.length hj
              rw [List.length_map, List.length_map, List.length_drop] at this
              exact this
            obtain ⟨ds, r, hbn⟩ := F.binds1 (ps := d0.ps) d.fn.a j (fun z => b2 (List.map_eq_nil_iff.mp z)) (by rw [List.length_map, lj, pl]; exact b1) fun T kV doc pm an cdv ct us its l1 l2 => by
              rw [List.length_map] at l2
              exact hbd T kV doc pm an cdv ct us its l1 l2
            refine ⟨rfl, b1, ds, _, hbn, r, fun A H => ?_⟩
            rw [← List.map_drop]
            exact dv_reps _ _ hj A H
          | kw f0 n ks sel dl =>
            obtain ⟨b1, b2, b3, b4, b5, b6⟩ := B
            obtain ⟨oc, od, dV, kV, doc, pm, an, cdv, ct, osl, rfl, lk, hcd, hD, hK⟩ := F.ex
            refine ⟨rfl, b1, b2, b3, selB_ok b4, ?_⟩
            rcases b6 with ⟨e0, hb⟩ | ⟨e0, hb⟩
            · rcases hD with ⟨_, rfl⟩ | ⟨e, _⟩
              · refine ⟨[], d0.dfl.map (Dv.v K), dv_reps _ _ b5, ⟨fun s us ws X l1 l2 => .of_eq (hb kV doc pm an cdv ct us ws l1 l2), fun {vs us zs ws} r1 r2 => ?_⟩⟩
                rw [e0]
                exact selA_vals (r1.append r2) .nil
              · exact absurd (List.map_eq_nil_iff.mpr e0) e
            · rcases hD with ⟨e, _⟩ | ⟨_, T, o, its, m, rfl, lT, oT, rT⟩
              · exact absurd (List.map_eq_nil_iff.mp e) e0
              · refine ⟨its, d0.dfl.map (Dv.v K), dv_reps _ _ b5, ⟨fun s us ws X l1 l2 => ?_, fun {vs us zs ws} r1 r2 => selA_vals (r1.append r2) rT⟩⟩
                obtain ⟨k, e1, e2⟩ := hb T kV doc pm an cdv ct us its ws l1 (by rw [← rT.length, List.length_map]) l2
                refine BindsTo.of_looks fun M => ?_
                rw [e1]
                exact looks_items X lT oT (.of_pure e2)
        refine .inr ⟨v, d0.N, defBody d0.st, defScope d0.st, fAd K d0.at_, by rw [ev, hv], by rw [V.at0]; rfl, by rw [ea0]; exact hg, F.kp, ⟨fd, d0.x, d0.q, _, d0.ps, _, [], F, fun q => tab_at c tb hd0 (by rw [V.at0] at q; exact q), ?_, scB_ok h1, by rw [pl, arsE V.at0]⟩⟩
        rw [arsE e, arsE V.at0, kwE e]
        exact vb
  · obtain ⟨p, hp, e⟩ := List.mem_map.mp (show (m, f) ∈ (ixs (isM ci) Ds 0).map (fun p => (p.1.x, p.2)) from hx)
    obtain ⟨i, e1, e2, e3⟩ := ixs_ok hp
    injection e with e4 e5
    rw [Nat.zero_add] at e1
    rw [← e1, e5] at e2
    cases ci with
    | none => cases e3
    | some cc =>
      have hd := List.mem_of_getElem? e2
      have ec : p.1.cls = some cc.name := of_decide_eq_true (and2 e3).1
      have ea : p.1.at_ = (cc.name, some p.1.x) := by unfold Df.at_; rw [ec]
      refine ⟨(mv e2 (by rw [ec]; exact fun z => nomatch z)).2, p.1.N, defBody p.1.st, defScope p.1.st, fAd K p.1.at_, by rw [e2]; rfl, cls_ok (fa_at c (List.mem_cons_of_mem _ List.mem_cons_self)), ?_, ok e2 (mv e2 (by rw [ec]; exact fun z => nomatch z)).1 _⟩
      rw [ea, ← e4]
      exact meth_ok (fa_at c (List.mem_cons_of_mem _ (List.mem_cons_of_mem _ (List.mem_append_right _ (List.mem_append_left _ (List.mem_map.mpr ⟨p.1, List.mem_filter.mpr ⟨hd, e3⟩, rfl⟩))))))
  · cases ci with
    | none => cases hx
    | some cc =>
      obtain ⟨p, hp, e⟩ := List.mem_map.mp (show (x, c0, f) ∈ (ixs (isI (some cc)) Ds 0).map (fun p => (cc.name, 0, p.2)) from hx)
      obtain ⟨i, e1, e2, e3⟩ := ixs_ok hp
      injection e with e4 e5
      injection e5 with e6 e7
      rw [Nat.zero_add] at e1
      rw [← e1, e7] at e2
      have hd := List.mem_of_getElem? e2
      have ec : p.1.cls = some cc.name := of_decide_eq_true (and2 e3).1
      have ex : p.1.x = "__init__" := of_decide_eq_true (and2 e3).2
      have ea : p.1.at_ = (cc.name, some ("__init__" : Str)) := by unfold Df.at_; rw [ec, ex]
      refine ⟨p.1.N, defBody p.1.st, defScope p.1.st, fAd K p.1.at_, by rw [e2]; rfl, ?_, ?_, ok e2 (mv e2 (by rw [ec]; exact fun z => nomatch z)).1 _⟩
      · rw [← e4]
        exact glo_ok X G (fa_at c List.mem_cons_self)
      · rw [ea]
        exact mkr_ok (fa_at c (List.mem_cons_of_mem _ (List.mem_cons_of_mem _ (List.mem_append_right _ (List.mem_append_right _ (List.mem_map.mpr ⟨p.1, List.mem_filter.mpr ⟨hd, e3⟩, rfl⟩))))))
  · cases e1 : Ds[f]? with
    | none => rw [e1] at e; cases e
    | some d =>
      rw [e1] at e
      cases e
      obtain ⟨h1, h2, h3, h4⟩ := and4 (all d (List.mem_of_getElem? e1))
      exact ⟨d.fn, rfl, (arsE e1).symm, of_decide_eq_true h2, (and2 h4).1⟩
  · cases ci with
    | none => cases hf
    | some cc => exact ⟨cls_ok (fa_at c (List.mem_cons_of_mem _ List.mem_cons_self)), noat_ok (fa_at c (List.mem_cons_of_mem _ (List.mem_cons_of_mem _ (List.mem_append_left _ (List.mem_map.mpr ⟨f, hf, rfl⟩)))))⟩
theorem law_fn (X : K.In h) (G : h.Ns mainGlobals mg) (c : SaysX (faOf Ds ci xs) (Ds.map Df.dd) [] (tfOf Ds) (exT Ds gl) w h2 K) (hb : ∀ d ∈ Ds, d.vir = none → BindOk d) (hvi : VirAll Ds) (hc : Ds.all (ckDf (nmOf Ds gl ci xs)) = true) (k : Nat) {f : Nat} {d : Df} (hd : Ds[f]? = some d) (hn : d.cls = none) (hdf : d.dfl = []) (hdv : d.vir = none) :
    ∃ fd, mg d.x = some (.ref (fAd K d.at_)) ∧ (∀ (s : Shared) (us : List Value), us.length = d.ps.length → BindsTo s fd ⟨us, []⟩ (d.ps.zip us)) ∧
      ∀ base : Heap, K.In base → base.Ns mainGlobals mg → (∀ p ∈ csOf Ds K, LamX.TabB base mg p.1 p.2) → FnOk P w K mg base (L2.CX P w) (4 * k + 4) (fAd K d.at_) fd d.ps (@spF ⟨tabOfK Ds K⟩ K (clOf K ci) (cxO K xs) d.fn.a ((tbOf Ds gl (k + 1)).C f)) := by
  letI : TabT := ⟨tabOfK Ds K⟩
  have hmem : d ∈ Ds := List.mem_of_getElem? hd
  have hcd := List.all_eq_true.mp hc d hmem
  obtain ⟨fd, F⟩ := fun_at c hmem
  have ea : d.at_ = (d.x, none) := by unfold Df.at_; rw [hn]
  have hm : mg d.x = some (.ref (fAd K d.at_)) := by
    rw [ea]
    exact glo_ok X G (c.t.d.facts (f := .glo d.x) (List.mem_append_left _ (List.mem_map.mpr ⟨d, List.mem_filter.mpr ⟨hmem, by rw [hn]; rfl⟩, rfl⟩)))
  refine ⟨fd, hm, fun s us hl => ?_, fun base KB GB tb => ?_⟩
  · cases hb d hmem hdv with
    | non e hh =>
      rw [e] at F
      exact F.bindsA (ps := d.ps) hh s us hl
    | dfl e _ => exact absurd hdf e
  · have e2 := all_fi (P := P) (base := base) X G c hb hvi hc tb k
    obtain ⟨h1, h2, h3, h4⟩ := and4 hcd
    have le := of_decide_eq_true h3
    have e3 : (tbOf Ds gl (k + 1)).C f = runF (tbOf Ds gl k) d.fn := by
      funext as
      have ev : vdOf Ds f = none := by
        unfold vdOf
        rw [hd]
        show (if d.cls.isNone then d.vir else none) = _
        rw [hdv]
        split <;> rfl
      show (match vdOf Ds f with
        | some v => (match (Ds[v.f0]?).map (fun d : Df => d.fn) with
          | some g => callV (runF (tbOf Ds gl k) g) v as
          | none => .bad)
        | none => match (Ds[f]?).map (fun d : Df => d.fn) with
          | some g => runF (tbOf Ds gl k) g as
          | none => .bad) = _
      rw [ev, hd]; rfl
    rw [e3]
    exact fun_sound (T := tbOf Ds gl k) (M := { nmOf Ds gl ci xs with lm := d.lm }) F (fun q => tab_at c tb hmem q) (e2.lm _) (scB_ok h1) (by show (d.N.take d.fn.a).length = _; rw [List.length_take]; omega) rfl (of_decide_eq_true h2) (and2 h4).1
theorem noO1 {d : D} : NoO [(.dat, d)] := fun j e h => by
  cases j with
  | zero => cases h
  | succ j => cases h
/-- the law's def keeps its promise -/
theorem law_end [TabT] {C : List (Fl × D) → R ((Fl × D) × List D)} {cl cx : Nat → Addr} {H : Hp} {a : Addr} {ns : List Int} {outs : List D} (hS : SqL K H a (ns.map V.int)) (ht : TabsK H) (hC : C [(.dat, .scr ns)] = .ok ((.dat, .bl true), outs)) :
    spF K cl cx 1 C [.ref a] H (fun v _ => v = .bl true) fun _ _ _ => False := by
  refine ⟨noA, fun _ => [], [(.dat, .scr ns)], ⟨rfl, fun j x v hx hv => ?_, (fun i j a h => by cases h), (fun _ _ => rfl)⟩, ⟨(fun a h => h.elim), ht, noO1⟩, rfl, ?_⟩
  · cases j with
    | zero =>
      cases hx
      cases hv
      refine .dat (.scr ?_) rfl
      rcases hS with hS | hS
      · exact .inl ⟨hS, fun h => h⟩
      · exact .inr hS
    | succ j => cases hx
  · rw [hC]
    intro v H' _ _ r
    have r : Rep K cl noA H' (.bl true) v := r
    cases r
    rfl
theorem tabs_nil {H : Hp} (e : ∀ p ∈ csOf Ds K, H p.2 = some (.tbl #[])) : @TabsK ⟨tabOfK Ds K⟩ H := by
  intro p hp
  obtain ⟨q, hq, rfl⟩ := List.mem_map.mp (show p ∈ tabOfK Ds K from hp)
  exact LamX.TabS.nil (e _ (List.mem_map.mpr ⟨_, List.mem_map.mpr ⟨q, hq, rfl⟩, rfl⟩))
end
/-- the end of a law whose defs may raise, and make lambdas -/
theorem walk_w {lw : PySem.W.OpenLaw} {most kk : Nat} {vw : Program} {ls : List Str} {XQ : (Str → Option Value) → Heap → Prop} {YQ : World → Heap → Prop} {dr : DefRec} {xp : Str}
    (h1 : lw.most = some most) (h2 : most ≤ sizeLine) (h3 : dr.params.defaults = []) (room : Room kk callerA)
    (F : ∀ (w : World) (mg : Str → Option Value) (fa : Addr) (h : Heap), YQ w h → h.Ns mainGlobals mg → mg dr.name = some (.ref fa) →
      ∃ (K : PySem.W.Frag) (fd : FuncData) (cs : List (Addr × Addr)) (sp : Sp), K.In h ∧ (∀ p ∈ cs, h.get? p.2 = some { cls := .none, data := .fields #[] }) ∧ (∀ p ∈ cs, K.lookup p.2 = none) ∧ (∀ p ∈ cs, PySem.W.CodeHd h p.1 p.2) ∧
        (∀ (s : Shared) (u : Value), BindsTo s fd ⟨[u], []⟩ [(xp, u)]) ∧
        (∀ (H : Hp) (a : Addr) (ns : List Int), ns.length ≤ most → (∀ p ∈ cs, H p.2 = some (.tbl #[])) → SqL K H a (ns.map V.int) → sp [.ref a] H (fun v _ => v = .bl true) fun _ _ _ => False) ∧
        ∀ base : Heap, K.In base → base.Ns mainGlobals mg → (∀ p ∈ cs, LamX.TabB base mg p.1 p.2) → FnOk lw.prog w K mg base (L2.CX lw.prog w) kk fa fd [xp] sp) :
    PySem.W.WalkO vw ls XQ YQ lw.row.toRowW dr [] (fun f vs => PySem.call f vs) := by
  refine Att.attach_callB h1 h3 fun w r0 r1 mg mb fa ob pm cd doc ad us ns Gd Yd q1 q2 q3 q4 q5 q6 q7 q8 q9 => ?_
  obtain ⟨K, fd, cs, sp, KX, c1, c2, c3, hb, hsp, hF⟩ := F w mg fa _ Yd Gd.T.g q4
  refine LamX.law_callTs KX Gd.T.g Gd.T.b Gd.T.builtins Gd.T.nolimit q9 c1 c2 c3 Gd.T.bmain q5 q6 (Nat.le_trans q7 h2) room hF hb (fun H hH hS => hsp H ad ns q7 hH hS) fun H e t z => ?_
  obtain ⟨_, _, _, _, _, _, _, _, _, _, _, _, y⟩ := z
  exact y.elim
/-- what the law's end asks, told by the head -/
theorem law_at {Ds : List Df} {gl : List (Str × D)} {ci : Option Ci} {xs : List Str} {w : World} {K : PySem.W.Frag} {h : Heap} (X : K.In h) (c : SaysX (faOf Ds ci xs) (Ds.map Df.dd) [] (tfOf Ds) (exT Ds gl) w h K) :
    (∀ p ∈ csOf Ds K, h.get? p.2 = some { cls := .none, data := .fields #[] }) ∧ (∀ p ∈ csOf Ds K, K.lookup p.2 = none) ∧ ∀ p ∈ csOf Ds K, PySem.W.CodeHd h p.1 p.2 := by
  refine ⟨fun p hp => ?_, fun p hp => ?_, fun p hp => ?_⟩
  · obtain ⟨q, hq, rfl⟩ := List.mem_map.mp hp
    exact c.empty q hq
  · obtain ⟨q, hq, rfl⟩ := List.mem_map.mp hp
    exact c.out q hq
  · obtain ⟨q, hq, rfl⟩ := List.mem_map.mp hp
    exact PySem.W.codeHd_of_K X (c.hd q hq)
end DD
namespace DD
open PySem
/-- where no table is asked for -/
instance (priority := low) tabT0 : TabT := ⟨[]⟩
section
variable {T : Tb} {σ : Sg}
@[simp] theorem fl_db : (Fl.dat == Fl.brw) = false := rfl
@[simp] theorem fl_ob : (Fl.own == Fl.brw) = false := rfl
@[simp] theorem fl_bb : (Fl.brw == Fl.brw) = true := rfl
@[simp] theorem fl_ib : (Fl.ino == Fl.brw) = false := rfl
@[simp] theorem fl_dd : (Fl.dat == Fl.dat) = true := rfl
@[simp] theorem fn_db : (Fl.dat != Fl.brw) = true := rfl
@[simp] theorem fn_di : (Fl.dat != Fl.ino) = true := rfl
@[simp] theorem fn_ob : (Fl.own != Fl.brw) = true := rfl
@[simp] theorem fn_oi : (Fl.own != Fl.ino) = true := rfl
@[simp] theorem at_0 {x : Sl} {r : Sg} : Sg.at (x :: r) 0 = x := rfl
@[simp] theorem at_S {x : Sl} {r : Sg} {n : Nat} : Sg.at (x :: r) (n + 1) = Sg.at r n := rfl
@[simp] theorem look_dat {d : D} : look (.dat, d) = .ok d := rfl
@[simp] theorem look_own {d : D} : look (.own, d) = .ok d := rfl
@[simp] theorem look_brw {d : D} : look (.brw, d) = .ok d := rfl
@[simp] theorem keep_dat {d : D} : keep (.dat, d) = .ok d := rfl
@[simp] theorem keep_own {d : D} : keep (.own, d) = .ok d := rfl
@[simp] theorem looks_nil : looks [] = .ok [] := rfl
@[simp] theorem looks_cons {x : Fl × D} {r : List (Fl × D)} : looks (x :: r) = (look x >>= fun d => looks r >>= fun ds => .ok (d :: ds)) := rfl
@[simp] theorem keeps_nil : keeps [] = .ok [] := rfl
@[simp] theorem keeps_cons {x : Fl × D} {r : List (Fl × D)} : keeps (x :: r) = (keep x >>= fun d => keeps r >>= fun ds => .ok (d :: ds)) := rfl
@[simp] theorem boolD_bl {f : Fl} {b : Bool} : boolD (f, .bl b) = .ok b := rfl
@[simp] theorem if_bl {b : Bool} {σ : Sg} : (if b = true then (R.ok ((Fl.dat, D.bl true), σ) : R ((Fl × D) × Sg)) else R.ok ((Fl.dat, D.bl false), σ)) = R.ok ((Fl.dat, D.bl b), σ) := by cases b <;> rfl
@[simp] theorem own2_d {σ : Sg} {e : E} {d : D} : own2 σ e (.dat, d) = .ok (.dat, d) := rfl
@[simp] theorem own2_o {σ : Sg} {e : E} {d : D} : own2 σ e (.own, d) = own1 (imp e) (.own, d) := rfl
@[simp] theorem own2_b {σ : Sg} {i : Nat} {d : D} : own2 σ (.var i) (.brw, d) = if brwS (σ.at i) then .ok (.brw, d) else .bad := rfl
@[simp] theorem brwS_b {d : D} : brwS (some (.brw, d)) = true := rfl
@[simp] theorem brwS_d {d : D} : brwS (some (.dat, d)) = false := rfl
@[simp] theorem own1_d {b : Bool} {d : D} : own1 b (.dat, d) = .ok (.dat, d) := rfl
@[simp] theorem own1_f {d : D} : own1 false (.own, d) = .ok (.own, d) := rfl
@[simp] theorem own1_t {d : D} : own1 true (.own, d) = .ok (.dat, d) := rfl
@[simp] theorem bind_as {a b c : Type} (x : R a) (f : a → R b) (g : b → R c) : ((x >>= f) >>= g) = (x >>= fun y => f y >>= g) := by cases x <;> rfl
@[simp] theorem calmOk {a : Type} {x : a} : calm (.ok x) = .ok x := rfl
@[simp] theorem hl_nil : hiLo [] = .ok none := rfl
@[simp] theorem hl_one {f : Fl} {i : Int} : hiLo [(f, .int i)] = .ok (some i) := rfl
@[simp] theorem setA_nil {xs : List (Fl × D)} : setA σ [] xs = σ := rfl
@[simp] theorem setA_cons {i : Nat} {is : List Nat} {x : Fl × D} {xs : List (Fl × D)} : setA σ (i :: is) (x :: xs) = setA (σ.set i (some x)) is xs := rfl
@[simp] theorem clrA_nil : clrA σ [] = σ := rfl
@[simp] theorem clrA_cons {i : Nat} {is : List Nat} : clrA σ (i :: is) = clrA (σ.set i none) is := rfl
@[simp] theorem wipe_nil : wipeD σ [] = σ := rfl
@[simp] theorem wipe_cons {i : Nat} {is : List Nat} : wipeD σ (i :: is) = (wipeD σ is).set i none := rfl
@[simp] theorem pb_nil {τ : Sg} : putBack σ τ [] = σ := rfl
@[simp] theorem pb_cons {τ : Sg} {i : Nat} {is : List Nat} : putBack σ τ (i :: is) = (putBack σ τ is).set i (τ.at i) := rfl
@[simp] theorem tgs_one {i : Nat} : tgSlots (.one i) = [i] := rfl
@[simp] theorem tgs_tup {is : List Nat} : tgSlots (.tup is) = is := rfl
def freeS : Sl → Bool
  | some (.own, _) => false
  | some (.ino, _) => false
  | _ => true
@[simp] theorem freeAt_S {v : Nat} : freeAt σ v = freeS (σ.at v) := by
  unfold freeAt freeS
  rcases σ.at v with _ | ⟨f, d⟩
  · rfl
  · cases f <;> rfl
@[simp] theorem freeS_n : freeS none = true := rfl
@[simp] theorem freeS_d {d : D} : freeS (some (.dat, d)) = true := rfl
@[simp] theorem freeS_b {d : D} : freeS (some (.brw, d)) = true := rfl
/-- a slot that holds nothing but shared data -/
def dS (x : Option D) : Sl := x.map fun d => (.dat, d)
@[simp] theorem dS_none : dS none = none := rfl
@[simp] theorem dS_some {d : D} : dS (some d) = some (.dat, d) := rfl
@[simp] theorem dS_ex {d : D} : (∃ x, some (Fl.dat, d) = dS x) ↔ True := ⟨fun _ => trivial, fun _ => ⟨some d, rfl⟩⟩
@[simp] theorem dS_ex0 : (∃ x, none = dS x) ↔ True := ⟨fun _ => trivial, fun _ => ⟨none, rfl⟩⟩
@[simp] theorem freeS_dS {x : Option D} : freeS (dS x) = true := by cases x <;> rfl
def overS : Sl → Bool
  | some (.ino, _) => false
  | _ => true
@[simp] theorem overAt_S {v : Nat} : overAt σ v = (decide (v < σ.length) && overS (σ.at v)) := by
  unfold overAt overS
  rcases σ.at v with _ | ⟨f, d⟩
  · rfl
  · cases f <;> rfl
@[simp] theorem overS_n : overS none = true := rfl
@[simp] theorem overS_d {d : D} : overS (some (.dat, d)) = true := rfl
@[simp] theorem overS_o {d : D} : overS (some (.own, d)) = true := rfl
@[simp] theorem overS_b {d : D} : overS (some (.brw, d)) = true := rfl
@[simp] theorem overS_dS {x : Option D} : overS (dS x) = true := by cases x <;> rfl
def lstS : Sl → Bool
  | some (.own, .lst _) => true
  | some (.ino, .lst _) => true
  | _ => false
@[simp] theorem lstAt_S {v : Nat} : lstAt σ v = lstS (σ.at v) := by
  unfold lstAt lstS
  rcases σ.at v with _ | ⟨f, d⟩
  · rfl
  · cases f <;> cases d <;> rfl
@[simp] theorem lstS_o {ds : List D} : lstS (some (.own, .lst ds)) = true := rfl
@[simp] theorem lstS_i {ds : List D} : lstS (some (.ino, .lst ds)) = true := rfl
@[simp] theorem ev_non : ev T .non σ = .ok ((.dat, .non), σ) := by rw [ev]
@[simp] theorem ev_bl {b : Bool} : ev T (.bl b) σ = .ok ((.dat, .bl b), σ) := by rw [ev]
@[simp] theorem ev_int {i : Int} : ev T (.int i) σ = .ok ((.dat, .int i), σ) := by rw [ev]
@[simp] theorem ev_str {s : Str} : ev T (.str s) σ = .ok ((.dat, .str s), σ) := by rw [ev]
@[simp] theorem ev_glb {g : Nat} : ev T (.glb g) σ = .ok ((.dat, T.G g), σ) := by rw [ev]
def varS (σ : Sg) : Sl → R ((Fl × D) × Sg)
  | some (.dat, d) => .ok ((.dat, d), σ)
  | some (_, d) => .ok ((.brw, d), σ)
  | none => .bad
@[simp] theorem ev_var {i : Nat} : ev T (.var i) σ = varS σ (σ.at i) := by
  rw [ev]
  unfold varS
  rcases σ.at i with _ | ⟨f, d⟩
  · rfl
  · cases f <;> rfl
@[simp] theorem varS_d {d : D} : varS σ (some (.dat, d)) = .ok ((.dat, d), σ) := rfl
@[simp] theorem varS_o {d : D} : varS σ (some (.own, d)) = .ok ((.brw, d), σ) := rfl
@[simp] theorem varS_i {d : D} : varS σ (some (.ino, d)) = .ok ((.brw, d), σ) := rfl
@[simp] theorem varS_b {d : D} : varS σ (some (.brw, d)) = .ok ((.brw, d), σ) := rfl
def movS (σ : Sg) (i : Nat) : Sl → R ((Fl × D) × Sg)
  | some (.dat, d) => .ok ((.dat, d), σ)
  | some (.own, d) => .ok ((.own, d), σ.set i none)
  | _ => .bad
@[simp] theorem ev_mov {i : Nat} : ev T (.mov i) σ = movS σ i (σ.at i) := by
  rw [ev]
  unfold movS
  rcases σ.at i with _ | ⟨f, d⟩
  · rfl
  · cases f <;> rfl
@[simp] theorem movS_d {i : Nat} {d : D} : movS σ i (some (.dat, d)) = .ok ((.dat, d), σ) := rfl
@[simp] theorem movS_o {i : Nat} {d : D} : movS σ i (some (.own, d)) = .ok ((.own, d), σ.set i none) := rfl
def frzS (σ : Sg) (i : Nat) : Sl → R ((Fl × D) × Sg)
  | some (.dat, d) => .ok ((.dat, d), σ)
  | some (.own, d) => .ok ((.dat, d), σ.set i (some (.dat, d)))
  | _ => .bad
@[simp] theorem ev_frz {i : Nat} : ev T (.frz i) σ = frzS σ i (σ.at i) := by
  rw [ev]
  unfold frzS
  rcases σ.at i with _ | ⟨f, d⟩
  · rfl
  · cases f <;> rfl
@[simp] theorem frzS_d {i : Nat} {d : D} : frzS σ i (some (.dat, d)) = .ok ((.dat, d), σ) := rfl
@[simp] theorem frzS_o {i : Nat} {d : D} : frzS σ i (some (.own, d)) = .ok ((.dat, d), σ.set i (some (.dat, d))) := rfl
def ioS (σ : Sg) : Sl → R ((Fl × D) × Sg)
  | some (.own, _) => .ok ((.ino, .non), σ)
  | some (.ino, _) => .ok ((.ino, .non), σ)
  | _ => .bad
@[simp] theorem ev_io {i : Nat} : ev T (.io i) σ = ioS σ (σ.at i) := by
  rw [ev]
  unfold ioS
  rcases σ.at i with _ | ⟨f, d⟩
  · rfl
  · cases f <;> rfl
@[simp] theorem ioS_o {d : D} : ioS σ (some (.own, d)) = .ok ((.ino, .non), σ) := rfl
@[simp] theorem ioS_i {d : D} : ioS σ (some (.ino, d)) = .ok ((.ino, .non), σ) := rfl
end
@[simp] theorem io_non  : isIo (.non ) = none := by simp [isIo]
@[simp] theorem sr_non  : srcE (.non ) = none := by simp [srcE]
@[simp] theorem io_bl {b : Bool} : isIo (.bl b) = none := by simp [isIo]
@[simp] theorem sr_bl {b : Bool} : srcE (.bl b) = none := by simp [srcE]
@[simp] theorem io_int {i : Int} : isIo (.int i) = none := by simp [isIo]
@[simp] theorem sr_int {i : Int} : srcE (.int i) = none := by simp [srcE]
@[simp] theorem io_str {s : Str} : isIo (.str s) = none := by simp [isIo]
@[simp] theorem sr_str {s : Str} : srcE (.str s) = none := by simp [srcE]
@[simp] theorem io_var {i : Nat} : isIo (.var i) = none := by simp [isIo]
@[simp] theorem io_mov {i : Nat} : isIo (.mov i) = none := by simp [isIo]
@[simp] theorem sr_mov {i : Nat} : srcE (.mov i) = none := by simp [srcE]
@[simp] theorem io_frz {i : Nat} : isIo (.frz i) = none := by simp [isIo]
@[simp] theorem sr_frz {i : Nat} : srcE (.frz i) = none := by simp [srcE]
@[simp] theorem io_glb {g : Nat} : isIo (.glb g) = none := by simp [isIo]
@[simp] theorem sr_glb {g : Nat} : srcE (.glb g) = none := by simp [srcE]
@[simp] theorem io_tup {es : Es} : isIo (.tup es) = none := by simp [isIo]
@[simp] theorem sr_tup {es : Es} : srcE (.tup es) = none := by simp [srcE]
@[simp] theorem io_lst {es : Es} : isIo (.lst es) = none := by simp [isIo]
@[simp] theorem sr_lst {es : Es} : srcE (.lst es) = none := by simp [srcE]
@[simp] theorem io_dct {ps : Es} : isIo (.dct ps) = none := by simp [isIo]
@[simp] theorem sr_dct {ps : Es} : srcE (.dct ps) = none := by simp [srcE]
@[simp] theorem io_ite {c x y : E} : isIo (.ite c x y) = none := by simp [isIo]
@[simp] theorem sr_ite {c x y : E} : srcE (.ite c x y) = none := by simp [srcE]
@[simp] theorem io_and {es : Es} : isIo (.and es) = none := by simp [isIo]
@[simp] theorem sr_and {es : Es} : srcE (.and es) = none := by simp [srcE]
@[simp] theorem io_or {es : Es} : isIo (.or es) = none := by simp [isIo]
@[simp] theorem sr_or {es : Es} : srcE (.or es) = none := by simp [srcE]
@[simp] theorem io_not {x : E} : isIo (.not x) = none := by simp [isIo]
@[simp] theorem sr_not {x : E} : srcE (.not x) = none := by simp [srcE]
@[simp] theorem io_bin {o : Op} {x y : E} : isIo (.bin o x y) = none := by simp [isIo]
@[simp] theorem sr_bin {o : Op} {x y : E} : srcE (.bin o x y) = none := by simp [srcE]
@[simp] theorem io_neg {x : E} : isIo (.neg x) = none := by simp [isIo]
@[simp] theorem sr_neg {x : E} : srcE (.neg x) = none := by simp [srcE]
@[simp] theorem io_cmp {o : CO} {x y : E} : isIo (.cmp o x y) = none := by simp [isIo]
@[simp] theorem sr_cmp {o : CO} {x y : E} : srcE (.cmp o x y) = none := by simp [srcE]
@[simp] theorem io_chn {o p : CO} {x y z : E} : isIo (.chn o p x y z) = none := by simp [isIo]
@[simp] theorem sr_chn {o p : CO} {x y z : E} : srcE (.chn o p x y z) = none := by simp [srcE]
@[simp] theorem io_idx {x y : E} : isIo (.idx x y) = none := by simp [isIo]
@[simp] theorem sr_idx {x y : E} : srcE (.idx x y) = none := by simp [srcE]
@[simp] theorem io_slc {x : E} {lo hi : Es} : isIo (.slc x lo hi) = none := by simp [isIo]
@[simp] theorem sr_slc {x : E} {lo hi : Es} : srcE (.slc x lo hi) = none := by simp [srcE]
@[simp] theorem io_rev {x : E} : isIo (.rev x) = none := by simp [isIo]
@[simp] theorem sr_rev {x : E} : srcE (.rev x) = none := by simp [srcE]
@[simp] theorem io_isi {t : Ty} {x : E} : isIo (.isi t x) = none := by simp [isIo]
@[simp] theorem sr_isi {t : Ty} {x : E} : srcE (.isi t x) = none := by simp [srcE]
@[simp] theorem io_upp {x : E} : isIo (.upp x) = none := by simp [isIo]
@[simp] theorem sr_upp {x : E} : srcE (.upp x) = none := by simp [srcE]
@[simp] theorem io_orl {x y : E} : isIo (.orl x y) = none := by simp [isIo]
@[simp] theorem sr_orl {x y : E} : srcE (.orl x y) = none := by simp [srcE]
@[simp] theorem io_mtd {m : Mt} {x : E} {es : Es} : isIo (.mtd m x es) = none := by simp [isIo]
@[simp] theorem sr_mtd {m : Mt} {x : E} {es : Es} : srcE (.mtd m x es) = none := by simp [srcE]
@[simp] theorem io_ask {b : Str} {hs : List (Nat × Hv)} {dn : D} {x : E} : isIo (.ask b hs dn x) = none := by simp [isIo]
@[simp] theorem sr_ask {b : Str} {hs : List (Nat × Hv)} {dn : D} {x : E} : srcE (.ask b hs dn x) = none := by simp [srcE]
@[simp] theorem io_idv {i : Nat} {y : E} : isIo (.idv i y) = none := by simp [isIo]
@[simp] theorem sr_idv {i : Nat} {y : E} : srcE (.idv i y) = none := by simp [srcE]
@[simp] theorem io_get {b : Bool} {x y z : E} : isIo (.get b x y z) = none := by simp [isIo]
@[simp] theorem sr_get {b : Bool} {x y z : E} : srcE (.get b x y z) = none := by simp [srcE]
@[simp] theorem io_srk {x : E} : isIo (.srk x) = none := by simp [isIo]
@[simp] theorem sr_srk {x : E} : srcE (.srk x) = none := by simp [srcE]
@[simp] theorem io_sset {x : E} : isIo (.sset x) = none := by simp [isIo]
@[simp] theorem sr_sset {x : E} : srcE (.sset x) = none := by simp [srcE]
@[simp] theorem io_lrng {es : Es} : isIo (.lrng es) = none := by simp [isIo]
@[simp] theorem sr_lrng {es : Es} : srcE (.lrng es) = none := by simp [srcE]
@[simp] theorem io_call {f : Nat} {es : Es} : isIo (.call f es) = none := by simp [isIo]
@[simp] theorem sr_call {f : Nat} {es : Es} : srcE (.call f es) = none := by simp [srcE]
@[simp] theorem io_bif {b : Bif} {es : Es} : isIo (.bif b es) = none := by simp [isIo]
@[simp] theorem sr_bif {b : Bif} {es : Es} : srcE (.bif b es) = none := by simp [srcE]
@[simp] theorem io_mut {m : Mu} {i : Nat} {es : Es} : isIo (.mut m i es) = none := by simp [isIo]
@[simp] theorem sr_mut {m : Mu} {i : Nat} {es : Es} : srcE (.mut m i es) = none := by simp [srcE]
@[simp] theorem io_comp {w : Wk} {src : Es} {tg : Tg} {cs : Es} {x : E} {vs : List Nat} : isIo (.comp w src tg cs x vs) = none := by simp [isIo]
@[simp] theorem sr_comp {w : Wk} {src : Es} {tg : Tg} {cs : Es} {x : E} {vs : List Nat} : srcE (.comp w src tg cs x vs) = none := by simp [srcE]
@[simp] theorem io_fld {x : E} {f : Str} : isIo (.fld x f) = none := by simp [isIo]
@[simp] theorem io_mth {m : Str} {f : Nat} {es : Es} : isIo (.mth m f es) = none := by simp [isIo]
@[simp] theorem io_mk {c f : Nat} {es : Es} : isIo (.mk c f es) = none := by simp [isIo]
@[simp] theorem io_lvs {x : E} : isIo (.lvs x) = none := by simp [isIo]
@[simp] theorem sr_lvs {x : E} : srcE (.lvs x) = none := by simp [srcE]
@[simp] theorem io_lnt {i : Nat} {x : E} : isIo (.lnt i x) = none := by simp [isIo]
@[simp] theorem io_shr {x : E} : isIo (.shr x) = none := by simp [isIo]
@[simp] theorem sr_fldv {i : Nat} {f : Str} : srcE (.fld (.var i) f) = some i := by simp [srcE]
@[simp] theorem sr_fldk {c g : Nat} {es : Es} {f : Str} : srcE (.fld (.mk c g es) f) = none := by simp [srcE]
@[simp] theorem sr_mth {m : Str} {f : Nat} {es : Es} : srcE (.mth m f es) = none := by simp [srcE]
@[simp] theorem sr_mk {c f : Nat} {es : Es} : srcE (.mk c f es) = none := by simp [srcE]
@[simp] theorem sr_lnt {i : Nat} {x : E} : srcE (.lnt i x) = none := by simp [srcE]
@[simp] theorem sr_shr {x : E} : srcE (.shr x) = none := by simp [srcE]
@[simp] theorem io_io {i : Nat} : isIo (.io i) = some i := by rw [isIo]
@[simp] theorem sr_io {i : Nat} : srcE (.io i) = none := by simp [srcE]
@[simp] theorem sr_var {i : Nat} : srcE (.var i) = some i := by simp [srcE]
@[simp] theorem ioAt_nil : ioAt .nil = [] := rfl
@[simp] theorem ioAt_cons {e : E} {r : Es} : ioAt (.cons e r) = isIo e :: ioAt r := rfl
@[simp] theorem iosE_def {es : Es} : iosE es = (ioAt es).filterMap id := rfl
@[simp] theorem srcs_nil : srcs .nil = [] := rfl
theorem srcs_cons {e : E} {r : Es} : srcs (.cons e r) = (match srcE e with | some i => i :: srcs r | none => srcs r) := by cases h : srcE e <;> simp [srcs, h]
@[simp] theorem srcs_s {e : E} {r : Es} {i : Nat} (h : srcE e = some i) : srcs (.cons e r) = i :: srcs r := by simp [srcs, h]
@[simp] theorem srcs_n {e : E} {r : Es} (h : srcE e = none) : srcs (.cons e r) = srcs r := by simp [srcs, h]
@[simp] theorem ip_non  : imp (.non ) = false := by rw [imp]
@[simp] theorem ip_bl {b : Bool} : imp (.bl b) = false := by rw [imp]
@[simp] theorem ip_int {i : Int} : imp (.int i) = false := by rw [imp]
@[simp] theorem ip_str {s : Str} : imp (.str s) = false := by rw [imp]
@[simp] theorem ip_var {i : Nat} : imp (.var i) = false := by rw [imp]
@[simp] theorem ip_mov {i : Nat} : imp (.mov i) = true := by rw [imp]
@[simp] theorem ip_frz {i : Nat} : imp (.frz i) = true := by rw [imp]
@[simp] theorem ip_io {i : Nat} : imp (.io i) = false := by rw [imp]
@[simp] theorem ip_glb {g : Nat} : imp (.glb g) = false := by rw [imp]
@[simp] theorem ip_tup {es : Es} : imp (.tup es) = imps es := by rw [imp]
@[simp] theorem ip_lst {es : Es} : imp (.lst es) = imps es := by rw [imp]
@[simp] theorem ip_dct {ps : Es} : imp (.dct ps) = imps ps := by rw [imp]
@[simp] theorem ip_ite {c x y : E} : imp (.ite c x y) = (imp c || imp x || imp y) := by rw [imp]
@[simp] theorem ip_and {es : Es} : imp (.and es) = imps es := by rw [imp]
@[simp] theorem ip_or {es : Es} : imp (.or es) = imps es := by rw [imp]
@[simp] theorem ip_not {x : E} : imp (.not x) = imp x := by rw [imp]
@[simp] theorem ip_bin {o : Op} {x y : E} : imp (.bin o x y) = (imp x || imp y) := by rw [imp]
@[simp] theorem ip_neg {x : E} : imp (.neg x) = imp x := by rw [imp]
@[simp] theorem ip_cmp {o : CO} {x y : E} : imp (.cmp o x y) = (imp x || imp y) := by rw [imp]
@[simp] theorem ip_chn {o p : CO} {x y z : E} : imp (.chn o p x y z) = (imp x || imp y || imp z) := by rw [imp]
@[simp] theorem ip_idx {x y : E} : imp (.idx x y) = (imp x || imp y) := by rw [imp]
@[simp] theorem ip_slc {x : E} {lo hi : Es} : imp (.slc x lo hi) = (imp x || imps lo || imps hi) := by rw [imp]
@[simp] theorem ip_rev {x : E} : imp (.rev x) = imp x := by rw [imp]
@[simp] theorem ip_isi {t : Ty} {x : E} : imp (.isi t x) = imp x := by rw [imp]
@[simp] theorem ip_upp {x : E} : imp (.upp x) = imp x := by rw [imp]
@[simp] theorem ip_orl {x y : E} : imp (.orl x y) = (imp x || imp y) := by rw [imp]
@[simp] theorem ip_mtd {m : Mt} {x : E} {es : Es} : imp (.mtd m x es) = (imp x || imps es) := by rw [imp]
@[simp] theorem ip_ask {b : Str} {hs : List (Nat × Hv)} {dn : D} {x : E} : imp (.ask b hs dn x) = imp x := by rw [imp]
@[simp] theorem ip_idv {i : Nat} {y : E} : imp (.idv i y) = imp y := by rw [imp]
@[simp] theorem ip_get {b : Bool} {x y z : E} : imp (.get b x y z) = (imp x || (imp y || imp z)) := by rw [imp]
@[simp] theorem ip_fld {x : E} {f : Str} : imp (.fld x f) = imp x := by rw [imp]
@[simp] theorem ip_mth {m : Str} {f : Nat} {es : Es} : imp (.mth m f es) = (imps es || !(iosE es).isEmpty) := by rw [imp]
@[simp] theorem ip_mk {c f : Nat} {es : Es} : imp (.mk c f es) = imps es := by rw [imp]
@[simp] theorem ip_lvs {x : E} : imp (.lvs x) = imp x := by rw [imp]
@[simp] theorem ip_lnt {i : Nat} {x : E} : imp (.lnt i x) = imp x := by rw [imp]
@[simp] theorem ip_shr {x : E} : imp (.shr x) = imp x := by rw [imp]
@[simp] theorem ip_srk {x : E} : imp (.srk x) = imp x := by rw [imp]
@[simp] theorem ip_sset {x : E} : imp (.sset x) = imp x := by rw [imp]
@[simp] theorem ip_lrng {es : Es} : imp (.lrng es) = imps es := by rw [imp]
@[simp] theorem ip_call {f : Nat} {es : Es} : imp (.call f es) = (imps es || !(iosE es).isEmpty) := by rw [imp]
@[simp] theorem ip_bif {b : Bif} {es : Es} : imp (.bif b es) = imps es := by rw [imp]
@[simp] theorem ip_mut {m : Mu} {i : Nat} {es : Es} : imp (.mut m i es) = true := by rw [imp]
@[simp] theorem ip_comp {w : Wk} {src : Es} {tg : Tg} {cs : Es} {x : E} {vs : List Nat} : imp (.comp w src tg cs x vs) = (imps src || imps cs || imp x) := by rw [imp]
@[simp] theorem imps_nil : imps .nil = false := by rw [imps]
@[simp] theorem imps_cons {e : E} {r : Es} : imps (.cons e r) = (imp e || imps r) := by rw [imps]
@[simp] theorem ev_tup {T : Tb} {σ : Sg} {es : Es} : ev T (.tup es) σ = (do
    let (xs, σ1) ← evs T es σ
    let ds ← keeps xs
    guard (decide (ds.length ≤ 16777216))
    .ok ((.dat, .tup ds), σ1)) := by rw [ev]
@[simp] theorem ev_lst {T : Tb} {σ : Sg} {es : Es} : ev T (.lst es) σ = (do
    let (xs, σ1) ← evs T es σ
    let ds ← keeps xs
    guard (decide (ds.length ≤ 16777216))
    .ok ((.own, .lst ds), σ1)) := by rw [ev]
@[simp] theorem ev_dct {T : Tb} {σ : Sg} {ps : Es} : ev T (.dct ps) σ = (do
    let (kvs, σ1) ← evK T ps σ
    guard (decide (kvs.length ≤ 15))
    .ok ((.own, .dct (mergeD [] kvs)), σ1)) := by rw [ev]
@[simp] theorem ev_ite {T : Tb} {σ : Sg} {c : E} {x : E} {y : E} : ev T (.ite c x y) σ = (do
    let (b, σ1) ← ev T c σ
    let b ← boolD b
    let (v, σ2) ← (if b then ev T x σ1 else ev T y σ1)
    guard (v.1 != .brw && v.1 != .ino)
    .ok (v, σ2)) := by rw [ev]
@[simp] theorem ev_and {T : Tb} {σ : Sg} {es : Es} : ev T (.and es) σ = evAnd T es σ := by rw [ev]
@[simp] theorem ev_or {T : Tb} {σ : Sg} {es : Es} : ev T (.or es) σ = evOr T es σ := by rw [ev]
@[simp] theorem ev_not {T : Tb} {σ : Sg} {x : E} : ev T (.not x) σ = (do
    let (b, σ1) ← ev T x σ
    let b ← boolD b
    .ok ((.dat, .bl (!b)), σ1)) := by rw [ev]
@[simp] theorem ev_bin {T : Tb} {σ : Sg} {o : Op} {x : E} {y : E} : ev T (.bin o x y) σ = (do
    let (v, σ1) ← ev T x σ
    guard (!(v.1 == .brw && imp y))
    let (w, σ2) ← ev T y σ1
    let v ← look v
    let w ← look w
    let r ← binD o v w
    .ok (r, σ2)) := by rw [ev]
@[simp] theorem ev_neg {T : Tb} {σ : Sg} {x : E} : ev T (.neg x) σ = (do
    let (v, σ1) ← ev T x σ
    match v.2 with
    | .int i => .ok ((.dat, .int (-i)), σ1)
    | _ => .bad) := by rw [ev] <;> rfl
@[simp] theorem ev_cmp {T : Tb} {σ : Sg} {o : CO} {x : E} {y : E} : ev T (.cmp o x y) σ = (do
    let (v, σ1) ← ev T x σ
    guard (!(v.1 == .brw && imp y))
    let (w, σ2) ← ev T y σ1
    let v ← look v
    let w ← look w
    let r ← cmpD o v w
    .ok ((.dat, .bl r), σ2)) := by rw [ev]
@[simp] theorem ev_chn {T : Tb} {σ : Sg} {o : CO} {p : CO} {x : E} {y : E} {z : E} : ev T (.chn o p x y z) σ = (do
    let (v, σ1) ← ev T x σ
    guard (!(v.1 == .brw && imp y))
    let (w, σ2) ← ev T y σ1
    guard (!(w.1 == .brw && imp z))
    let v ← look v
    let w ← look w
    let r ← cmpD o v w
    if r then do
      let (u, σ3) ← ev T z σ2
      let u ← look u
      let r ← cmpD p w u
      .ok ((.dat, .bl r), σ3)
    else .ok ((.dat, .bl false), σ2)) := by rw [ev]
@[simp] theorem ev_idx {T : Tb} {σ : Sg} {x : E} {y : E} : ev T (.idx x y) σ = (do
    let (v, σ1) ← ev T x σ
    guard (!(v.1 == .brw && imp y))
    let (w, σ2) ← ev T y σ1
    let v ← look v
    let w ← look w
    let r ← idxD v w
    .ok ((.dat, r), σ2)) := by rw [ev]
@[simp] theorem ev_slc {T : Tb} {σ : Sg} {x : E} {lo : Es} {hi : Es} : ev T (.slc x lo hi) σ = (do
    let (v, σ1) ← ev T x σ
    guard (!(v.1 == .brw && (imps lo || imps hi)))
    let (l, σ2) ← evs T lo σ1
    let l ← hiLo l
    let (h, σ3) ← evs T hi σ2
    let h ← hiLo h
    let v ← look v
    let r ← slcD v l h
    .ok (r, σ3)) := by rw [ev]
@[simp] theorem ev_rev {T : Tb} {σ : Sg} {x : E} : ev T (.rev x) σ = (do
    let (v, σ1) ← ev T x σ
    match v.2 with
    | .lst ds => .ok ((.own, .lst ds.reverse), σ1)
    | .tup ds => .ok ((.dat, .tup ds.reverse), σ1)
    | _ => .bad) := by rw [ev] <;> rfl
@[simp] theorem ev_isi {T : Tb} {σ : Sg} {t : Ty} {x : E} : ev T (.isi t x) σ = (do
    let (v, σ1) ← ev T x σ
    let d ← look v
    let b ← ofO (isiD t d)
    .ok ((.dat, .bl b), σ1)) := by rw [ev]
@[simp] theorem ev_upp {T : Tb} {σ : Sg} {x : E} : ev T (.upp x) σ = (do
    let (v, σ1) ← ev T x σ
    let d ← look v
    let r ← uppD d
    .ok ((.dat, r), σ1)) := by rw [ev]
@[simp] theorem ev_orl {T : Tb} {σ : Sg} {x y : E} : ev T (.orl x y) σ = (do
    let (v, σ1) ← ev T x σ
    let b ← truL v
    if b then .ok (v, σ1) else do
      let (w, σ2) ← ev T y σ1
      let r ← rsl w
      .ok (r, σ2)) := by rw [ev]
@[simp] theorem ev_mtd {T : Tb} {σ : Sg} {m : Mt} {x : E} {es : Es} : ev T (.mtd m x es) σ = (do
    let (v, σ1) ← ev T x σ
    guard (!(v.1 == .brw && imps es))
    let d ← look v
    guard (mtTy m d)
    let (xs, σ2) ← evs T es σ1
    let ds ← looks xs
    let r ← mtdD m d ds
    .ok (r, σ2)) := by rw [ev]
def askS (hs : List (Nat × Hv)) (dn : D) (σ : Sg) : R ((Fl × D) × Sg) → R ((Fl × D) × Sg)
  | .ok _ => .ok ((.dat, dn), σ)
  | .exc e => (match hs.find? fun q => decide (q.1 = e.c) with
    | some q => askD q.2 e >>= fun d => .ok ((.dat, d), σ)
    | none => .bad)
  | .bad => .bad
@[simp] theorem askS_ok {hs : List (Nat × Hv)} {dn : D} {σ : Sg} {p : (Fl × D) × Sg} : askS hs dn σ (.ok p) = .ok ((.dat, dn), σ) := rfl
@[simp] theorem askS_exc {hs : List (Nat × Hv)} {dn : D} {σ : Sg} {e : Ex} : askS hs dn σ (.exc e) = (match hs.find? fun q => decide (q.1 = e.c) with
    | some q => askD q.2 e >>= fun d => .ok ((.dat, d), σ)
    | none => .bad) := rfl
@[simp] theorem askD_con {d : D} {e : Ex} : askD (.con d) e = .ok d := rfl
@[simp] theorem ev_ask {T : Tb} {σ : Sg} {b : Str} {hs : List (Nat × Hv)} {dn : D} {x : E} : ev T (.ask b hs dn x) σ = (guard (!(imp x)) >>= fun _ => askS hs dn σ (ev T x σ)) := by
  rw [ev]
  cases ev T x σ <;> rfl
@[simp] theorem slD_s {f : Fl} {d : D} : slD (some (f, d)) = .ok d := rfl
@[simp] theorem ev_idv {T : Tb} {σ : Sg} {i : Nat} {y : E} : ev T (.idv i y) σ = (do
    guard (σ.at i).isSome
    let (w, σ1) ← ev T y σ
    let d ← slD (σ1.at i)
    let e ← look w
    let r ← idxD d e
    .ok ((.dat, r), σ1)) := by rw [ev]
@[simp] theorem isDct_d {kvs : List (L2.Key × D)} : isDct (.dct kvs) = true := rfl
@[simp] theorem getD_i {kvs : List (L2.Key × D)} {i : Int} {z : D} : getD (.dct kvs) (.int i) z = .ok ((valD kvs (.inl i)).getD z) := rfl
@[simp] theorem ev_get {T : Tb} {σ : Sg} {b : Bool} {x y z : E} : ev T (.get b x y z) σ = (do
    let (v, σ1) ← ev T x σ
    guard (!(v.1 == .brw && (imp y || imp z)))
    let d ← look v
    guard (isDct d)
    let (w, σ2) ← ev T y σ1
    guard (!(w.1 == .brw && imp z))
    let (u, σ3) ← ev T z σ2
    let e ← look w
    guard (u.1 == .dat)
    let r ← getD d e u.2
    .ok ((.dat, r), σ3)) := by rw [ev]
/-- a field's reading, by how the instance is held -/
def fldS (x : E) (σ : Sg) (d : D) : Fl → R ((Fl × D) × Sg)
  | .brw => do
    guard (isVar x)
    .ok ((if isOdc d then .brw else .dat, nrmD d), σ)
  | .ino => .bad
  | .own => .ok ((if isOdc d then .own else .dat, nrmD d), σ)
  | .dat => .ok ((.dat, nrmD d), σ)
@[simp] theorem fldS_dat {x : E} {σ : Sg} {d : D} : fldS x σ d .dat = .ok ((.dat, nrmD d), σ) := rfl
@[simp] theorem fldS_own {x : E} {σ : Sg} {d : D} : fldS x σ d .own = .ok ((if isOdc d then .own else .dat, nrmD d), σ) := rfl
@[simp] theorem fldS_brw {i : Nat} {σ : Sg} {d : D} : fldS (.var i) σ d .brw = .ok ((if isOdc d then .brw else .dat, nrmD d), σ) := rfl
@[simp] theorem ev_fld {T : Tb} {σ : Sg} {x : E} {f : Str} : ev T (.fld x f) σ = (do
    let (v, σ1) ← ev T x σ
    let d ← objF v.2 f
    fldS x σ1 d v.1) := by
  rw [ev]
  refine congrArg (fun g => ev T x σ >>= g) (funext fun p => ?_)
  obtain ⟨⟨fl, d⟩, σ1⟩ := p
  refine congrArg (fun g => objF d f >>= g) (funext fun q => ?_)
  cases fl <;> rfl
@[simp] theorem nrm_int {i : Int} : nrmD (.int i) = .int i := rfl
@[simp] theorem nrm_dct {k : List (L2.Key × D)} : nrmD (.dct k) = .dct k := rfl
@[simp] theorem nrm_odc {k : List (L2.Key × D)} : nrmD (.odc k) = .dct k := rfl
@[simp] theorem isOdc_int {i : Int} : isOdc (.int i) = false := rfl
@[simp] theorem isOdc_dct {k : List (L2.Key × D)} : isOdc (.dct k) = false := rfl
@[simp] theorem isOdc_odc {k : List (L2.Key × D)} : isOdc (.odc k) = true := rfl
@[simp] theorem isObj_lst {l : List D} : isObj (.lst l) = false := rfl
@[simp] theorem isObj_tup {l : List D} : isObj (.tup l) = false := rfl
@[simp] theorem isObj_dct {k : List (L2.Key × D)} : isObj (.dct k) = false := rfl
@[simp] theorem isObj_int {i : Int} : isObj (.int i) = false := rfl
/-- no field of the instance hides the method -/
def nfS (m : Str) : Sl → Bool
  | some (_, .obj _ fs) => (fs.lookup m).isNone
  | _ => false
@[simp] theorem noFld_v {σ : Sg} {m : Str} {i : Nat} {r : Es} : noFld σ m (.cons (.var i) r) = nfS m (σ.at i) := by
  rw [noFld]
  unfold nfS
  rcases σ.at i with _ | ⟨f, d⟩
  · rfl
  · cases d <;> rfl
@[simp] theorem ev_mth {T : Tb} {σ : Sg} {m : Str} {f : Nat} {es : Es} : ev T (.mth m f es) σ = (do
    guard (noFld σ m es)
    let (xs, σ1) ← evs T es σ
    guard (decide (iosE es).Nodup && decide (∀ i ∈ iosE es, i ∉ srcs es))
    let as ← fillA σ1 es xs
    let (r, outs) ← T.C f as
    let σ2 ← backA σ1 es outs
    .ok (r, σ2)) := by rw [ev]
@[simp] theorem ev_mk {T : Tb} {σ : Sg} {c f : Nat} {es : Es} : ev T (.mk c f es) σ = (do
    let (xs, σ1) ← evs T es σ
    guard (iosE es).isEmpty
    let as ← fillA σ1 es xs
    let r ← T.I c f as
    .ok ((.own, r), σ1)) := by rw [ev]
@[simp] theorem vals_dct {kvs : List (L2.Key × D)} : valsD (.dct kvs) = .ok (kvs.map (·.2)) := rfl
@[simp] theorem ev_lvs {T : Tb} {σ : Sg} {x : E} : ev T (.lvs x) σ = (do
    let (v, σ1) ← ev T x σ
    let d ← look v
    let r ← valsD d
    .ok ((.own, .lst r), σ1)) := by rw [ev]
def lntG (f : D → R ((Fl × D) × Sg)) (σ : Sg) : Sl → R ((Fl × D) × Sg)
  | some (.own, d) => f d >>= fun p => guard (flatR p.1) >>= fun _ => .ok (p.1, σ)
  | _ => .bad
@[simp] theorem lntG_o {f : D → R ((Fl × D) × Sg)} {σ : Sg} {d : D} : lntG f σ (some (.own, d)) = (f d >>= fun p => guard (flatR p.1) >>= fun _ => .ok (p.1, σ)) := rfl
@[simp] theorem flatR_l {ds : List D} : flatR (.own, .lst ds) = ds.all flatD := rfl
@[simp] theorem ev_lnt {T : Tb} {σ : Sg} {i : Nat} {x : E} : ev T (.lnt i x) σ = (guard (!(imp x)) >>= fun _ => lntG (fun d => ev T x (σ.set i (some (.dat, d)))) σ (σ.at i)) := by
  rw [ev]
  unfold lntG
  rcases σ.at i with _ | ⟨f, d⟩
  · rfl
  · cases f <;> rfl
@[simp] theorem ev_shr {T : Tb} {σ : Sg} {x : E} : ev T (.shr x) σ = (do
    let (v, σ1) ← ev T x σ
    let d ← keep v
    .ok ((.dat, d), σ1)) := by rw [ev]
@[simp] theorem ev_srk {T : Tb} {σ : Sg} {x : E} : ev T (.srk x) σ = (do
    let (v, σ1) ← ev T x σ
    let d ← look v
    let r ← srkD d
    .ok ((.own, .lst r), σ1)) := by rw [ev]
@[simp] theorem ev_sset {T : Tb} {σ : Sg} {x : E} : ev T (.sset x) σ = (do
    let (v, σ1) ← ev T x σ
    let d ← look v
    let ns ← setI d
    .ok ((.own, .lst ((sortZ (dedZ ns)).map .int)), σ1)) := by rw [ev]
@[simp] theorem ev_lrng {T : Tb} {σ : Sg} {es : Es} : ev T (.lrng es) σ = (do
    let (xs, σ1) ← evs T es σ
    let ds ← looks xs
    let its ← wkD .rng ds
    .ok ((.own, .lst its), σ1)) := by rw [ev]
@[simp] theorem ev_call {T : Tb} {σ : Sg} {f : Nat} {es : Es} : ev T (.call f es) σ = (do
    let (xs, σ1) ← evs T es σ
    guard (decide (iosE es).Nodup && decide (∀ i ∈ iosE es, i ∉ srcs es))
    let as ← fillA σ1 es xs
    let (r, outs) ← T.C f as
    let σ2 ← backA σ1 es outs
    .ok (r, σ2)) := by rw [ev]
@[simp] theorem ev_bif {T : Tb} {σ : Sg} {b : Bif} {es : Es} : ev T (.bif b es) σ = (do
    let (xs, σ1) ← evs T es σ
    let ds ← looks xs
    let r ← bifD b ds
    .ok (r, σ1)) := by rw [ev]
@[simp] theorem ev_mut {T : Tb} {σ : Sg} {m : Mu} {i : Nat} {es : Es} : ev T (.mut m i es) σ = (do
    guard (lstAt σ i)
    let (xs, σ1) ← evs T es σ
    let ds ← keeps xs
    match σ1.at i with
    | some (.own, d) => do let (y, d') ← mutD m d ds; .ok ((.dat, y), σ1.set i (some (.own, d')))
    | some (.ino, d) => do let (y, d') ← mutD m d ds; .ok ((.dat, y), σ1.set i (some (.ino, d')))
    | _ => .bad) := by rw [ev] <;> rfl
@[simp] theorem evs_nil {T : Tb} {σ : Sg} : evs T .nil σ = .ok ([], σ) := by rw [evs]
@[simp] theorem evs_cons {T : Tb} {σ : Sg} {e : E} {r : Es} : evs T (.cons e r) σ = (do
    let (v, σ1) ← ev T e σ
    guard (!(v.1 == .brw && imps r))
    let (vs, σ2) ← evs T r σ1
    .ok (v :: vs, σ2)) := by rw [evs]
@[simp] theorem evK_nil {T : Tb} {σ : Sg} : evK T .nil σ = .ok ([], σ) := by rw [evK]
@[simp] theorem evK_cons {T : Tb} {σ : Sg} {e f : E} {r : Es} : evK T (.cons e (.cons f r)) σ = (do
    let (x, σ1) ← ev T e σ
    let (y, σ2) ← ev T f σ1
    guard (x.1 == .dat)
    let k ← ofO (keyD x.2)
    let d ← keep y
    let (kvs, σ3) ← evK T r σ2
    .ok ((k, d) :: kvs, σ3)) := by rw [evK]
@[simp] theorem evAnd_nil {T : Tb} {σ : Sg} : evAnd T .nil σ = .ok ((.dat, .bl true), σ) := by rw [evAnd]
@[simp] theorem evAnd_cons {T : Tb} {σ : Sg} {e : E} {r : Es} : evAnd T (.cons e r) σ = (do
    let (b, σ1) ← ev T e σ
    let b ← boolD b
    if b then evAnd T r σ1 else .ok ((.dat, .bl false), σ1)) := by rw [evAnd]
@[simp] theorem evOr_nil {T : Tb} {σ : Sg} : evOr T .nil σ = .ok ((.dat, .bl false), σ) := by rw [evOr]
@[simp] theorem evOr_cons {T : Tb} {σ : Sg} {e : E} {r : Es} : evOr T (.cons e r) σ = (do
    let (b, σ1) ← ev T e σ
    let b ← boolD b
    if b then .ok ((.dat, .bl true), σ1) else evOr T r σ1) := by rw [evOr]
@[simp] theorem evP_nil {T : Tb} {σ : Sg} : evP T .nil σ = .ok ([], σ) := by rw [evP]
@[simp] theorem evP_cons {T : Tb} {σ : Sg} {e : E} {r : Es} : evP T (.cons e r) σ = (do
    let (x, σ1) ← ev T e σ
    let x ← own2 σ e x
    let (xs, σ2) ← evP T r σ1
    .ok (x :: xs, σ2)) := by rw [evP]
@[simp] theorem ex_pass {T : Tb} {σ : Sg}  : exec T (.pass ) σ = .ok (.nx, σ) := by rw [exec]
@[simp] theorem ex_cont {T : Tb} {σ : Sg}  : exec T (.cont ) σ = .ok (.ct, σ) := by rw [exec]
@[simp] theorem ex_brk {T : Tb} {σ : Sg}  : exec T (.brk ) σ = .ok (.bk, σ) := by rw [exec]
@[simp] theorem ex_set {T : Tb} {σ : Sg} {i : Nat} {e : E} : exec T (.set i e) σ = (do
    let (xs, σ1) ← evP T (.cons e .nil) σ
    guard (overAt σ1 i)
    .ok (.nx, setA σ1 [i] xs)) := by rw [exec]
@[simp] theorem ex_mv {T : Tb} {σ : Sg} {i : Nat} {j : Nat} : exec T (.mv i j) σ = (do
    guard (decide (i ≠ j) && overAt σ i && overAt σ j)
    match σ.at j with
    | some (.own, d) => .ok (.nx, (σ.set j none).set i (some (.own, d)))
    | _ => .bad) := by rw [exec] <;> rfl
@[simp] theorem ex_unp {T : Tb} {σ : Sg} {is : List Nat} {e : E} : exec T (.unp is e) σ = (do
    let (x, σ1) ← ev T e σ
    guard (x.1 == .dat && is.all (overAt σ1))
    let σ2 ← setT (clrA σ1 is) (.tup is) x.2
    .ok (.nx, σ2)) := by rw [exec]
@[simp] theorem ex_par {T : Tb} {σ : Sg} {is : List Nat} {es : Es} : exec T (.par is es) σ = (do
    let (xs, σ1) ← evP T es σ
    guard (decide is.Nodup && is.all (overAt σ1) && decide (is.length = xs.length) && decide (xs.length ≤ 16))
    .ok (.nx, setA σ1 is xs)) := by rw [exec]
@[simp] theorem ex_stl {T : Tb} {σ : Sg} {i : Nat} {es : Es} : exec T (.stl i es) σ = (do
    let (xs, σ1) ← evs T es σ
    let ds ← keeps xs
    guard (decide (ds.length ≤ 16777216) && overAt σ1 i)
    .ok (.nx, setA σ1 [i] [(.own, .lst ds)])) := by rw [exec]
@[simp] theorem ex_sti {T : Tb} {σ : Sg} {i : Nat} {y : E} {e : E} : exec T (.sti i y e) σ = (do
    let (x, σ1) ← ev T e σ
    let v ← keep x
    guard (!(imp y))
    match σ1.at i with
    | some (.own, d) => do
      let (k, _) ← ev T y σ1
      let k ← look k
      let d' ← stiD d k v
      .ok (.nx, σ1.set i (some (.own, d')))
    | some (.ino, d) => do
      let (k, _) ← ev T y σ1
      let k ← look k
      let d' ← stiD d k v
      .ok (.nx, σ1.set i (some (.ino, d')))
    | _ => .bad) := by rw [exec] <;> rfl
/-- a new field -/
def staS (f : Str) (d : D) : Sl → R Sl
  | some (.ino, .obj c fs) => if (fs.lookup f).isNone && decide (fs.length < 100) then .ok (some (.ino, .obj c (fs ++ [(f, d)]))) else .bad
  | _ => .bad
@[simp] theorem ex_sta {T : Tb} {σ : Sg} {i : Nat} {f : Str} {sh : Bool} {e : E} : exec T (.sta i f sh e) σ = (do
    let (x, σ1) ← ev T e σ
    let d ← staD sh (imp e) x
    let y ← staS f d (σ1.at i)
    .ok (.nx, σ1.set i y)) := by
  rw [exec]
  refine congrArg (fun g => ev T e σ >>= g) (funext fun p => ?_)
  obtain ⟨x, σ1⟩ := p
  refine congrArg (fun g => staD sh (imp e) x >>= g) (funext fun d => ?_)
  unfold staS
  try dsimp only
  rcases σ1.at i with _ | ⟨fl, d⟩
  · rfl
  · cases fl <;> cases d <;> try rfl
    rename_i c fs
    try dsimp only
    cases ((fs.lookup f).isNone && decide (fs.length < 100)) <;> rfl
@[simp] theorem staD_sh {b : Bool} {x : Fl × D} : staD true b x = keep x := rfl
@[simp] theorem staD_own {kvs : List (L2.Key × D)} : staD false false (.own, .dct kvs) = .ok (.odc kvs) := rfl
/-- a field's dict with an item more -/
def stfS (f : Str) (v : D) (q : R D) : Sl → R Sl
  | some (.ino, .obj c fs) => do
    let d ← ofO (fs.lookup f)
    let kvs ← odcO d
    let k ← q
    let d' ← stiD (.dct kvs) k v
    let kvs' ← dctO d'
    .ok (some (.ino, .obj c (putO f kvs' fs)))
  | _ => .bad
@[simp] theorem ex_stf {T : Tb} {σ : Sg} {i : Nat} {f : Str} {y e : E} : exec T (.stf i f y e) σ = (do
    let (x, σ1) ← ev T e σ
    let v ← keep x
    guard (!(imp y))
    let s ← stfS f v (ev T y σ1 >>= fun p => look p.1) (σ1.at i)
    .ok (.nx, σ1.set i s)) := by
  rw [exec]
  refine congrArg (fun g => ev T e σ >>= g) (funext fun p => ?_)
  obtain ⟨x, σ1⟩ := p
  refine congrArg (fun g => keep x >>= g) (funext fun v => ?_)
  refine congrArg (fun g => guard (!(imp y)) >>= g) (funext fun _ => ?_)
  unfold stfS
  try dsimp only
  rcases σ1.at i with _ | ⟨fl, d⟩
  · rfl
  · cases fl <;> cases d <;> try rfl
    simp only [rb_assoc, R.bind_ok]
@[simp] theorem ex_fz {T : Tb} {σ : Sg} {i : Nat} {s : S} : exec T (.fz i s) σ = (exec T s σ >>= fun p => giveS i p) := by rw [exec]
@[simp] theorem giveS_nx {i : Nat} {σ : Sg} : giveS i (.nx, σ) = (match σ.at i with
    | some (.own, d) => .ok (.nx, σ.set i (some (.dat, d)))
    | _ => .ok (.nx, σ)) := rfl
@[simp] theorem ex_exp {T : Tb} {σ : Sg} {e : E} : exec T (.exp e) σ = (do
    let (_, σ1) ← ev T e σ
    .ok (.nx, σ1)) := by rw [exec]
@[simp] theorem ex_ret {T : Tb} {σ : Sg} {e : E} : exec T (.ret e) σ = (do
    let (x, σ1) ← ev T e σ
    guard (x.1 != .brw && x.1 != .ino)
    .ok (.rt x, σ1)) := by rw [exec]
@[simp] theorem ex_rai {T : Tb} {σ : Sg} {c : Nat} : exec T (.rai c) σ = .exc ⟨c, none⟩ := by rw [exec]
def hndS (hs : List (Nat × D)) (σ : Sg) : R ((Fl × D) × Sg) → R (Fw × Sg)
  | .ok (x, σ1) => guard (x.1 != .brw && x.1 != .ino) >>= fun _ => .ok (.rt x, σ1)
  | .exc y => (match hs.find? fun q => decide (q.1 = y.c) with
    | some q => .ok (.rt (.dat, q.2), σ)
    | none => .bad)
  | .bad => .bad
theorem ex_tryr {T : Tb} {σ : Sg} {e : E} {hs : List (Nat × D)} : exec T (.tryr e hs) σ = (guard (shrA σ) >>= fun _ => hndS hs σ (ev T e σ)) := by
  rw [exec]
  cases ev T e σ <;> rfl
def hndX (hs : List (Nat × D)) (σ : Sg) : R ((Fl × D) × Sg) → R (Fw × Sg)
  | .ok _ => .ok (.nx, σ)
  | .exc y => (match hs.find? fun q => decide (q.1 = y.c) with
    | some q => .ok (.rt (.dat, q.2), σ)
    | none => .bad)
  | .bad => .bad
theorem ex_trye {T : Tb} {σ : Sg} {e : E} {hs : List (Nat × D)} : exec T (.trye e hs) σ = (guard (!(imp e)) >>= fun _ => hndX hs σ (ev T e σ)) := by
  rw [exec]
  cases ev T e σ <;> rfl
@[simp] theorem ex_ret0 {T : Tb} {σ : Sg}  : exec T (.ret0 ) σ = .ok (.rt (.dat, .non), σ) := by rw [exec]
@[simp] theorem ex_iff {T : Tb} {σ : Sg} {c : E} {a : Ss} {b : Ss} : exec T (.iff c a b) σ = (do
    let (v, σ1) ← ev T c σ
    let t ← boolD v
    if t then execs T a σ1 else execs T b σ1) := by rw [exec]
@[simp] theorem exs_nil {T : Tb} {σ : Sg} : execs T .nil σ = .ok (.nx, σ) := by rw [execs]
def thenS (T : Tb) (r : Ss) : Fw × Sg → R (Fw × Sg)
  | (.nx, σ1) => execs T r σ1
  | (w, σ1) => .ok (w, σ1)
@[simp] theorem exs_cons {T : Tb} {σ : Sg} {s : S} {r : Ss} : execs T (.cons s r) σ = (exec T s σ >>= thenS T r) := by
  rw [execs]
  refine congrArg (fun f => exec T s σ >>= f) (funext fun p => ?_)
  obtain ⟨w, σ1⟩ := p
  cases w <;> rfl
@[simp] theorem thenS_nx {T : Tb} {σ : Sg} {r : Ss} : thenS T r (.nx, σ) = execs T r σ := rfl
@[simp] theorem thenS_ct {T : Tb} {σ : Sg} {r : Ss} : thenS T r (.ct, σ) = .ok (.ct, σ) := rfl
@[simp] theorem thenS_bk {T : Tb} {σ : Sg} {r : Ss} : thenS T r (.bk, σ) = .ok (.bk, σ) := rfl
@[simp] theorem thenS_rt {T : Tb} {σ : Sg} {r : Ss} {x : Fl × D} : thenS T r (.rt x, σ) = .ok (.rt x, σ) := rfl
@[simp] theorem endD_nx : endD .nx = .ok (.dat, .non) := rfl
@[simp] theorem endD_rt {x : Fl × D} : endD (.rt x) = .ok x := rfl
@[simp] theorem outD_nil {σ : Sg} {j : Nat} : outD σ j [] = .ok [] := rfl
@[simp] theorem outD_d {σ : Sg} {j : Nat} {d : D} {r : List (Fl × D)} : outD σ j ((.dat, d) :: r) = (outD σ (j + 1) r >>= fun ds => .ok (.non :: ds)) := rfl
@[simp] theorem outD_b {σ : Sg} {j : Nat} {d : D} {r : List (Fl × D)} : outD σ j ((.brw, d) :: r) = (outD σ (j + 1) r >>= fun ds => .ok (.non :: ds)) := rfl
def backS : Sl → R D
  | some (.ino, d) => if !isObj d then .ok d else .bad
  | _ => .bad
@[simp] theorem backS_i {d : D} : backS (some (.ino, d)) = if !isObj d then .ok d else .bad := rfl
@[simp] theorem outD_i {σ : Sg} {j : Nat} {d : D} {r : List (Fl × D)} : outD σ j ((.ino, d) :: r) = (backS (σ.at j) >>= fun d => outD σ (j + 1) r >>= fun ds => .ok (d :: ds)) := by
  show (_ >>= _) = _
  unfold backS
  rcases σ.at j with _ | ⟨f, d⟩
  · rfl
  · cases f <;> rfl
@[simp] theorem fill_nil {σ : Sg} : fillA σ .nil [] = .ok [] := rfl
@[simp] theorem fill_d {σ : Sg} {e : E} {r : Es} {d : D} {xs : List (Fl × D)} (h : isIo e = none) : fillA σ (.cons e r) ((.dat, d) :: xs) = (fillA σ r xs >>= fun ys => .ok ((.dat, d) :: ys)) := by
  rw [fillA, h]; rfl
@[simp] theorem fill_o {σ : Sg} {e : E} {r : Es} {d : D} {xs : List (Fl × D)} (h : isIo e = none) : fillA σ (.cons e r) ((.own, d) :: xs) = (fillA σ r xs >>= fun ys => .ok ((.dat, d) :: ys)) := by
  rw [fillA, h]; rfl
@[simp] theorem fill_b {σ : Sg} {e : E} {r : Es} {d : D} {xs : List (Fl × D)} (h : isIo e = none) : fillA σ (.cons e r) ((.brw, d) :: xs) = (fillA σ r xs >>= fun ys => .ok ((.brw, d) :: ys)) := by
  rw [fillA, h]; rfl
def inoS : Sl → R (Fl × D)
  | some (.own, d) => if !isObj d then .ok (.ino, d) else .bad
  | some (.ino, d) => if !isObj d then .ok (.ino, d) else .bad
  | _ => .bad
@[simp] theorem inoS_o {d : D} : inoS (some (.own, d)) = if !isObj d then .ok (.ino, d) else .bad := rfl
@[simp] theorem inoS_i {d : D} : inoS (some (.ino, d)) = if !isObj d then .ok (.ino, d) else .bad := rfl
@[simp] theorem fill_i {σ : Sg} {i : Nat} {r : Es} {d : D} {xs : List (Fl × D)} : fillA σ (.cons (.io i) r) ((.ino, d) :: xs) = (inoS (σ.at i) >>= fun y => fillA σ r xs >>= fun ys => .ok (y :: ys)) := by
  have e : isIo (.io i) = some i := rfl
  rw [fillA, e]
  · dsimp only
    unfold inoS
    generalize σ.at i = s
    rcases s with _ | ⟨f, d⟩
    · rfl
    · cases f <;> rfl
  all_goals (intro _ z; cases z)
@[simp] theorem back_nil {σ : Sg} : backA σ .nil [] = .ok σ := rfl
@[simp] theorem back_d {σ : Sg} {e : E} {r : Es} {d : D} {ds : List D} (h : isIo e = none) : backA σ (.cons e r) (d :: ds) = backA σ r ds := by
  rw [backA, h]
def bkS (σ : Sg) (i : Nat) (r : Es) (d : D) (ds : List D) : Sl → R Sg
  | some (f, _) => backA (σ.set i (some (f, d))) r ds
  | none => .bad
@[simp] theorem bkS_s {σ : Sg} {i : Nat} {r : Es} {d d0 : D} {ds : List D} {f : Fl} : bkS σ i r d ds (some (f, d0)) = backA (σ.set i (some (f, d))) r ds := rfl
@[simp] theorem back_i {σ : Sg} {i : Nat} {r : Es} {d : D} {ds : List D} : backA σ (.cons (.io i) r) (d :: ds) = bkS σ i r d ds (σ.at i) := by
  show (match σ.at i with
      | some (f, _) => (backA (σ.set i (some (f, d))) r ds)
      | none => R.bad) = _
  unfold bkS
  rcases σ.at i with _ | ⟨f, d⟩ <;> rfl
section
@[simp] theorem nat_eq {a b : Nat} : ((a : Int) = (b : Int)) ↔ a = b := Int.ofNat_inj
@[simp] theorem nat_lt {a b : Nat} : ((a : Int) < (b : Int)) ↔ a < b := Int.ofNat_lt
@[simp] theorem nat_le {a b : Nat} : ((a : Int) ≤ (b : Int)) ↔ a ≤ b := Int.ofNat_le
@[simp] theorem add_ii {i j : Int} : binD .add (.int i) (.int j) = .ok (.dat, .int (i + j)) := rfl
@[simp] theorem sub_ii {i j : Int} : binD .sub (.int i) (.int j) = .ok (.dat, .int (i - j)) := rfl
theorem mul_ii {i j : Int} (h : (small i || small j) = true) : binD .mul (.int i) (.int j) = .ok (.dat, .int (i * j)) := if_pos h
theorem fdiv_ii {i j : Int} (h : 0 < j) (h2 : j < 1073741824) : binD .fdiv (.int i) (.int j) = .ok (.dat, .int (i / j)) := if_pos (by simp [h, h2])
theorem mod_ii {i j : Int} (h : 0 < j) : binD .mod (.int i) (.int j) = .ok (.dat, .int (i % j)) := if_pos h
theorem add_tt {x y : List D} (h : x.length + y.length ≤ 16777216) : binD .add (.tup x) (.tup y) = .ok (.dat, .tup (x ++ y)) := if_pos h
theorem add_ll {x y : List D} (h : x.length + y.length ≤ 16777216) : binD .add (.lst x) (.lst y) = .ok (.own, .lst (x ++ y)) := if_pos h
@[simp] theorem lt_ii {i j : Int} : cmpD .lt (.int i) (.int j) = .ok (decide (i < j)) := rfl
@[simp] theorem le_ii {i j : Int} : cmpD .le (.int i) (.int j) = .ok (decide (i ≤ j)) := rfl
@[simp] theorem gt_ii {i j : Int} : cmpD .gt (.int i) (.int j) = .ok (decide (j < i)) := rfl
@[simp] theorem ge_ii {i j : Int} : cmpD .ge (.int i) (.int j) = .ok (decide (j ≤ i)) := rfl
@[simp] theorem eqv_ii {i j : Int} : eqvD (.int i) (.int j) = .ok (decide (i = j)) := by
  unfold eqvD
  simp [toP, SeqAt.shaped, PyData.eqv, PyData.canLay0, PyData.depth]
  rfl
@[simp] theorem eq_ii {i j : Int} : cmpD .eq (.int i) (.int j) = .ok (decide (i = j)) := eqv_ii
@[simp] theorem ne_ii {i j : Int} : cmpD .ne (.int i) (.int j) = .ok (!decide (i = j)) := by
  show (eqvD (.int i) (.int j) >>= _) = _
  rw [eqv_ii]
  rfl
theorem eqv_ss {x y : Str} (h : PyData.strOk x = true) (h2 : PyData.strOk y = true) : eqvD (.str x) (.str y) = .ok (decide (x = y)) := by
  unfold eqvD
  simp [toP, SeqAt.shaped, PyData.eqv, PyData.canLay0, PyData.depth, h, h2]
  rw [Bool.eq_iff_iff]
  simp
theorem eq_ss {x y : Str} (h : PyData.strOk x = true) (h2 : PyData.strOk y = true) : cmpD .eq (.str x) (.str y) = .ok (decide (x = y)) := eqv_ss h h2
theorem ne_ss {x y : Str} (h : PyData.strOk x = true) (h2 : PyData.strOk y = true) : cmpD .ne (.str x) (.str y) = .ok (!decide (x = y)) := by
  show (eqvD (.str x) (.str y) >>= _) = _
  rw [eqv_ss h h2]
  rfl
theorem inD_ints {i : Int} {l : List Int} : inD (.int i) (l.map .int) = .ok (decide (i ∈ l)) := by
  unfold inD
  rw [if_pos (by simp [flatD, List.all_map])]
  refine congrArg R.ok ?_
  rw [Bool.eq_iff_iff, List.any_map, List.any_eq_true, decide_eq_true_eq]
  constructor
  · rintro ⟨x, h1, h2⟩
    have : x = i := by simpa [eqF] using h2
    exact this ▸ h1
  · intro h
    exact ⟨i, h, by simp [eqF]⟩
theorem atI_nat {α : Type} {l : List α} {n : Nat} : L2.atI l (n : Int) = l[n]? := by
  unfold L2.atI L2.ixN
  rw [if_pos (by omega)]
  by_cases h : n < l.length
  · rw [if_pos (by omega)]
    rfl
  · rw [if_neg (by omega), List.getElem?_eq_none (by omega)]
    rfl
@[simp] theorem atI_0 {α : Type} {l : List α} : L2.atI l 0 = l[0]? := atI_nat (n := 0)
@[simp] theorem atI_2 {α : Type} {l : List α} : L2.atI l 2 = l[2]? := atI_nat (n := 2)
@[simp] theorem atI_3 {α : Type} {l : List α} : L2.atI l 3 = l[3]? := atI_nat (n := 3)
@[simp] theorem atI_4 {α : Type} {l : List α} : L2.atI l 4 = l[4]? := atI_nat (n := 4)
@[simp] theorem atI_5 {α : Type} {l : List α} : L2.atI l 5 = l[5]? := atI_nat (n := 5)
@[simp] theorem atI_6 {α : Type} {l : List α} : L2.atI l 6 = l[6]? := atI_nat (n := 6)
@[simp] theorem atI_7 {α : Type} {l : List α} : L2.atI l 7 = l[7]? := atI_nat (n := 7)
@[simp] theorem atI_1 {α : Type} {l : List α} : L2.atI l 1 = l[1]? := atI_nat (n := 1)
@[simp] theorem atI_8 {α : Type} {l : List α} : L2.atI l 8 = l[8]? := atI_nat (n := 8)
@[simp] theorem atI_9 {α : Type} {l : List α} : L2.atI l 9 = l[9]? := atI_nat (n := 9)
@[simp] theorem atI_10 {α : Type} {l : List α} : L2.atI l 10 = l[10]? := atI_nat (n := 10)
@[simp] theorem atI_11 {α : Type} {l : List α} : L2.atI l 11 = l[11]? := atI_nat (n := 11)
@[simp] theorem atI_12 {α : Type} {l : List α} : L2.atI l 12 = l[12]? := atI_nat (n := 12)
@[simp] theorem idx_l {ds : List D} {i : Int} : idxD (.lst ds) (.int i) = ofO (L2.atI ds i) := rfl
@[simp] theorem idx_t {ds : List D} {i : Int} : idxD (.tup ds) (.int i) = ofO (L2.atI ds i) := rfl
@[simp] theorem idx_s {ns : List Int} {i : Int} : idxD (.scr ns) (.int i) = ofO ((L2.atI ns i).map .int) := rfl
end
theorem bls_map : ∀ l : List Bool, blsD (l.map .bl) = some l
  | [] => rfl
  | a :: l => by rw [List.map_cons, blsD, bls_map l]; rfl
theorem ints_map : ∀ l : List Int, intsD (l.map .int) = some l
  | [] => rfl
  | a :: l => by rw [List.map_cons, intsD, ints_map l]; rfl
theorem eqv_bb {a b : Bool} : eqvD (.bl a) (.bl b) = .ok (a == b) := by cases a <;> cases b <;> rfl
@[simp] theorem eq_bb {a b : Bool} : cmpD .eq (.bl a) (.bl b) = .ok (a == b) := eqv_bb
@[simp] theorem ne_bb {a b : Bool} : cmpD .ne (.bl a) (.bl b) = .ok (!(a == b)) := by
  show (eqvD (.bl a) (.bl b) >>= _) = _
  rw [eqv_bb]
  rfl
@[simp] theorem bf_lenL {ds : List D} : bifD .len [.lst ds] = .ok (.dat, .int ds.length) := rfl
@[simp] theorem bf_lenT {ds : List D} : bifD .len [.tup ds] = .ok (.dat, .int ds.length) := rfl
@[simp] theorem bf_lenS {ns : List Int} : bifD .len [.scr ns] = .ok (.dat, .int ns.length) := rfl
@[simp] theorem bf_lenD {kvs : List (L2.Key × D)} : bifD .len [.dct kvs] = .ok (.dat, .int kvs.length) := rfl
@[simp] theorem bf_intB {b : Bool} : bifD .intO [.bl b] = .ok (.dat, .int (if b then 1 else 0)) := rfl
@[simp] theorem bf_intI {i : Int} : bifD .intO [.int i] = .ok (.dat, .int i) := rfl
@[simp] theorem bf_min {i j : Int} : bifD .min2 [.int i, .int j] = .ok (.dat, .int (if j < i then j else i)) := rfl
@[simp] theorem bf_max {i j : Int} : bifD .max2 [.int i, .int j] = .ok (.dat, .int (if j > i then j else i)) := rfl
@[simp] theorem bf_tupL {ds : List D} : bifD .tupO [.lst ds] = .ok (.dat, .tup ds) := rfl
@[simp] theorem bf_tupT {ds : List D} : bifD .tupO [.tup ds] = .ok (.dat, .tup ds) := rfl
@[simp] theorem bf_lstL {ds : List D} : bifD .lstO [.lst ds] = .ok (.own, .lst ds) := rfl
@[simp] theorem bf_lstT {ds : List D} : bifD .lstO [.tup ds] = .ok (.own, .lst ds) := rfl
theorem bf_all {l : List Bool} : bifD .all [.lst (l.map .bl)] = .ok (.dat, .bl (l.all id)) := by
  show (ofO (blsD _) >>= _) = _
  rw [bls_map]
  rfl
theorem bf_any {l : List Bool} : bifD .any [.lst (l.map .bl)] = .ok (.dat, .bl (l.any id)) := by
  show (ofO (blsD _) >>= _) = _
  rw [bls_map]
  rfl
@[simp] theorem sl_l {ds : List D} {a b : Option Int} : slcD (.lst ds) a b = .ok (.own, .lst (cutD ds a b)) := rfl
@[simp] theorem sl_t {ds : List D} {a b : Option Int} : slcD (.tup ds) a b = .ok (.dat, .tup (cutD ds a b)) := rfl
theorem bf_str {i : Int} (h : i.natAbs.log2 < 1920) : bifD .strO [.int i] = .ok (.dat, .str (toString i)) := if_pos (by simpa using h)
theorem upp_s {s : Str} (h : s.length ≤ 5592405) : uppD (.str s) = .ok (.str (Txt.upper s)) := if_pos (by simpa using h)
theorem mul_ti {x : List D} {k : Int} (h0 : x ≠ []) (h1 : 2 ≤ k) (h2 : k ≤ 1000) (h3 : x.length ≤ 1000) : binD .mul (.tup x) (.int k) = .ok (.dat, .tup (List.replicate k.toNat x).flatten) := by
  have e : (!x.isEmpty && decide (2 ≤ k ∧ k ≤ 1000 ∧ x.length ≤ 1000)) = true := by
    cases x with
    | nil => exact absurd rfl h0
    | cons a l => simp only [List.isEmpty_cons, Bool.not_false, Bool.true_and, decide_eq_true_eq]; exact ⟨h1, h2, h3⟩
  exact if_pos e
theorem mu_app {ds : List D} {x : D} (h : ds.length < 16777216) : mutD .append (.lst ds) [x] = .ok (.non, .lst (ds ++ [x])) := if_pos h
theorem mu_ext {ds xs : List D} (h : ds.length + xs.length ≤ 16777216) : mutD .extend (.lst ds) [.lst xs] = .ok (.non, .lst (ds ++ xs)) := if_pos h
section
variable {T : Tb} {σ : Sg} {α : Type} {enc : α → D}
theorem wk_seqL {ds : List D} : wkD .seq [.lst ds] = .ok ds := rfl
theorem wk_seqT {ds : List D} : wkD .seq [.tup ds] = .ok ds := rfl
theorem wk_zipT {xa xb : List D} : wkD .zip [.tup xa, .tup xb] = .ok (zipD xa xb) := rfl
theorem wk_zipL {xa xb : List D} : wkD .zip [.lst xa, .lst xb] = .ok (zipD xa xb) := rfl
theorem wk_zipM {xa xb : List D} : wkD .zip [.lst xa, .tup xb] = .ok (zipD xa xb) := rfl
theorem wk_rng1 {n : Nat} (h : n ≤ 16777216) : wkD .rng [.int (n : Int)] = .ok ((List.range n).map fun i : Nat => .int (i : Int)) := by
  unfold wkD
  try dsimp only
  rw [if_pos (by simp [inR]; omega)]
  unfold rangeD
  simp
/-- one round of a list's making -/
def cRound (T : Tb) (tg : Tg) (cs : Es) (x : E) (vs : List Nat) (d : D) (τ : Sg) : R (Option D × Sg) := do
  let τ1 ← setT τ tg d
  let (b, τ2) ← evAnd T cs τ1
  let b ← boolD b
  if b then do
    let (v, τ3) ← ev T x τ2
    let v ← keep v
    .ok (some v, wipeD τ3 vs)
  else .ok (none, wipeD τ2 vs)
theorem compGo_map {f : D → Sg → R (Option D × Sg)} {g : α → Option D} : ∀ (l : List α) (acc : List D), (∀ a ∈ l, f (enc a) σ = .ok (g a, σ)) → compGo f (l.map enc) σ acc = .ok (acc ++ l.filterMap g, σ)
  | [], acc, _ => by simp [compGo]
  | a :: l, acc, h => by
    rw [List.map_cons, compGo, h a List.mem_cons_self]
    simp only [R.bind_ok]
    rw [compGo_map l _ fun b hb => h b (List.mem_cons_of_mem _ hb), List.filterMap_cons]
    cases g a <;> simp
/-- a list made of a walk whose rounds change nothing -/
theorem ev_cmap {w : Wk} {src : Es} {tg : Tg} {cs : Es} {x : E} {vs : List Nat} {xs : List (Fl × D)} {ds : List D} (l : List α) (enc : α → D) (g : α → Option D) (h1 : evs T src σ = .ok (xs, σ)) (h2 : vs.all (freeAt σ) = true)
    (h3 : (imps cs || imp x) = false) (h4 : looks xs = .ok ds) (h5 : wkD w ds = .ok (l.map enc)) (h6 : ∀ a ∈ l, cRound T tg cs x vs (enc a) (wipeD σ vs) = .ok (g a, wipeD σ vs)) (h7 : putBack (wipeD σ vs) σ vs = σ) (hd : dctSrc src xs = true := by rfl) :
    ev T (.comp w src tg cs x vs) σ = .ok ((.own, .lst (l.filterMap g)), σ) := by
  rw [ev, h1]
  simp only [R.bind_ok]
  rw [hd, h2, h3, Bool.and_false, h4]
  simp only [R.bind_ok, Bool.not_false, Bool.and_self, Bool.and_true, guard_true, h5]
  have := compGo_map (f := cRound T tg cs x vs) (g := g) (enc := enc) (σ := wipeD σ vs) l [] h6
  unfold cRound at this
  rw [this]
  show R.ok _ = _
  rw [h7, List.nil_append]
/-- a list made of a walk whose rounds draw: each from a pen that is as it should be -/
theorem compGo_inv {f : D → Sg → R (Option D × Sg)} {Inv : Nat → Sg → Prop} {Is : D → Prop} : ∀ (l : List α) (k : Nat) (σ : Sg) (acc : List D), (∀ (i : Nat) (a : α) (σ : Sg), l[i]? = some a → Inv (k + i) σ → ∃ y σ', f (enc a) σ = .ok (some y, σ') ∧ Is y ∧ Inv (k + i + 1) σ') → Inv k σ →
    ∃ ys σ', compGo f (l.map enc) σ acc = .ok (acc ++ ys, σ') ∧ ys.length = l.length ∧ (∀ y ∈ ys, Is y) ∧ Inv (k + l.length) σ'
  | [], k, σ, acc, _, hi => ⟨[], σ, by simp [compGo], rfl, (fun _ z => nomatch z), hi⟩
  | a :: l, k, σ, acc, h, hi => by
    obtain ⟨y, σ1, h1, h2, h3⟩ := h 0 a σ rfl hi
    obtain ⟨ys, σ2, g1, g2, g3, g4⟩ := compGo_inv l (k + 1) σ1 (acc ++ [y]) (fun i b σ hb hσ => by
      have := h (i + 1) b σ hb (by rw [← Nat.add_assoc, Nat.add_right_comm]; exact hσ)
      rw [← Nat.add_assoc, Nat.add_right_comm k i 1] at this
      exact this) h3
    refine ⟨y :: ys, σ2, ?_, by rw [List.length_cons, g2, List.length_cons], fun z hz => ?_, by rw [List.length_cons, ← Nat.add_assoc, Nat.add_right_comm]; exact g4⟩
    · rw [List.map_cons, compGo, h1]
      simp only [R.bind_ok]
      rw [g1, List.append_assoc]
      rfl
    · rcases List.mem_cons.mp hz with e | e
      · rw [e]; exact h2
      · exact g3 z e
/-- one round of a loop -/
def lRound (T : Tb) (tg : Tg) (b : Ss) (d : D) (τ : Sg) : R (Fw × Sg) := do
  guard ((tgSlots tg).all (freeAt τ))
  let τ1 ← setT τ tg d
  execs T b τ1
theorem ex_loop {w : Wk} {tg : Tg} {src : Es} {b : Ss} {σ1 : Sg} {xs : List (Fl × D)} {ds its : List D} (h1 : evs T src σ = .ok (xs, σ1)) (h2 : srcOk σ1 src xs = true) (h3 : looks xs = .ok ds) (h4 : wkD w ds = .ok its)
    {r : Fw × Sg} (h5 : loopGo (lRound T tg b) its σ1 = .ok r) (hd : dctSrc src xs = true := by rfl) : exec T (.loop w tg src b) σ = .ok r := by
  rw [exec, h1]
  simp only [R.bind_ok]
  rw [hd, h2, h3]
  simp only [R.bind_ok, Bool.and_self, guard_true, h4]
  unfold lRound at h5
  rw [h5]
  rfl
theorem loopGo_ix {f : D → Sg → R (Fw × Sg)} {Inv : Nat → Sg → Prop} : ∀ (l : List α) (k : Nat) (σ : Sg), (∀ (i : Nat) (a : α) (σ : Sg), l[i]? = some a → Inv (k + i) σ → ∃ w σ', f (enc a) σ = .ok (w, σ') ∧ (w = .nx ∨ w = .ct) ∧ Inv (k + i + 1) σ') → Inv k σ →
    ∃ σ', loopGo f (l.map enc) σ = .ok (.nx, σ') ∧ Inv (k + l.length) σ'
  | [], k, σ, _, hi => ⟨σ, by simp [loopGo], hi⟩
  | a :: l, k, σ, h, hi => by
    obtain ⟨w, σ1, h1, h2, h3⟩ := h 0 a σ rfl hi
    obtain ⟨σ2, g1, g2⟩ := loopGo_ix l (k + 1) σ1 (fun i b σ hb hσ => by
      have := h (i + 1) b σ hb (by rw [← Nat.add_assoc, Nat.add_right_comm]; exact hσ)
      rw [← Nat.add_assoc, Nat.add_right_comm k i 1] at this
      exact this) h3
    refine ⟨σ2, ?_, by rw [List.length_cons, ← Nat.add_assoc, Nat.add_right_comm]; exact g2⟩
    rw [List.map_cons, loopGo, h1]
    rcases h2 with e | e
    · rw [e]; exact g1
    · rw [e]; exact g1
/-- a loop that leaves at the first that does not pass -/
theorem loopGo_all {f : D → Sg → R (Fw × Sg)} {Inv : Sg → Prop} {q : α → Bool} {r : Fl × D} : ∀ (l : List α) (σ : Sg), (∀ (a : α) (σ : Sg), a ∈ l → Inv σ → ∃ w σ', f (enc a) σ = .ok (w, σ') ∧ (q a = true → w = .nx ∨ w = .ct) ∧ (q a = false → w = .rt r) ∧ Inv σ') → Inv σ →
    ∃ w σ', loopGo f (l.map enc) σ = .ok (w, σ') ∧ Inv σ' ∧ w = (if l.all q then .nx else .rt r)
  | [], σ, _, hi => ⟨.nx, σ, by simp [loopGo], hi, rfl⟩
  | a :: l, σ, h, hi => by
    obtain ⟨w, σ1, h1, h2, h3, h4⟩ := h a σ List.mem_cons_self hi
    obtain ⟨w2, σ2, g1, g2, g3⟩ := loopGo_all l σ1 (fun b σ hb hσ => h b σ (List.mem_cons_of_mem _ hb) hσ) h4
    rw [List.map_cons, loopGo, h1]
    cases e : q a with
    | true =>
      refine ⟨w2, σ2, ?_, g2, ?_⟩
      · rcases h2 e with z | z
        · rw [z]; exact g1
        · rw [z]; exact g1
      · rw [g3, List.all_cons, e, Bool.true_and]
    | false =>
      refine ⟨.rt r, σ1, by rw [h3 e]; rfl, h4, ?_⟩
      rw [List.all_cons, e, Bool.false_and]
      rfl
end
/-- it comes to something of which P is so -/
def R.post {a : Type} (x : R a) (P : a → Prop) : Prop := ∃ y, x = .ok y ∧ P y
@[simp] theorem post_ok {a : Type} {y : a} {P : a → Prop} : (R.ok y).post P ↔ P y := ⟨fun ⟨z, e, h⟩ => by cases e; exact h, fun h => ⟨y, rfl, h⟩⟩
theorem post_bind {a b : Type} {x : R a} {f : a → R b} {P : a → Prop} {Q : b → Prop} (h : x.post P) (k : ∀ y, P y → (f y).post Q) : (x >>= f).post Q := by
  obtain ⟨y, e, hy⟩ := h
  rw [e]
  exact k y hy
section
variable {T : Tb} {σ : Sg} {α : Type}
/-- a list made of a walk whose rounds change nothing, and what is done with it -/
theorem b_cmap {w : Wk} {src : Es} {tg : Tg} {cs : Es} {x : E} {vs : List Nat} {B : Type} {k : (Fl × D) × Sg → R B} {r : R B} {xs : List (Fl × D)} {ds : List D} (l : List α) (enc : α → D) (g : α → Option D) (h1 : evs T src σ = .ok (xs, σ)) (h2 : vs.all (freeAt σ) = true)
    (h3 : (imps cs || imp x) = false) (h4 : looks xs = .ok ds) (h5 : wkD w ds = .ok (l.map enc)) (h6 : ∀ a ∈ l, cRound T tg cs x vs (enc a) (wipeD σ vs) = .ok (g a, wipeD σ vs)) (h7 : putBack (wipeD σ vs) σ vs = σ)
    (h8 : k ((.own, .lst (l.filterMap g)), σ) = r) (hd : dctSrc src xs = true := by rfl) : (ev T (.comp w src tg cs x vs) σ >>= k) = r := by
  rw [ev_cmap l enc g h1 h2 h3 h4 h5 h6 h7 hd]
  exact h8
/-- a list made of a walk whose rounds draw -/
theorem b_cinv {w : Wk} {src : Es} {tg : Tg} {cs : Es} {x : E} {vs : List Nat} {B : Type} {k : (Fl × D) × Sg → R B} {r : R B} {xs : List (Fl × D)} {ds : List D} (l : List α) (enc : α → D) (Inv : Nat → Sg → Prop) (Is : D → Prop) (h1 : evs T src σ = .ok (xs, σ)) (h2 : vs.all (freeAt σ) = true)
    (h3 : xs.any (fun v => v.1 == .brw) = false) (h4 : looks xs = .ok ds) (h5 : wkD w ds = .ok (l.map enc)) (h0 : Inv 0 (wipeD σ vs))
    (h6 : ∀ (i : Nat) (a : α) (σ : Sg), l[i]? = some a → Inv i σ → (cRound T tg cs x vs (enc a) σ).post fun r => (∃ y, r.1 = some y ∧ Is y) ∧ Inv (i + 1) r.2)
    (h8 : ∀ ys σ', ys.length = l.length → (∀ y ∈ ys, Is y) → Inv l.length σ' → k ((.own, .lst ys), putBack σ' σ vs) = r) (hd : dctSrc src xs = true := by rfl) : (ev T (.comp w src tg cs x vs) σ >>= k) = r := by
  rw [ev, h1]
  simp only [R.bind_ok]
  rw [hd, h2, h3, Bool.false_and, h4]
  simp only [R.bind_ok, Bool.not_false, Bool.and_self, guard_true, h5]
  obtain ⟨ys, σ', e, e1, e2, e3⟩ := compGo_inv (f := cRound T tg cs x vs) (Inv := Inv) (Is := Is) (enc := enc) l 0 (wipeD σ vs) [] (fun i a σ hi hv => by
    rw [Nat.zero_add] at hv ⊢
    obtain ⟨⟨_, σ'⟩, g1, ⟨y, rfl, g2⟩, g3⟩ := h6 i a σ hi hv
    exact ⟨y, σ', g1, g2, g3⟩) h0
  unfold cRound at e
  rw [e]
  simp only [calmOk, R.bind_ok, List.nil_append]
  exact h8 ys σ' e1 e2 (by rw [Nat.zero_add] at e3; exact e3)
theorem b_ix {w : Wk} {tg : Tg} {src : Es} {b : Ss} {σ1 : Sg} {xs : List (Fl × D)} {ds : List D} {B : Type} {k : Fw × Sg → R B} {r : R B} (l : List α) (enc : α → D) (Inv : Nat → Sg → Prop) (h1 : evs T src σ = .ok (xs, σ1)) (h2 : srcOk σ1 src xs = true) (h3 : looks xs = .ok ds) (h4 : wkD w ds = .ok (l.map enc)) (h0 : Inv 0 σ1)
    (h5 : ∀ (i : Nat) (a : α) (σ : Sg), l[i]? = some a → Inv i σ → (lRound T tg b (enc a) σ).post fun r => (r.1 = .nx ∨ r.1 = .ct) ∧ Inv (i + 1) r.2)
    (h6 : ∀ σ', Inv l.length σ' → k (.nx, σ') = r) (hd : dctSrc src xs = true := by rfl) : (exec T (.loop w tg src b) σ >>= k) = r := by
  obtain ⟨σ', e1, e2⟩ := loopGo_ix (f := lRound T tg b) (Inv := Inv) (enc := enc) l 0 σ1 (fun i a σ hi hv => by
    rw [Nat.zero_add] at hv ⊢
    obtain ⟨⟨w, σ'⟩, g1, g2, g3⟩ := h5 i a σ hi hv
    exact ⟨w, σ', g1, g2, g3⟩) h0
  rw [ex_loop h1 h2 h3 h4 e1 hd]
  exact h6 σ' (by rw [Nat.zero_add] at e2; exact e2)
theorem b_all {w : Wk} {tg : Tg} {src : Es} {b : Ss} {σ1 : Sg} {xs : List (Fl × D)} {ds : List D} {B : Type} {k : Fw × Sg → R B} {r : R B} (l : List α) (enc : α → D) (Inv : Sg → Prop) (q : α → Bool) (y : Fl × D) (h1 : evs T src σ = .ok (xs, σ1)) (h2 : srcOk σ1 src xs = true) (h3 : looks xs = .ok ds) (h4 : wkD w ds = .ok (l.map enc)) (h0 : Inv σ1)
    (h5 : ∀ (a : α) (σ : Sg), a ∈ l → Inv σ → (lRound T tg b (enc a) σ).post fun r => r.1 = (if q a then .nx else .rt y) ∧ Inv r.2)
    (h6 : ∀ σ', Inv σ' → l.all q = true → k (.nx, σ') = r) (h7 : ∀ σ', Inv σ' → l.all q = false → k (.rt y, σ') = r) (hd : dctSrc src xs = true := by rfl) : (exec T (.loop w tg src b) σ >>= k) = r := by
  obtain ⟨w, σ', e1, e2, e3⟩ := loopGo_all (f := lRound T tg b) (Inv := Inv) (enc := enc) (q := q) (r := y) l σ1 (fun a σ ha hi => by
    obtain ⟨⟨w, σ'⟩, g1, g0, g2⟩ := h5 a σ ha hi
    exact ⟨w, σ', g1, (fun z => by rw [z] at g0; exact .inl g0), (fun z => by rw [z] at g0; exact g0), g2⟩) h0
  rw [ex_loop h1 h2 h3 h4 e1 hd]
  cases e : l.all q with
  | true => rw [e] at e3; rw [e3]; exact h6 σ' e2 e
  | false => rw [e] at e3; rw [e3]; exact h7 σ' e2 e
/-- a list made of a walk whose rounds change nothing, and what is done with it -/
theorem p_cmap {w : Wk} {src : Es} {tg : Tg} {cs : Es} {x : E} {vs : List Nat} {B : Type} {k : (Fl × D) × Sg → R B} {Po : B → Prop} {xs : List (Fl × D)} {ds : List D} (l : List α) (enc : α → D) (g : α → Option D) (h1 : evs T src σ = .ok (xs, σ)) (h2 : vs.all (freeAt σ) = true)
    (h3 : (imps cs || imp x) = false) (h4 : looks xs = .ok ds) (h5 : wkD w ds = .ok (l.map enc)) (h6 : ∀ a ∈ l, cRound T tg cs x vs (enc a) (wipeD σ vs) = .ok (g a, wipeD σ vs)) (h7 : putBack (wipeD σ vs) σ vs = σ)
    (h8 : (k ((.own, .lst (l.filterMap g)), σ)).post Po) (hd : dctSrc src xs = true := by rfl) : (ev T (.comp w src tg cs x vs) σ >>= k).post Po := by
  rw [ev_cmap l enc g h1 h2 h3 h4 h5 h6 h7 hd]
  exact h8
/-- a list made of a walk whose rounds draw -/
theorem p_cinv {w : Wk} {src : Es} {tg : Tg} {cs : Es} {x : E} {vs : List Nat} {B : Type} {k : (Fl × D) × Sg → R B} {Po : B → Prop} {xs : List (Fl × D)} {ds : List D} (l : List α) (enc : α → D) (Inv : Nat → Sg → Prop) (Is : D → Prop) (h1 : evs T src σ = .ok (xs, σ)) (h2 : vs.all (freeAt σ) = true)
    (h3 : xs.any (fun v => v.1 == .brw) = false) (h4 : looks xs = .ok ds) (h5 : wkD w ds = .ok (l.map enc)) (h0 : Inv 0 (wipeD σ vs))
    (h6 : ∀ (i : Nat) (a : α) (σ : Sg), l[i]? = some a → Inv i σ → (cRound T tg cs x vs (enc a) σ).post fun r => (∃ y, r.1 = some y ∧ Is y) ∧ Inv (i + 1) r.2)
    (h8 : ∀ ys σ', ys.length = l.length → (∀ y ∈ ys, Is y) → Inv l.length σ' → (k ((.own, .lst ys), putBack σ' σ vs)).post Po) (hd : dctSrc src xs = true := by rfl) : (ev T (.comp w src tg cs x vs) σ >>= k).post Po := by
  rw [ev, h1]
  simp only [R.bind_ok]
  rw [hd, h2, h3, Bool.false_and, h4]
  simp only [R.bind_ok, Bool.not_false, Bool.and_self, guard_true, h5]
  obtain ⟨ys, σ', e, e1, e2, e3⟩ := compGo_inv (f := cRound T tg cs x vs) (Inv := Inv) (Is := Is) (enc := enc) l 0 (wipeD σ vs) [] (fun i a σ hi hv => by
    rw [Nat.zero_add] at hv ⊢
    obtain ⟨⟨_, σ'⟩, g1, ⟨y, rfl, g2⟩, g3⟩ := h6 i a σ hi hv
    exact ⟨y, σ', g1, g2, g3⟩) h0
  unfold cRound at e
  rw [e]
  simp only [calmOk, R.bind_ok, List.nil_append]
  exact h8 ys σ' e1 e2 (by rw [Nat.zero_add] at e3; exact e3)
theorem compGo_acc {f : D → Sg → R (Option D × Sg)} {enc : α → D} {Inv : List D → Sg → Prop} : ∀ (l : List α) (k : Nat) (σ : Sg) (acc : List D), acc.length = k → (∀ (i : Nat) (acc : List D) (a : α) (σ : Sg), l[i]? = some a → acc.length = k + i → Inv acc σ → (f (enc a) σ).post fun r => ∃ y, r.1 = some y ∧ Inv (acc ++ [y]) r.2) → Inv acc σ →
    ∃ ys σ', compGo f (l.map enc) σ acc = .ok (ys, σ') ∧ ys.length = k + l.length ∧ Inv ys σ'
  | [], k, σ, acc, hl, _, hi => ⟨acc, σ, by simp [compGo], hl, hi⟩
  | a :: l, k, σ, acc, hl, h, hi => by
    obtain ⟨⟨o, σ1⟩, h1, y, rfl, h3⟩ := h 0 acc a σ rfl hl hi
    obtain ⟨ys, σ2, g1, g2, g3⟩ := compGo_acc l (k + 1) σ1 (acc ++ [y]) (by rw [List.length_append, hl]; rfl) (fun i acc b σ hb hl hσ => h (i + 1) acc b σ hb (by omega) hσ) h3
    refine ⟨ys, σ2, ?_, by rw [List.length_cons]; omega, g3⟩
    rw [List.map_cons, compGo, h1]
    simp only [R.bind_ok]
    exact g1
/-- a list made of a walk whose rounds change slots -/
theorem p_cacc {w : Wk} {src : Es} {tg : Tg} {cs : Es} {x : E} {vs : List Nat} {B : Type} {k : (Fl × D) × Sg → R B} {Po : B → Prop} {σ1 : Sg} {xs : List (Fl × D)} {ds : List D} (l : List α) (enc : α → D) (Inv : List D → Sg → Prop) (h1 : evs T src σ = .ok (xs, σ1)) (h2 : vs.all (freeAt σ1) = true)
    (h3 : xs.any (fun v => v.1 == .brw) = false) (h4 : looks xs = .ok ds) (h5 : wkD w ds = .ok (l.map enc)) (h0 : Inv [] (wipeD σ1 vs))
    (h6 : ∀ (i : Nat) (acc : List D) (a : α) (σ : Sg), l[i]? = some a → acc.length = i → Inv acc σ → (cRound T tg cs x vs (enc a) σ).post fun r => ∃ y, r.1 = some y ∧ Inv (acc ++ [y]) r.2)
    (h8 : ∀ ys σ', ys.length = l.length → Inv ys σ' → (k ((.own, .lst ys), putBack σ' σ1 vs)).post Po) (hd : dctSrc src xs = true := by rfl) : (ev T (.comp w src tg cs x vs) σ >>= k).post Po := by
  rw [ev, h1]
  simp only [R.bind_ok]
  rw [hd, h2, h3, Bool.false_and, h4]
  simp only [R.bind_ok, Bool.not_false, Bool.and_self, guard_true, h5]
  obtain ⟨ys, σ', e, e1, e2⟩ := compGo_acc (f := cRound T tg cs x vs) (Inv := Inv) (enc := enc) l 0 (wipeD σ1 vs) [] rfl (fun i acc a σ hi hl hv => h6 i acc a σ hi (by omega) hv) h0
  unfold cRound at e
  rw [e]
  simp only [calmOk, R.bind_ok, List.nil_append]
  exact h8 ys σ' (by omega) e2
theorem p_ix {w : Wk} {tg : Tg} {src : Es} {b : Ss} {σ1 : Sg} {xs : List (Fl × D)} {ds : List D} {B : Type} {k : Fw × Sg → R B} {Po : B → Prop} (l : List α) (enc : α → D) (Inv : Nat → Sg → Prop) (h1 : evs T src σ = .ok (xs, σ1)) (h2 : srcOk σ1 src xs = true) (h3 : looks xs = .ok ds) (h4 : wkD w ds = .ok (l.map enc)) (h0 : Inv 0 σ1)
    (h5 : ∀ (i : Nat) (a : α) (σ : Sg), l[i]? = some a → Inv i σ → (lRound T tg b (enc a) σ).post fun r => (r.1 = .nx ∨ r.1 = .ct) ∧ Inv (i + 1) r.2)
    (h6 : ∀ σ', Inv l.length σ' → (k (.nx, σ')).post Po) (hd : dctSrc src xs = true := by rfl) : (exec T (.loop w tg src b) σ >>= k).post Po := by
  obtain ⟨σ', e1, e2⟩ := loopGo_ix (f := lRound T tg b) (Inv := Inv) (enc := enc) l 0 σ1 (fun i a σ hi hv => by
    rw [Nat.zero_add] at hv ⊢
    obtain ⟨⟨w, σ'⟩, g1, g2, g3⟩ := h5 i a σ hi hv
    exact ⟨w, σ', g1, g2, g3⟩) h0
  rw [ex_loop h1 h2 h3 h4 e1 hd]
  exact h6 σ' (by rw [Nat.zero_add] at e2; exact e2)
theorem p_all {w : Wk} {tg : Tg} {src : Es} {b : Ss} {σ1 : Sg} {xs : List (Fl × D)} {ds : List D} {B : Type} {k : Fw × Sg → R B} {Po : B → Prop} (l : List α) (enc : α → D) (Inv : Sg → Prop) (q : α → Bool) (y : Fl × D) (h1 : evs T src σ = .ok (xs, σ1)) (h2 : srcOk σ1 src xs = true) (h3 : looks xs = .ok ds) (h4 : wkD w ds = .ok (l.map enc)) (h0 : Inv σ1)
    (h5 : ∀ (a : α) (σ : Sg), a ∈ l → Inv σ → (lRound T tg b (enc a) σ).post fun r => r.1 = (if q a then .nx else .rt y) ∧ Inv r.2)
    (h6 : ∀ σ', Inv σ' → l.all q = true → (k (.nx, σ')).post Po) (h7 : ∀ σ', Inv σ' → l.all q = false → (k (.rt y, σ')).post Po) (hd : dctSrc src xs = true := by rfl) : (exec T (.loop w tg src b) σ >>= k).post Po := by
  obtain ⟨w, σ', e1, e2, e3⟩ := loopGo_all (f := lRound T tg b) (Inv := Inv) (enc := enc) (q := q) (r := y) l σ1 (fun a σ ha hi => by
    obtain ⟨⟨w, σ'⟩, g1, g0, g2⟩ := h5 a σ ha hi
    exact ⟨w, σ', g1, (fun z => by rw [z] at g0; exact .inl g0), (fun z => by rw [z] at g0; exact g0), g2⟩) h0
  rw [ex_loop h1 h2 h3 h4 e1 hd]
  cases e : l.all q with
  | true => rw [e] at e3; rw [e3]; exact h6 σ' e2 e
  | false => rw [e] at e3; rw [e3]; exact h7 σ' e2 e
end
/-- ints, texts, None, tuples and lists of such, n deep at most -/
def okD : Nat → D → Bool
  | _, .non => true
  | _, .int _ => true
  | _, .str s => PyData.strOk s
  | n + 1, .tup ds => ds.all (okD n)
  | n + 1, .lst ds => ds.all (okD n)
  | _, _ => false
theorem okD_list {n : Nat} (ih : ∀ d, okD n d = true → ∃ p, toP d = some p ∧ p.canLay0 = true ∧ p.depth ≤ n) : ∀ ds : List D, ds.all (okD n) = true → ∃ ps, toPs ds = some ps ∧ PyData.canLayAll0 ps = true ∧ PyData.depthAll ps ≤ n
  | [], _ => ⟨[], by rw [toPs], rfl, by simp [PyData.depthAll]⟩
  | d :: ds, h => by
    rw [List.all_cons, Bool.and_eq_true] at h
    obtain ⟨p, h1, h2, h3⟩ := ih d h.1
    obtain ⟨ps, g1, g2, g3⟩ := okD_list ih ds h.2
    refine ⟨p :: ps, by rw [toPs, h1, g1], by simp [PyData.canLayAll0, h2, g2], by simp [PyData.depthAll]; omega⟩
theorem okD_P : ∀ (n : Nat) (d : D), okD n d = true → ∃ p, toP d = some p ∧ p.canLay0 = true ∧ p.depth ≤ n := by
  intro n
  induction n with
  | zero =>
    intro d h
    cases d with
    | non => exact ⟨_, by rw [toP], rfl, Nat.le_refl _⟩
    | int i => exact ⟨_, by rw [toP], rfl, Nat.le_refl _⟩
    | str s => exact ⟨.str s, by rw [toP], (by unfold okD at h; exact h), Nat.le_refl _⟩
    | _ => cases h
  | succ n ih =>
    intro d h
    cases d with
    | non => exact ⟨_, by rw [toP], rfl, Nat.zero_le _⟩
    | int i => exact ⟨_, by rw [toP], rfl, Nat.zero_le _⟩
    | str s => exact ⟨.str s, by rw [toP], (by unfold okD at h; exact h), Nat.zero_le _⟩
    | tup ds =>
      obtain ⟨ps, h1, h2, h3⟩ := okD_list ih ds h
      exact ⟨.tuple ps, by rw [toP, h1]; rfl, h2, by simp [PyData.depth]; omega⟩
    | lst ds =>
      obtain ⟨ps, h1, h2, h3⟩ := okD_list ih ds h
      exact ⟨.list ps, by rw [toP, h1]; rfl, h2, by simp [PyData.depth]; omega⟩
    | _ => cases h
theorem eqv_list {n : Nat} (ih : ∀ d e p q, okD n d = true → okD n e = true → toP d = some p → toP e = some q → (PyData.eqv p q = true ↔ d = e)) : ∀ (ds es : List D) (ps qs : List PyData), ds.all (okD n) = true → es.all (okD n) = true → toPs ds = some ps → toPs es = some qs → (PyData.eqvAll ps qs = true ↔ ds = es)
  | [], [], ps, qs, _, _, h1, h2 => by
    rw [toPs] at h1 h2
    cases h1; cases h2
    simp [PyData.eqvAll]
  | d :: ds, e :: es, ps, qs, g1, g2, h1, h2 => by
    rw [List.all_cons, Bool.and_eq_true] at g1 g2
    rw [toPs] at h1 h2
    cases a1 : toP d with
    | none => rw [a1] at h1; cases h1
    | some p =>
      cases a2 : toPs ds with
      | none => rw [a1, a2] at h1; cases h1
      | some ps' =>
        cases b1 : toP e with
        | none => rw [b1] at h2; cases h2
        | some q =>
          cases b2 : toPs es with
          | none => rw [b1, b2] at h2; cases h2
          | some qs' =>
            rw [a1, a2] at h1
            rw [b1, b2] at h2
            cases h1; cases h2
            rw [PyData.eqvAll, Bool.and_eq_true, ih d e p q g1.1 g2.1 a1 b1, eqv_list ih ds es ps' qs' g1.2 g2.2 a2 b2]
            simp
  | [], e :: es, ps, qs, _, _, h1, h2 => by
    rw [toPs] at h1
    cases h1
    rw [toPs] at h2
    cases b1 : toP e with
    | none => rw [b1] at h2; cases h2
    | some q =>
      cases b2 : toPs es with
      | none => rw [b1, b2] at h2; cases h2
      | some qs' => rw [b1, b2] at h2; cases h2; simp [PyData.eqvAll]
  | d :: ds, [], ps, qs, _, _, h1, h2 => by
    rw [toPs] at h2
    cases h2
    rw [toPs] at h1
    cases b1 : toP d with
    | none => rw [b1] at h1; cases h1
    | some q =>
      cases b2 : toPs ds with
      | none => rw [b1, b2] at h1; cases h1
      | some qs' => rw [b1, b2] at h1; cases h1; simp [PyData.eqvAll]
theorem form {d : D} {p : PyData} (h : toP d = some p) : (d = .non ∧ p = .none) ∨ (∃ b, d = .bl b ∧ p = .bool b) ∨ (∃ i, d = .int i ∧ p = .int i) ∨ (∃ s, d = .str s ∧ p = .str s) ∨
    (∃ ds ps, d = .tup ds ∧ p = .tuple ps ∧ toPs ds = some ps) ∨ (∃ ds ps, d = .lst ds ∧ p = .list ps ∧ toPs ds = some ps) := by
  cases d with
  | non => rw [toP] at h; cases h; exact .inl ⟨rfl, rfl⟩
  | bl b => rw [toP] at h; cases h; exact .inr (.inl ⟨b, rfl, rfl⟩)
  | int i => rw [toP] at h; cases h; exact .inr (.inr (.inl ⟨i, rfl, rfl⟩))
  | str s => rw [toP] at h; cases h; exact .inr (.inr (.inr (.inl ⟨s, rfl, rfl⟩)))
  | tup ds =>
    rw [toP] at h
    cases e : toPs ds with
    | none => rw [e] at h; cases h
    | some ps => rw [e] at h; cases h; exact .inr (.inr (.inr (.inr (.inl ⟨ds, ps, rfl, rfl, e⟩))))
  | lst ds =>
    rw [toP] at h
    cases e : toPs ds with
    | none => rw [e] at h; cases h
    | some ps => rw [e] at h; cases h; exact .inr (.inr (.inr (.inr (.inr ⟨ds, ps, rfl, rfl, e⟩))))
  | dct _ => rw [toP] at h; cases h
  | obj _ _ => rw [toP] at h; cases h
  | odc _ => rw [toP] at h; cases h
  | scr _ => rw [toP] at h; cases h
theorem eqv_iff : ∀ (n : Nat) (d e : D) (p q : PyData), okD n d = true → okD n e = true → toP d = some p → toP e = some q → (PyData.eqv p q = true ↔ d = e) := by
  intro n
  induction n with
  | zero =>
    intro d e p q g1 g2 h1 h2
    rcases form h1 with ⟨rfl, rfl⟩ | ⟨b, rfl, rfl⟩ | ⟨i, rfl, rfl⟩ | ⟨s, rfl, rfl⟩ | ⟨ds, ps, rfl, rfl, a⟩ | ⟨ds, ps, rfl, rfl, a⟩
    all_goals first | (cases g1; done) | skip
    all_goals rcases form h2 with ⟨rfl, rfl⟩ | ⟨b, rfl, rfl⟩ | ⟨j, rfl, rfl⟩ | ⟨s2, rfl, rfl⟩ | ⟨es, qs, rfl, rfl, a2⟩ | ⟨es, qs, rfl, rfl, a2⟩
    all_goals first | (cases g2; done) | skip
    all_goals simp [PyData.eqv]
  | succ n ih =>
    intro d e p q g1 g2 h1 h2
    have go := eqv_list ih
    rcases form h1 with ⟨rfl, rfl⟩ | ⟨b, rfl, rfl⟩ | ⟨i, rfl, rfl⟩ | ⟨s, rfl, rfl⟩ | ⟨ds, ps, rfl, rfl, a⟩ | ⟨ds, ps, rfl, rfl, a⟩
    all_goals first | (cases g1; done) | skip
    all_goals rcases form h2 with ⟨rfl, rfl⟩ | ⟨b, rfl, rfl⟩ | ⟨j, rfl, rfl⟩ | ⟨s2, rfl, rfl⟩ | ⟨es, qs, rfl, rfl, a2⟩ | ⟨es, qs, rfl, rfl, a2⟩
    all_goals first | (cases g2; done) | skip
    all_goals first | (rw [PyData.eqv, go _ _ _ _ g1 g2 a a2]; simp; done) | (simp [PyData.eqv]; done)
/-- == of such data is sameness -/
theorem eqvD_iff {d e : D} (h1 : okD 64 d = true) (h2 : okD 64 e = true) : ∃ b, eqvD d e = .ok b ∧ (b = true ↔ d = e) := by
  obtain ⟨p, a1, a2, a3⟩ := okD_P 64 d h1
  obtain ⟨q, b1, b2, b3⟩ := okD_P 64 e h2
  refine ⟨PyData.eqv p q, ?_, eqv_iff 64 d e p q h1 h2 a1 b1⟩
  unfold eqvD
  rw [a1, b1]
  exact if_pos (by simp [SeqAt.shaped, a2, a3, b2, b3])
end DD
namespace K
open PySem DD
abbrev i_is_whole : Nat := 0
abbrev i_is_from : Nat := 1
abbrev i_is_day : Nat := 2
abbrev i_need_day : Nat := 3
abbrev i_fault_of : Nat := 4
abbrev i_faults_of : Nat := 5
abbrev i_could_witness : Nat := 6
abbrev i__law_pen : Nat := 7
abbrev i__law_cell_at : Nat := 8
abbrev i__law_draw : Nat := 9
abbrev i__law_folk : Nat := 10
abbrev i__law_mixed : Nat := 11
abbrev i__law_day : Nat := 12
abbrev i__law_few : Nat := 13
abbrev i__law_deed : Nat := 14
abbrev i__law_act : Nat := 15
abbrev i__law_book : Nat := 16
abbrev i__law_edgy : Nat := 17
abbrev i__law_fault : Nat := 18
abbrev i__law_thing : Nat := 19
abbrev i__law_is_refused : Nat := 20
abbrev i_law : Nat := 21
def b_is_whole : Ss := (.cons (.ret (.and (.cons (.isi .int (.var 0)) (.cons (.not (.isi .bool (.var 0))) .nil))))
    .nil)
def b_is_from : Ss := (.cons (.ret (.and (.cons (.call 0 (.cons (.var 0) .nil)) (.cons (.chn .le .le (.var 1) (.var 0) (.var 2)) .nil))))
    .nil)
def b_is_day : Ss := (.cons (.ret (.call 1 (.cons (.var 0) (.cons (.int 0) (.cons (.glb 0) .nil)))))
    .nil)
def b_need_day : Ss := (.cons (.iff (.not (.call 2 (.cons (.var 0) .nil))) (.cons (.rai 0)
    .nil) .nil)
    .nil)
def b_fault_of : Ss := (.cons (.unp [3, 4] (.var 0))
    (.cons (.iff (.cmp .gt (.var 3) (.var 1)) (.cons (.ret (.str "unborn"))
    .nil) .nil)
    (.cons (.iff (.and (.cons (.cmp .isnot (.var 4) .non) (.cons (.cmp .le (.var 4) (.var 1)) .nil))) (.cons (.ret (.str "dead"))
    .nil) .nil)
    (.cons (.iff (.cmp .lt (.bin .sub (.var 1) (.var 3)) (.var 2)) (.cons (.ret (.str "young"))
    .nil) .nil)
    (.cons (.ret .non)
    .nil)))))
def b_faults_of : Ss := (.cons (.unp [3, 4, 5] (.var 0))
    (.cons (.set 1 (.lst .nil))
    (.cons (.loop .seq (.one 2) (.cons (.var 5) .nil) (.cons (.iff (.cmp .eq (.idx (.var 2) (.int 4)) (.str "deed")) (.cons (.set 6 (.comp .seq (.cons (.idx (.var 2) (.int 8)) .nil) (.one 7) .nil (.tup (.cons (.idx (.var 2) (.int 0)) (.cons (.var 7) (.cons (.call 4 (.cons (.idx (.var 3) (.var 7)) (.cons (.idx (.var 2) (.int 1)) (.cons (.var 4) .nil)))) .nil)))) [7]))
    (.cons (.exp (.mut .extend 1 (.cons (.comp .seq (.cons (.var 6) .nil) (.one 8) (.cons (.cmp .isnot (.idx (.var 8) (.int 2)) .non) .nil) (.var 8) [8]) .nil)))
    .nil)) .nil)
    .nil))
    (.cons (.ret (.bif .sortA (.cons (.var 1) .nil)))
    .nil))))
def b_could_witness : Ss := (.cons (.exp (.call 3 (.cons (.var 1) .nil)))
    (.cons (.ret (.comp .enu (.cons (.idx (.var 0) (.int 0)) .nil) (.tup [2, 3]) (.cons (.cmp .iss (.call 4 (.cons (.var 3) (.cons (.var 1) (.cons (.idx (.var 0) (.int 1)) .nil)))) .non) .nil) (.var 2) [2, 3]))
    .nil))
def b__law_pen : Ss := (.cons (.ret (.lst (.cons (.var 0) (.cons (.bif .intO (.cons (.cmp .ge (.var 0) (.bin .pow (.int 10) (.int 18))) .nil)) (.cons (.int 0) (.cons (.bin .mod (.var 0) (.int 1000000007)) .nil))))))
    .nil)
def b__law_cell_at : Ss := (.cons (.iff (.cmp .lt (.var 1) (.bif .len (.cons (.var 0) .nil))) (.cons (.ret (.idx (.var 0) (.var 1)))
    .nil) .nil)
    (.cons (.ret (.int 0))
    .nil))
def b__law_draw : Ss := (.cons (.iff (.and (.cons (.cmp .eq (.idx (.var 0) (.int 1)) (.int 1)) (.cons (.cmp .gt (.idx (.var 0) (.int 0)) (.int 0)) .nil))) (.cons (.set 3 (.bin .mod (.idx (.var 0) (.int 0)) (.var 1)))
    (.cons (.sti 0 (.int 0) (.bin .fdiv (.idx (.var 0) (.int 0)) (.var 1)))
    (.cons (.ret (.var 3))
    .nil))) .nil)
    (.cons (.sti 0 (.int 2) (.bin .add (.idx (.var 0) (.int 2)) (.int 1)))
    (.cons (.set 2 (.bin .mod (.bin .mul (.bin .add (.idx (.var 0) (.int 3)) (.int 17)) (.bin .add (.int 69621) (.bin .mul (.int 2) (.idx (.var 0) (.int 2))))) (.int 2147483647)))
    (.cons (.set 2 (.bin .mod (.bin .add (.bin .add (.bin .mul (.var 2) (.var 2)) (.bin .mul (.int 40503) (.idx (.var 0) (.int 2)))) (.int 5)) (.int 2147483629)))
    (.cons (.ret (.bin .mod (.bin .fdiv (.bin .mod (.bin .mul (.var 2) (.int 48271)) (.int 2147483647)) (.int 32)) (.var 1)))
    .nil)))))
def b__law_folk : Ss := (.cons (.set 2 (.lst .nil))
    (.cons (.loop .rng (.one 3) (.cons (.bin .add (.var 1) (.call 9 (.cons (.io 0) (.cons (.bin .sub (.int 7) (.var 1)) .nil)))) .nil) (.cons (.set 4 (.idx (.lst (.cons (.bin .sub (.int 0) (.call 9 (.cons (.io 0) (.cons (.int 40) .nil)))) (.cons (.call 9 (.cons (.io 0) (.cons (.int 9) .nil))) (.cons (.bin .sub (.call 9 (.cons (.io 0) (.cons (.int 9000) .nil))) (.int 4000)) .nil)))) (.bin .fdiv (.call 9 (.cons (.io 0) (.cons (.int 5) .nil))) (.int 2))))
    (.cons (.set 5 (.bif .min2 (.cons (.int 9999) (.cons (.bin .add (.bin .add (.var 4) (.int 1)) (.idx (.lst (.cons (.call 9 (.cons (.io 0) (.cons (.int 60) .nil))) (.cons (.call 9 (.cons (.io 0) (.cons (.int 9999) .nil))) .nil))) (.call 9 (.cons (.io 0) (.cons (.int 2) .nil))))) .nil))))
    (.cons (.exp (.mut .append 2 (.cons (.tup (.cons (.var 4) (.cons (.idx (.lst (.cons .non (.cons (.var 5) .nil))) (.call 9 (.cons (.io 0) (.cons (.int 2) .nil)))) .nil))) .nil)))
    .nil))))
    (.cons (.ret (.bif .tupO (.cons (.var 2) .nil)))
    .nil)))
def b__law_mixed : Ss := (.cons (.set 2 (.bif .lstO (.cons (.var 1) .nil)))
    (.cons (.ret (.comp .rng (.cons (.bif .len (.cons (.var 2) .nil)) .nil) (.one 3) .nil (.mut .pop1 2 (.cons (.call 9 (.cons (.io 0) (.cons (.bif .len (.cons (.var 2) .nil)) .nil))) .nil)) [3]))
    .nil))
def b__law_day : Ss := (.cons (.ret (.idx (.lst (.cons (.call 9 (.cons (.io 0) (.cons (.int 7) .nil))) (.cons (.call 9 (.cons (.io 0) (.cons (.int 40) .nil))) (.cons (.call 9 (.cons (.io 0) (.cons (.int 10000) .nil))) .nil)))) (.bin .fdiv (.call 9 (.cons (.io 0) (.cons (.int 6) .nil))) (.int 2))))
    .nil)
def b__law_few : Ss := (.cons (.set 3 (.shr (.call 11 (.cons (.io 0) (.cons (.var 1) .nil)))))
    (.cons (.ret (.bif .tupO (.cons (.bif .sortI (.cons (.slc (.var 3) .nil (.cons (.call 9 (.cons (.io 0) (.cons (.bin .add (.var 2) (.int 1)) .nil))) .nil)) .nil)) .nil)))
    .nil))
def b__law_deed : Ss := (.cons (.set 4 (.shr (.call 11 (.cons (.io 0) (.cons (.lrng (.cons (.bif .len (.cons (.var 2) .nil)) .nil)) .nil)))))
    (.cons (.par [6, 7] (.cons (.idx (.var 4) (.int 0)) (.cons (.idx (.var 4) (.int 1)) .nil)))
    (.cons (.set 5 (.tup (.cons (.var 1) (.cons (.call 12 (.cons (.io 0) .nil)) (.cons (.call 12 (.cons (.io 0) .nil)) (.cons (.call 9 (.cons (.io 0) (.cons (.int 4) .nil))) (.cons (.str "deed") (.cons (.var 6) (.cons (.var 7) .nil)))))))))
    (.cons (.ret (.bin .add (.var 5) (.tup (.cons (.call 13 (.cons (.io 0) (.cons (.var 3) (.cons (.int 2) .nil)))) (.cons (.call 13 (.cons (.io 0) (.cons (.slc (.var 4) (.cons (.int 2) .nil) .nil) (.cons (.int 3) .nil)))) .nil)))))
    .nil))))
def b__law_act : Ss := (.cons (.set 4 (.idx (.lst (.cons (.str "paid") (.cons (.str "void") (.cons (.str "undone") .nil)))) (.call 9 (.cons (.io 0) (.cons (.int 3) .nil)))))
    (.cons (.set 5 (.var 2))
    (.cons (.iff (.cmp .eq (.var 4) (.str "undone")) (.cons (.set 5 (.var 3))
    .nil) .nil)
    (.cons (.iff (.cmp .eq (.var 5) (.lst .nil)) (.cons (.par [4, 5] (.cons (.str "paid") (.cons (.var 2) .nil)))
    .nil) .nil)
    (.cons (.ret (.tup (.cons (.var 1) (.cons (.call 12 (.cons (.io 0) .nil)) (.cons (.call 12 (.cons (.io 0) .nil)) (.cons (.call 9 (.cons (.io 0) (.cons (.int 4) .nil))) (.cons (.var 4) (.cons (.idv 5 (.call 9 (.cons (.io 0) (.cons (.bif .len (.cons (.var 5) .nil)) .nil)))) .nil))))))))
    .nil)))))
def b__law_book : Ss := (.cons (.par [5, 6] (.cons (.call 10 (.cons (.io 0) (.cons (.int 2) .nil))) (.cons (.bin .add (.int 1) (.call 9 (.cons (.io 0) (.cons (.int 2) .nil)))) .nil)))
    (.cons (.par [7, 8, 9] (.cons (.lst .nil) (.cons (.lst .nil) (.cons (.lst .nil) .nil))))
    (.cons (.set 2 (.bin .mul (.call 9 (.cons (.io 0) (.cons (.int 15) .nil))) (.bif .intO (.cons (.cmp .eq (.var 6) (.int 1)) .nil))))
    (.cons (.loop .rng (.one 3) (.cons (.call 9 (.cons (.io 0) (.cons (.bin .add (.var 1) (.int 1)) .nil))) .nil) (.cons (.set 10 (.bin .add (.bin .mul (.var 3) (.var 6)) (.var 2)))
    (.cons (.iff (.or (.cons (.cmp .eq (.var 7) (.lst .nil)) (.cons (.cmp .lt (.call 9 (.cons (.io 0) (.cons (.int 5) .nil))) (.int 2)) .nil))) (.cons (.exp (.mut .append 9 (.cons (.call 14 (.cons (.io 0) (.cons (.var 10) (.cons (.var 5) (.cons (.var 7) .nil))))) .nil)))
    (.cons (.exp (.mut .append 7 (.cons (.var 10) .nil)))
    .nil)) (.cons (.exp (.mut .append 9 (.cons (.call 15 (.cons (.io 0) (.cons (.var 10) (.cons (.var 7) (.cons (.var 8) .nil))))) .nil)))
    (.cons (.exp (.mut .append 8 (.cons (.var 10) .nil)))
    .nil)))
    .nil)))
    (.cons (.set 4 (.idx (.lst (.cons (.int 0) (.cons (.call 9 (.cons (.io 0) (.cons (.int 30) .nil))) (.cons (.call 9 (.cons (.io 0) (.cons (.int 10000) .nil))) .nil)))) (.call 9 (.cons (.io 0) (.cons (.int 3) .nil)))))
    (.cons (.ret (.tup (.cons (.var 5) (.cons (.var 4) (.cons (.bif .tupO (.cons (.call 11 (.cons (.io 0) (.cons (.var 9) .nil))) .nil)) .nil)))))
    .nil))))))
def b__law_edgy : Ss := (.cons (.unp [4, 5, 6] (.call 16 (.cons (.io 0) (.cons (.int 12) .nil))))
    (.cons (.set 1 (.bin .add (.comp .seq (.cons (.var 6) .nil) (.one 10) (.cons (.cmp .eq (.idx (.var 10) (.int 4)) (.str "deed")) .nil) (.idx (.var 10) (.int 1)) [10]) (.lst (.cons (.int 5) .nil))))
    (.cons (.set 2 (.lst .nil))
    (.cons (.loop .seq (.one 3) (.cons (.var 4) .nil) (.cons (.set 7 (.bin .sub (.bin .add (.idv 1 (.call 9 (.cons (.io 0) (.cons (.bif .len (.cons (.var 1) .nil)) .nil)))) (.call 9 (.cons (.io 0) (.cons (.int 3) .nil)))) (.int 1)))
    (.cons (.set 8 (.lst (.cons (.var 3) (.cons (.tup (.cons (.var 7) (.cons .non .nil))) (.cons (.tup (.cons (.bin .sub (.var 7) (.var 5)) (.cons .non .nil))) (.cons (.tup (.cons (.bin .sub (.var 7) (.int 60)) (.cons (.var 7) .nil))) .nil))))))
    (.cons (.set 9 (.idv 8 (.call 9 (.cons (.io 0) (.cons (.int 4) .nil)))))
    (.cons (.iff (.or (.cons (.cmp .lt (.idx (.var 9) (.int 0)) (.neg (.int 9999))) (.cons (.cmp .gt (.idx (.var 9) (.int 0)) (.int 9999)) (.cons (.and (.cons (.cmp .isnot (.idx (.var 9) (.int 1)) .non) (.cons (.not (.chn .lt .lt (.idx (.var 9) (.int 0)) (.idx (.var 9) (.int 1)) (.int 10000))) .nil))) .nil)))) (.cons (.set 9 (.var 3))
    .nil) .nil)
    (.cons (.exp (.mut .append 2 (.cons (.var 9) .nil)))
    .nil))))))
    (.cons (.ret (.tup (.cons (.bif .tupO (.cons (.var 2) .nil)) (.cons (.var 5) (.cons (.var 6) .nil)))))
    .nil)))))
def b__law_fault : Ss := (.cons (.unp [3, 4] (.var 0))
    (.cons (.iff (.cmp .lt (.var 1) (.var 3)) (.cons (.ret (.str "unborn"))
    .nil) .nil)
    (.cons (.iff (.and (.cons (.cmp .isnot (.var 4) .non) (.cons (.cmp .ge (.var 1) (.var 4)) .nil))) (.cons (.ret (.str "dead"))
    .nil) .nil)
    (.cons (.ret (.idx (.lst (.cons (.str "") (.cons (.str "young") .nil))) (.bif .intO (.cons (.cmp .lt (.var 1) (.bin .add (.var 3) (.var 2))) .nil))))
    .nil))))
def b__law_thing : Ss := (.cons (.set 2 (.call 9 (.cons (.io 0) (.cons (.int 12) .nil))))
    (.cons (.iff (.or (.cons (.cmp .lt (.var 2) (.int 8)) (.cons (.cmp .eq (.var 1) (.int 0)) .nil))) (.cons (.ret (.idx (.lst (.cons .non (.cons (.bl true) (.cons (.bl false) (.cons (.int 0) (.cons (.int 1) (.cons (.neg (.int 1)) (.cons (.int 9) (.cons (.bin .pow (.int 10) (.int 39)) (.cons (.str "") (.cons (.str "a") (.cons (.tup .nil) (.cons (.lst .nil) .nil))))))))))))) (.call 9 (.cons (.io 0) (.cons (.int 12) .nil)))))
    .nil) .nil)
    (.cons (.set 3 (.comp .rng (.cons (.call 9 (.cons (.io 0) (.cons (.int 4) .nil))) .nil) (.one 4) .nil (.call 19 (.cons (.io 0) (.cons (.bin .sub (.var 1) (.int 1)) .nil))) [4]))
    (.cons (.iff (.cmp .eq (.var 2) (.int 8)) (.cons (.ret (.mov 3))
    .nil) .nil)
    (.cons (.iff (.cmp .eq (.var 2) (.int 9)) (.cons (.ret (.dct (.cons (.str "a") (.cons (.frz 3) .nil))))
    .nil) .nil)
    (.cons (.ret (.bif .tupO (.cons (.var 3) .nil)))
    .nil))))))
def b__law_is_refused : Ss := (.cons (.trye (.call 6 (.cons (.var 0) (.cons (.var 1) .nil))) [(0, (.bl true))])
    (.cons (.ret (.bl false))
    .nil))
def b_law : Ss := (.cons (.loop .rng (.one 1) (.cons (.bif .max2 (.cons (.int 1) (.cons (.bif .min2 (.cons (.bif .len (.cons (.var 0) .nil)) (.cons (.int 3) .nil))) .nil))) .nil) (.cons (.set 2 (.call 7 (.cons (.call 8 (.cons (.var 0) (.cons (.var 1) .nil))) .nil)))
    (.cons (.set 3 (.call 17 (.cons (.io 2) .nil)))
    (.cons (.unp [9, 10, 11] (.var 3))
    (.cons (.set 4 (.lst .nil))
    (.cons (.loop .seq (.one 5) (.cons (.var 11) .nil) (.cons (.iff (.cmp .eq (.idx (.var 5) (.int 4)) (.str "deed")) (.cons (.set 15 (.comp .seq (.cons (.idx (.var 5) (.int 8)) .nil) (.one 16) .nil (.tup (.cons (.idx (.var 5) (.int 0)) (.cons (.var 16) (.cons (.call 18 (.cons (.idx (.var 9) (.var 16)) (.cons (.idx (.var 5) (.int 1)) (.cons (.var 10) .nil)))) .nil)))) [16]))
    (.cons (.set 4 (.bin .add (.var 4) (.comp .seq (.cons (.var 15) .nil) (.one 12) (.cons (.cmp .ne (.idx (.var 12) (.int 2)) (.str "")) .nil) (.var 12) [12])))
    .nil)) .nil)
    .nil))
    (.cons (.loop .rng (.one 6) (.cons (.int 2) .nil) (.cons (.set 12 (.call 5 (.cons (.var 3) .nil)))
    (.cons (.iff (.cmp .ne (.var 12) (.bif .sortA (.cons (.var 4) .nil))) (.cons (.ret (.bl false))
    .nil) .nil)
    (.cons (.fz 12 (.exp (.mut .append 12 (.cons (.tup .nil) .nil))))
    .nil))))
    (.cons (.loop .seq (.one 7) (.cons (.bin .add (.comp .seq (.cons (.slc (.var 11) .nil (.cons (.int 6) .nil)) .nil) (.one 5) .nil (.idx (.var 5) (.int 1)) [5]) (.lst (.cons (.int 0) (.cons (.int 9999) (.cons (.call 12 (.cons (.io 2) .nil)) (.cons (.call 12 (.cons (.io 2) .nil)) .nil)))))) .nil) (.cons (.set 13 (.comp .enu (.cons (.var 9) .nil) (.tup [16, 12]) (.cons (.cmp .eq (.call 18 (.cons (.var 12) (.cons (.var 7) (.cons (.var 10) .nil)))) (.str "")) .nil) (.var 16) [16, 12]))
    (.cons (.iff (.cmp .ne (.call 6 (.cons (.var 3) (.cons (.var 7) .nil))) (.var 13)) (.cons (.ret (.bl false))
    .nil) .nil)
    .nil)))
    (.cons (.loop .seq (.one 8) (.cons (.tup (.cons (.int 10000) (.cons (.neg (.int 1)) (.cons (.bl true) (.cons .non (.cons (.str "0") (.cons (.tup (.cons (.int 0) .nil)) (.cons (.bin .pow (.int 10) (.int 39)) (.cons (.call 19 (.cons (.io 2) (.cons (.int 2) .nil))) .nil))))))))) .nil) (.cons (.set 14 (.and (.cons (.isi .int (.var 8)) (.cons (.not (.isi .bool (.var 8))) (.cons (.chn .le .lt (.int 0) (.var 8) (.int 10000)) .nil)))))
    (.cons (.iff (.cmp .eq (.call 20 (.cons (.var 3) (.cons (.var 8) .nil))) (.var 14)) (.cons (.ret (.bl false))
    .nil) .nil)
    .nil)))
    .nil)))))))))
    (.cons (.ret (.bl true))
    .nil))
def gl : List (Str × D) := [("LAST_DAY", (.int 9999))]
def fnT : List Fn := [⟨1, 1, b_is_whole⟩, ⟨3, 3, b_is_from⟩, ⟨1, 1, b_is_day⟩, ⟨1, 1, b_need_day⟩, ⟨3, 5, b_fault_of⟩, ⟨1, 9, b_faults_of⟩, ⟨2, 4, b_could_witness⟩, ⟨1, 1, b__law_pen⟩, ⟨2, 2, b__law_cell_at⟩, ⟨2, 4, b__law_draw⟩, ⟨2, 6, b__law_folk⟩, ⟨2, 4, b__law_mixed⟩, ⟨1, 1, b__law_day⟩, ⟨3, 4, b__law_few⟩, ⟨4, 8, b__law_deed⟩, ⟨4, 6, b__law_act⟩, ⟨2, 11, b__law_book⟩, ⟨1, 11, b__law_edgy⟩, ⟨3, 5, b__law_fault⟩, ⟨2, 5, b__law_thing⟩, ⟨2, 2, b__law_is_refused⟩, ⟨1, 17, b_law⟩]
def viL : List (Option Vr) := [none, none, none, none, none, none, none, none, none, none, none, none, none, none, none, none, none, none, none, none, none, none]
def viT (f : Nat) : Option Vr := (viL[f]?).join
def TT (k : Nat) : Tb := callT (gOfL gl) (fun f => fnT[f]?) viT k
theorem C_is_whole {n : Nat} {as : List (Fl × D)} : (TT (n + 1)).C i_is_whole as = runF (TT n) ⟨1, 1, b_is_whole⟩ as := rfl
theorem C_is_from {n : Nat} {as : List (Fl × D)} : (TT (n + 1)).C i_is_from as = runF (TT n) ⟨3, 3, b_is_from⟩ as := rfl
theorem C_is_day {n : Nat} {as : List (Fl × D)} : (TT (n + 1)).C i_is_day as = runF (TT n) ⟨1, 1, b_is_day⟩ as := rfl
theorem C_need_day {n : Nat} {as : List (Fl × D)} : (TT (n + 1)).C i_need_day as = runF (TT n) ⟨1, 1, b_need_day⟩ as := rfl
theorem C_fault_of {n : Nat} {as : List (Fl × D)} : (TT (n + 1)).C i_fault_of as = runF (TT n) ⟨3, 5, b_fault_of⟩ as := rfl
theorem C_faults_of {n : Nat} {as : List (Fl × D)} : (TT (n + 1)).C i_faults_of as = runF (TT n) ⟨1, 9, b_faults_of⟩ as := rfl
theorem C_could_witness {n : Nat} {as : List (Fl × D)} : (TT (n + 1)).C i_could_witness as = runF (TT n) ⟨2, 4, b_could_witness⟩ as := rfl
theorem C__law_pen {n : Nat} {as : List (Fl × D)} : (TT (n + 1)).C i__law_pen as = runF (TT n) ⟨1, 1, b__law_pen⟩ as := rfl
theorem C__law_cell_at {n : Nat} {as : List (Fl × D)} : (TT (n + 1)).C i__law_cell_at as = runF (TT n) ⟨2, 2, b__law_cell_at⟩ as := rfl
theorem C__law_draw {n : Nat} {as : List (Fl × D)} : (TT (n + 1)).C i__law_draw as = runF (TT n) ⟨2, 4, b__law_draw⟩ as := rfl
theorem C__law_folk {n : Nat} {as : List (Fl × D)} : (TT (n + 1)).C i__law_folk as = runF (TT n) ⟨2, 6, b__law_folk⟩ as := rfl
theorem C__law_mixed {n : Nat} {as : List (Fl × D)} : (TT (n + 1)).C i__law_mixed as = runF (TT n) ⟨2, 4, b__law_mixed⟩ as := rfl
theorem C__law_day {n : Nat} {as : List (Fl × D)} : (TT (n + 1)).C i__law_day as = runF (TT n) ⟨1, 1, b__law_day⟩ as := rfl
theorem C__law_few {n : Nat} {as : List (Fl × D)} : (TT (n + 1)).C i__law_few as = runF (TT n) ⟨3, 4, b__law_few⟩ as := rfl
theorem C__law_deed {n : Nat} {as : List (Fl × D)} : (TT (n + 1)).C i__law_deed as = runF (TT n) ⟨4, 8, b__law_deed⟩ as := rfl
theorem C__law_act {n : Nat} {as : List (Fl × D)} : (TT (n + 1)).C i__law_act as = runF (TT n) ⟨4, 6, b__law_act⟩ as := rfl
theorem C__law_book {n : Nat} {as : List (Fl × D)} : (TT (n + 1)).C i__law_book as = runF (TT n) ⟨2, 11, b__law_book⟩ as := rfl
theorem C__law_edgy {n : Nat} {as : List (Fl × D)} : (TT (n + 1)).C i__law_edgy as = runF (TT n) ⟨1, 11, b__law_edgy⟩ as := rfl
theorem C__law_fault {n : Nat} {as : List (Fl × D)} : (TT (n + 1)).C i__law_fault as = runF (TT n) ⟨3, 5, b__law_fault⟩ as := rfl
theorem C__law_thing {n : Nat} {as : List (Fl × D)} : (TT (n + 1)).C i__law_thing as = runF (TT n) ⟨2, 5, b__law_thing⟩ as := rfl
theorem C__law_is_refused {n : Nat} {as : List (Fl × D)} : (TT (n + 1)).C i__law_is_refused as = runF (TT n) ⟨2, 2, b__law_is_refused⟩ as := rfl
theorem C_law {n : Nat} {as : List (Fl × D)} : (TT (n + 1)).C i_law as = runF (TT n) ⟨1, 17, b_law⟩ as := rfl
theorem G_LAST_DAY {n : Nat} : (TT n).G 0 = (.int 9999) := by cases n <;> rfl
end K
namespace K
open PySem DD
theorem succ_of {n k : Nat} (h : k + 1 ≤ n) : ∃ m, n = m + 1 ∧ k ≤ m := ⟨n - 1, by omega, by omega⟩
/-- a pen: four numbers, the last one small -/
class PenOk (p : D) : Prop where
  ex : ∃ a b c e : Int, p = .lst [.int a, .int b, .int c, .int e] ∧ 0 ≤ e ∧ e < 1000000007
@[simp] theorem isObj_pen {p : D} [h : PenOk p] : isObj p = false := by
  obtain ⟨a, b, c, e, rfl, _⟩ := h.ex
  rfl
theorem sp_pen {n : Nat} {c : Int} (hn : 1 ≤ n) : ((TT n).C i__law_pen [(.dat, .int c)]).post fun r => ∃ p, PenOk p ∧ r = ((.own, p), [.non]) := by
  obtain ⟨m, rfl, hm⟩ := succ_of hn
  have e : binD .pow (.int 10) (.int 18) = .ok (.dat, .int 1000000000000000000) := rfl
  rw [C__law_pen]
  simp -implicitDefEqProofs [runF, b__law_pen, startD, e, mod_ii]
  exact ⟨⟨_, _, _, _, rfl, by omega, by omega⟩⟩
theorem sp_cell_at {n : Nat} {ns : List Int} {k : Nat} (hn : 1 ≤ n) : ((TT n).C i__law_cell_at [(.dat, .scr ns), (.dat, .int k)]).post fun r => ∃ c : Int, r = ((.dat, .int c), [.non, .non]) := by
  obtain ⟨m, rfl, hm⟩ := succ_of hn
  rw [C__law_cell_at]
  by_cases h : k < ns.length
  · have e : L2.atI ns (k : Int) = some ns[k] := by rw [atI_nat, List.getElem?_eq_getElem h]
    simp -implicitDefEqProofs [runF, b__law_cell_at, startD, h, e]
  · simp -implicitDefEqProofs [runF, b__law_cell_at, startD, h]
theorem mul2 {j : Int} : binD .mul (.int 2) (.int j) = .ok (.dat, .int (2 * j)) := mul_ii (by rfl)
theorem mul4 {j : Int} : binD .mul (.int 40503) (.int j) = .ok (.dat, .int (40503 * j)) := mul_ii (by rfl)
theorem mulR {i : Int} : binD .mul (.int i) (.int 48271) = .ok (.dat, .int (i * 48271)) := mul_ii (by rw [show small 48271 = true by rfl, Bool.or_true])
theorem mulM {x j : Int} : binD .mul (.int (x % 2147483647)) (.int j) = .ok (.dat, .int (x % 2147483647 * j)) := mul_ii (by
  have : small (x % 2147483647) = true := by
    unfold small
    simp
    omega
  rw [this, Bool.true_or])
theorem sp_draw {n : Nat} {p : D} {k : Nat} (hp : PenOk p) (h1 : 1 ≤ k) (h2 : k < 1073741824) (hn : 1 ≤ n) : ((TT n).C i__law_draw [(.ino, p), (.dat, .int k)]).post fun r => ∃ (x : Nat) (p' : D), x < k ∧ PenOk p' ∧ r = ((.dat, .int x), [p', .non]) := by
  obtain ⟨m, rfl, hm⟩ := succ_of hn
  obtain ⟨⟨a, b, c, e, rfl, he1, he2⟩⟩ := hp
  have md {x : Int} : binD .mod (.int x) (.int (k : Int)) = .ok (.dat, .int (x % k)) := mod_ii (by omega)
  have dv {x : Int} : binD .fdiv (.int x) (.int (k : Int)) = .ok (.dat, .int (x / k)) := fdiv_ii (by omega) (by omega)
  have mu {j : Int} : binD .mul (.int (e + 17)) (.int j) = .ok (.dat, .int ((e + 17) * j)) := mul_ii (by
    have : small (e + 17) = true := by
      unfold small
      simp
      omega
    rw [this, Bool.true_or])
  have nat (x : Int) : ∃ y : Nat, y < k ∧ x % (k : Int) = (y : Int) := ⟨(x % k).toNat, by have := Int.emod_lt_of_pos x (show (0 : Int) < k by omega); have := Int.emod_nonneg x (show (k : Int) ≠ 0 by omega); omega, by
    have := Int.emod_nonneg x (show (k : Int) ≠ 0 by omega); omega⟩
  rw [C__law_draw]
  by_cases hb : b = 1 ∧ 0 < a
  · obtain ⟨hb, ha⟩ := hb
    obtain ⟨y, hy, ey⟩ := nat a
    simp -implicitDefEqProofs [runF, b__law_draw, startD, hb, ha, md, dv, stiD, L2.ixN, ey]
    exact ⟨hy, ⟨_, _, _, _, rfl, he1, he2⟩⟩
  · have hb2 : (b = 1 → ¬ 0 < a) := fun z w => hb ⟨z, w⟩
    by_cases hb1 : b = 1
    · have ha := hb2 hb1
      simp -implicitDefEqProofs [runF, b__law_draw, startD, hb1, ha, md, dv, stiD, L2.ixN, mod_ii, fdiv_ii, mul2, mul4, mulR, mulM, mu]
      obtain ⟨y, hy, ey⟩ := nat _
      exact ⟨y, hy, ⟨⟨_, _, _, _, rfl, he1, he2⟩⟩, ey⟩
    · simp -implicitDefEqProofs [runF, b__law_draw, startD, hb1, md, dv, stiD, L2.ixN, mod_ii, fdiv_ii, mul2, mul4, mulR, mulM, mu]
      obtain ⟨y, hy, ey⟩ := nat _
      exact ⟨y, hy, ⟨⟨_, _, _, _, rfl, he1, he2⟩⟩, ey⟩
theorem p_draw (k : Nat) {i : Int} (hi : i = (k : Int)) {n : Nat} {p : D} {B : Type} {f : (Fl × D) × List D → R B} {Po : B → Prop} (hp : PenOk p) (h1 : 1 ≤ k) (h2 : k < 1073741824) (hn : 1 ≤ n)
    (hk : ∀ (x : Nat) (p' : D), x < k → PenOk p' → (f ((.dat, .int x), [p', .non])).post Po) : ((TT n).C i__law_draw [(.ino, p), (.dat, .int i)] >>= f).post Po := by
  rw [hi]
  refine post_bind (sp_draw hp h1 h2 hn) ?_
  rintro _ ⟨x, p', hx, hp', rfl⟩
  exact hk x p' hx hp'
end K
namespace K
open PySem DD
/-- a number, not below none -/
def nI (x : Nat) : D := .int (x : Int)
theorem nI_rng (s : Nat) : (List.range s).map (fun i : Nat => D.int (i : Int)) = (List.range s).map nI := rfl
theorem g_range {s i a : Nat} (hi : (List.range s)[i]? = some a) : i < s ∧ i = a := by
  obtain ⟨q1, q2⟩ := List.getElem?_eq_some_iff.mp hi
  rw [List.getElem_range] at q2
  rw [List.length_range] at q1
  exact ⟨q1, q2⟩
theorem g_seqIx {n x : Nat} (h : x < n) : seqIndex? (x : Int) n = some x := by
  unfold seqIndex?
  simp [h]
  try omega
theorem g_pop {l : List D} {x : Nat} (h : x < l.length) (h2 : l.length < 1000) : mutD .pop1 (.lst l) [.int (x : Int)] = .ok (l[x], .lst (l.eraseIdx x)) := by
  have e : inR (x : Int) = true := by
    unfold inR
    simp
    omega
  unfold mutD
  dsimp only
  rw [e, if_pos rfl, g_seqIx h]
  simp only [ofO_some, R.bind_ok]
  rw [List.getElem?_eq_getElem h]
  rfl
theorem g_er {α β : Type} {f : α → β} : ∀ (l : List α) (i : Nat), (l.map f).eraseIdx i = (l.eraseIdx i).map f
  | [], i => by simp
  | a :: l, 0 => rfl
  | a :: l, i + 1 => by rw [List.map_cons, List.eraseIdx_cons_succ, List.eraseIdx_cons_succ, g_er l i]; rfl
theorem g_at {α : Type} {f : α → D} {l : List α} {i : Nat} (h : i < l.length) : L2.atI (l.map f) (i : Int) = some (f l[i]) := by
  rw [atI_nat, List.getElem?_map, List.getElem?_eq_getElem h]
  rfl
theorem g_perm {α : Type} {l : List α} {i : Nat} {x : α} (h : l[i]? = some x) : (x :: l.eraseIdx i).Perm l := by
  induction l generalizing i with
  | nil => cases h
  | cons a l ih =>
    cases i with
    | zero => cases h; exact .refl _
    | succ i =>
      rw [List.getElem?_cons_succ] at h
      rw [List.eraseIdx_cons_succ]
      exact (List.Perm.swap a x _).trans ((ih h).cons a)
theorem ok_nI {n x : Nat} : okD n (nI x) = true := by cases n <;> rfl
theorem nI_inj {l k : List Nat} : l.map nI = k.map nI ↔ l = k := ⟨fun h => by
  have := congrArg (List.map fun d => match d with | D.int i => i.toNat | _ => 0) h
  rw [List.map_map, List.map_map] at this
  have z : ∀ l : List Nat, l.map ((fun d => match d with | D.int i => i.toNat | _ => 0) ∘ nI) = l := fun l => by
    conv => rhs; rw [← List.map_id l]
    exact List.map_congr_left fun x _ => by simp [nI]
  rw [z, z] at this
  exact this, fun h => by rw [h]⟩
theorem ok_nIs {n : Nat} {l : List Nat} : okD (n + 1) (.lst (l.map nI)) = true := by
  show (l.map nI).all (okD n) = true
  rw [List.all_map, List.all_eq_true]
  exact fun x _ => ok_nI
theorem ok_nIt {n : Nat} {l : List Nat} : okD (n + 1) (.tup (l.map nI)) = true := by
  show (l.map nI).all (okD n) = true
  rw [List.all_map, List.all_eq_true]
  exact fun x _ => ok_nI
theorem g_nil {l : List Nat} : cmpD .eq (.lst (l.map nI)) (.lst []) = .ok l.isEmpty := by
  obtain ⟨b, h1, h2⟩ := eqvD_iff (ok_nIs (n := 63) (l := l)) (show okD 64 (.lst []) = true from rfl)
  show eqvD (.lst (l.map nI)) (.lst []) = _
  rw [h1]
  refine congrArg R.ok ?_
  rw [Bool.eq_iff_iff, h2, List.isEmpty_iff]
  exact ⟨fun e => by injection e with e; exact List.map_eq_nil_iff.mp e, fun e => by rw [e]; rfl⟩
theorem g_nnil {l : List Nat} : cmpD .ne (.lst (l.map nI)) (.lst []) = .ok (!l.isEmpty) := by
  show (cmpD .eq (.lst (l.map nI)) (.lst []) >>= fun b => R.ok (!b)) = _
  rw [g_nil]
  rfl
theorem g_in {x : Nat} {l : List Nat} : inD (.int (x : Int)) (l.map nI) = .ok (l.contains x) := by
  have := inD_ints (i := (x : Int)) (l := l.map fun (n : Nat) => (n : Int))
  rw [List.map_map] at this
  rw [show l.map nI = l.map (D.int ∘ fun (n : Nat) => (n : Int)) from rfl, this]
  refine congrArg R.ok ?_
  rw [Bool.eq_iff_iff]
  simp
theorem g_inT {x : Nat} {l : List Nat} : cmpD .isin (.int (x : Int)) (.tup (l.map nI)) = .ok (l.contains x) := g_in
theorem g_inL {x : Nat} {l : List Nat} : cmpD .isin (.int (x : Int)) (.lst (l.map nI)) = .ok (l.contains x) := g_in
theorem g_ninT {x : Nat} {l : List Nat} : cmpD .notin (.int (x : Int)) (.tup (l.map nI)) = .ok (!l.contains x) := by
  show (inD (.int (x : Int)) (l.map nI) >>= _) = _
  rw [g_in]
  rfl
theorem g_ninL {x : Nat} {l : List Nat} : cmpD .notin (.int (x : Int)) (.lst (l.map nI)) = .ok (!l.contains x) := by
  show (inD (.int (x : Int)) (l.map nI) >>= _) = _
  rw [g_in]
  rfl
/-- numbers, rising -/
def srtN (l : List Nat) : List Nat := l.mergeSort fun x y => decide (x ≤ y)
theorem srtN_perm (l : List Nat) : (srtN l).Perm l := List.mergeSort_perm l _
theorem srtN_le (l : List Nat) : (srtN l).Pairwise (· ≤ ·) := by
  have := List.pairwise_mergeSort (le := fun x y : Nat => decide (x ≤ y)) (fun a b c h1 h2 => by simp at h1 h2 ⊢; omega) (fun a b => by simp; omega) l
  exact this.imp fun h => by simpa using h
theorem srtN_lt {l : List Nat} (h : l.Nodup) : (srtN l).Pairwise (· < ·) := by
  have h2 : (srtN l).Nodup := (srtN_perm l).nodup_iff.mpr h
  exact (srtN_le l).imp₂ (fun a b h1 h2 => by omega) h2
theorem ints_nI (l : List Nat) : intsD (l.map nI) = some (l.map fun (x : Nat) => (x : Int)) := by
  have := ints_map (l.map fun (x : Nat) => (x : Int))
  rw [List.map_map] at this
  exact this
theorem sortZ_nI (l : List Nat) : (sortZ (l.map fun (x : Nat) => (x : Int))).map D.int = (srtN l).map nI := by
  unfold sortZ srtN
  rw [← List.map_mergeSort (r := fun x y : Nat => decide (x ≤ y)) (fun a _ b _ => by simp), List.map_map]
  rfl
theorem g_sort {l : List Nat} : bifD .sortI [.lst (l.map nI)] = .ok (.own, .lst ((srtN l).map nI)) := by
  show (ofO (intsD (l.map nI)) >>= fun ns => _) = _
  rw [ints_nI]
  show R.ok (Fl.own, D.lst ((sortZ _).map D.int)) = _
  rw [sortZ_nI]
theorem g_min2 {x n : Nat} : ∃ c : Nat, c ≤ n ∧ c ≤ x ∧ bifD .min2 [.int (n : Int), .int (x : Int)] = .ok (.dat, .int (c : Int)) := by
  rw [bf_min]
  by_cases h : (x : Int) < (n : Int)
  · rw [if_pos h]; exact ⟨x, by omega, Nat.le_refl _, rfl⟩
  · rw [if_neg h]; exact ⟨n, Nat.le_refl _, by omega, rfl⟩
/-- what is drawn out of a list one behind the other is the list, in another order -/
def mixI (ds : List D) (y1 : Fl × D) (acc : List D) (σ : Sg) : Prop := ∃ left q, (acc ++ left).Perm ds ∧ PenOk q ∧ σ = [some (.ino, q), some y1, some (.own, .lst left), none]
theorem sp_mixedD {n : Nat} {p : D} {ds : List D} {y : Fl × D} (hy : y = (.dat, .tup ds) ∨ y = (.dat, .lst ds) ∨ y = (.brw, .lst ds)) (hp : PenOk p) (hl : ds.length ≤ 100) (hn : 2 ≤ n) :
    ((TT n).C i__law_mixed [(.ino, p), y]).post fun r => ∃ (o : List D) (p' : D), o.Perm ds ∧ PenOk p' ∧ r = ((.own, .lst o), [p', .non]) := by
  obtain ⟨m, rfl, hm⟩ := succ_of hn
  rw [C__law_mixed]
  have go : ∀ y : Fl × D, (y = (.dat, .tup ds) ∨ y = (.dat, .lst ds) ∨ y = (.brw, .lst ds)) → (exec (TT m) (.ret (.comp .rng (.cons (.bif .len (.cons (.var 2) .nil)) .nil) (.one 3) .nil (.mut .pop1 2 (.cons (.call i__law_draw (.cons (.io 0) (.cons (.bif .len (.cons (.var 2) .nil)) .nil))) .nil)) [3])) [some (.ino, p), some y, some (.own, .lst ds), none]).post fun r =>
      ∃ (o : List D) (q : D), o.Perm ds ∧ PenOk q ∧ r = (.rt (.own, .lst o), [some (.ino, q), some y, some (.own, .lst []), none]) := by
    intro y hy
    simp -implicitDefEqProofs [-post_ok]
    refine p_cacc (List.range ds.length) nI (mixI ds y) (xs := [(.dat, .int ds.length)]) (ds := [.int ds.length]) (σ1 := [some (.ino, p), some y, some (.own, .lst ds), none]) (by simp) (by rfl) (by simp) (by simp) (wk_rng1 (by omega)) ⟨ds, p, .refl _, hp, rfl⟩ ?_ ?_
    · rintro i acc a σ hi ha ⟨left, q, hpm, hq, rfl⟩
      obtain ⟨hlt, rfl⟩ := g_range hi
      have hle := hpm.length_eq
      rw [List.length_append] at hle
      simp -implicitDefEqProofs [-post_ok, cRound, setT, nI]
      refine p_draw left.length rfl hq (by omega) (by omega) (by omega) fun x q' hx hq' => ?_
      simp -implicitDefEqProofs [-post_ok, g_pop hx (by omega)]
      refine post_ok.mpr ⟨left[x], rfl, left.eraseIdx x, q', ?_, hq', rfl⟩
      refine List.Perm.trans ?_ hpm
      rw [List.append_assoc]
      exact (g_perm (List.getElem?_eq_getElem hx)).append_left acc
    · rintro ys σ' hy2 ⟨left, q, hpm, hq, rfl⟩
      rw [List.length_range] at hy2
      have hle := hpm.length_eq
      rw [List.length_append] at hle
      have : left = [] := List.length_eq_zero_iff.mp (by omega)
      subst this
      rw [List.append_nil] at hpm
      simp -implicitDefEqProofs [-post_ok]
      exact post_ok.mpr ⟨ys, hpm, q, hq, rfl⟩
  have hy2 := hy
  rcases hy with rfl | rfl | rfl
  · simp -implicitDefEqProofs [-post_ok, -ex_ret, runF, b__law_mixed, startD]
    refine post_bind (go _ hy2) ?_
    rintro _ ⟨o, q, h1, h2, rfl⟩
    simp -implicitDefEqProofs [-post_ok]
    exact post_ok.mpr ⟨o, h1, q, h2, rfl⟩
  · simp -implicitDefEqProofs [-post_ok, -ex_ret, runF, b__law_mixed, startD]
    refine post_bind (go _ hy2) ?_
    rintro _ ⟨o, q, h1, h2, rfl⟩
    simp -implicitDefEqProofs [-post_ok]
    exact post_ok.mpr ⟨o, h1, q, h2, rfl⟩
  · simp -implicitDefEqProofs [-post_ok, -ex_ret, runF, b__law_mixed, startD]
    refine post_bind (go _ hy2) ?_
    rintro _ ⟨o, q, h1, h2, rfl⟩
    simp -implicitDefEqProofs [-post_ok]
    exact post_ok.mpr ⟨o, h1, q, h2, rfl⟩
end K
namespace K
open PySem DD
/-- an entry: its number, day, written day, hand, word, giver or what it names, taker, rests, witnesses -/
structure En where
  num : Nat
  day : Nat
  wr : Nat
  hand : Nat
  word : Nat
  a : Nat
  b : Nat
  rests : List Nat
  wits : List Nat
def wS : Nat → Str
  | 0 => "deed"
  | 1 => "paid"
  | 2 => "void"
  | _ => "undone"
def tailD (e : En) : List D := if e.word = 0 then [nI e.a, nI e.b, .tup (e.rests.map nI), .tup (e.wits.map nI)] else [nI e.a]
def enD (e : En) : D := .tup (nI e.num :: nI e.day :: nI e.wr :: nI e.hand :: .str (wS e.word) :: tailD e)
structure OkE (nf : Nat) (deeds acts : List Nat) (e : En) : Prop where
  day : e.day ≤ 9999
  wr : e.wr ≤ 9999
  hand : e.hand ≤ 3
  word : e.word ≤ 3
  deed : e.word = 0 → (e.a < nf ∧ e.b < nf ∧ e.a ≠ e.b) ∧ (e.rests.Pairwise (· < ·) ∧ e.rests.length ≤ 2 ∧ ∀ r ∈ e.rests, r ∈ deeds) ∧ e.wits.Pairwise (· < ·) ∧ e.wits.length ≤ 3 ∧ ∀ w ∈ e.wits, w < nf ∧ w ≠ e.a ∧ w ≠ e.b
  act : e.word = 1 ∨ e.word = 2 → e.a ∈ deeds
  und : e.word = 3 → e.a ∈ acts
def dds (es : List En) : List Nat := (es.filter fun e => e.word == 0).map (·.num)
def acs (es : List En) : List Nat := (es.filter fun e => !(e.word == 0)).map (·.num)
structure OkB (nf : Nat) (es : List En) : Prop where
  inc : (es.map (·.num)).Pairwise (· < ·)
  le : ∀ e ∈ es, e.num ≤ 30
  ok : ∀ i e, es[i]? = some e → OkE nf (dds (es.take i)) (acs (es.take i)) e
/-- a person -/
def diedD : Option Int → D
  | none => .non
  | some d => .int d
def prD (x : Int × Option Int) : D := .tup [.int x.1, diedD x.2]
def okP (x : Int × Option Int) : Prop := -9999 ≤ x.1 ∧ x.1 ≤ 9998 ∧ ∀ d, x.2 = some d → x.1 < d ∧ d ≤ 9999
section
variable {fl : Fl} (h : fl = .dat ∨ fl = .brw)
include h
theorem fl_var {σ : Sg} {d : D} : varS σ (some (fl, d)) = .ok ((fl, d), σ) := by rcases h with rfl | rfl <;> rfl
theorem fl_look {d : D} : look (fl, d) = .ok d := by rcases h with rfl | rfl <;> rfl
theorem fl_out {σ : Sg} {j : Nat} {d : D} {r : List (Fl × D)} : outD σ j ((fl, d) :: r) = (outD σ (j + 1) r >>= fun ds => .ok (.non :: ds)) := by rcases h with rfl | rfl <;> rfl
theorem fl_fill {σ : Sg} {e : E} {r : Es} {d : D} {xs : List (Fl × D)} (hi : isIo e = none) : fillA σ (.cons e r) ((fl, d) :: xs) = (fillA σ r xs >>= fun ys => .ok ((fl, d) :: ys)) := by
  rcases h with rfl | rfl
  · exact fill_d hi
  · exact fill_b hi
end
theorem g_mod {x : Int} {k : Nat} (hk : 1 ≤ k) : ∃ y : Nat, y < k ∧ x % (k : Int) = (y : Int) := ⟨(x % k).toNat, by have := Int.emod_lt_of_pos x (show (0 : Int) < k by omega); have := Int.emod_nonneg x (show (k : Int) ≠ 0 by omega); omega, by
  have := Int.emod_nonneg x (show (k : Int) ≠ 0 by omega); omega⟩
theorem g_fmN (p : Nat → Bool) : ∀ l : List Nat, (l.filterMap fun x => if p x then some (nI x) else none) = (l.filter p).map nI
  | [] => rfl
  | a :: l => by
    rw [List.filterMap_cons, List.filter_cons, g_fmN p l]
    cases p a <;> rfl
theorem dds_app {es : List En} {e : En} : dds (es ++ [e]) = dds es ++ (if e.word = 0 then [e.num] else []) := by
  unfold dds
  rw [List.filter_append, List.map_append]
  by_cases h : e.word = 0 <;> simp [h]
theorem acs_app {es : List En} {e : En} : acs (es ++ [e]) = acs es ++ (if e.word = 0 then [] else [e.num]) := by
  unfold acs
  rw [List.filter_append, List.map_append]
  by_cases h : e.word = 0 <;> simp [h]
theorem dds_sub {es : List En} {x : Nat} (h : x ∈ dds es) : ∃ e ∈ es, e.word = 0 ∧ e.num = x := by
  obtain ⟨e, h1, h2⟩ := List.mem_map.mp h
  obtain ⟨h3, h4⟩ := List.mem_filter.mp h1
  exact ⟨e, h3, by simpa using h4, h2⟩
theorem acs_sub {es : List En} {x : Nat} (h : x ∈ acs es) : ∃ e ∈ es, e.word ≠ 0 ∧ e.num = x := by
  obtain ⟨e, h1, h2⟩ := List.mem_map.mp h
  obtain ⟨h3, h4⟩ := List.mem_filter.mp h1
  exact ⟨e, h3, by simpa using h4, h2⟩
theorem OkB.nd {nf : Nat} {es : List En} (h : OkB nf es) : (es.map (·.num)).Nodup := h.inc.imp fun h => Nat.ne_of_lt h
theorem OkB.ndd {nf : Nat} {es : List En} (h : OkB nf es) : (dds es).Nodup := h.nd.sublist (List.filter_sublist.map _)
theorem dds_len {es : List En} : (dds es).length ≤ es.length := by
  unfold dds
  rw [List.length_map]
  exact List.length_filter_le _ _
theorem acs_len {es : List En} : (acs es).length ≤ es.length := by
  unfold acs
  rw [List.length_map]
  exact List.length_filter_le _ _
theorem OkB.app {nf : Nat} {es : List En} {e : En} (h : OkB nf es) (h1 : ∀ x ∈ es, x.num < e.num) (h2 : e.num ≤ 30) (h3 : OkE nf (dds es) (acs es) e) : OkB nf (es ++ [e]) := by
  refine ⟨?_, fun x hx => ?_, fun i x hx => ?_⟩
  · rw [List.map_append, List.pairwise_append]
    refine ⟨h.inc, List.pairwise_singleton _ _, fun a ha b hb => ?_⟩
    obtain ⟨y, hy, rfl⟩ := List.mem_map.mp ha
    rw [List.map_cons, List.map_nil, List.mem_singleton] at hb
    rw [hb]
    exact h1 y hy
  · rcases List.mem_append.mp hx with hx | hx
    · exact h.le x hx
    · rw [List.mem_singleton.mp hx]; exact h2
  · by_cases hi : i < es.length
    · rw [List.getElem?_append_left hi] at hx
      rw [List.take_append_of_le_length (Nat.le_of_lt hi)]
      exact h.ok i x hx
    · rw [List.getElem?_append_right (by omega)] at hx
      have h0 : i - es.length = 0 := by
        have := (List.getElem?_eq_some_iff.mp hx).1
        simp at this
        omega
      rw [h0] at hx
      cases hx
      have : i = es.length := by omega
      rw [this, List.take_left' rfl]
      exact h3
theorem OkB.nil {nf : Nat} : OkB nf [] := ⟨.nil, (fun _ h => nomatch h), fun i e h => by simp at h⟩
theorem enD_4 {e : En} : ∃ l, enD e = .tup l ∧ l[4]? = some (.str (wS e.word)) := ⟨_, rfl, rfl⟩
theorem wS_ok {w : Nat} (h : w ≤ 3) : PyData.strOk (wS w) = true := by
  match w, h with
  | 0, _ => decide +kernel
  | 1, _ => decide +kernel
  | 2, _ => decide +kernel
  | 3, _ => decide +kernel
theorem wS_deed {w : Nat} (h : w ≤ 3) : cmpD .eq (.str (wS w)) (.str "deed") = .ok (decide (w = 0)) := by
  rw [eq_ss (wS_ok h) (by decide +kernel)]
  match w, h with
  | 0, _ => rfl
  | 1, _ => rfl
  | 2, _ => rfl
  | 3, _ => rfl
end K
namespace K
open PySem DD
theorem perm_map_inv {α β : Type} {f : α → β} {o l : List β} (h : o.Perm l) : ∀ es : List α, l = es.map f → ∃ us : List α, us.Perm es ∧ o = us.map f := by
  induction h with
  | nil =>
    intro es e
    obtain rfl := List.map_eq_nil_iff.mp e.symm
    exact ⟨[], .refl _, rfl⟩
  | cons a h ih =>
    intro es e
    cases es with
    | nil => cases e
    | cons x es =>
      injection e with e1 e2
      obtain ⟨us, h1, h2⟩ := ih es e2
      exact ⟨x :: us, h1.cons x, by rw [h2, e1]; rfl⟩
  | swap a b l =>
    intro es e
    cases es with
    | nil => cases e
    | cons x es =>
      cases es with
      | nil => cases e
      | cons y es =>
        injection e with e1 e2
        injection e2 with e2 e3
        exact ⟨y :: x :: es, .swap x y es, by rw [e1, e2, e3]; rfl⟩
  | trans h1 h2 ih1 ih2 =>
    intro es e
    obtain ⟨us, g1, g2⟩ := ih2 es e
    obtain ⟨ws, g3, g4⟩ := ih1 us g2
    exact ⟨ws, g3.trans g1, g4⟩
/-- sorted by what it rises by -/
theorem sort_rise {α : Type} {le : α → α → Bool} (tr : ∀ a b c, le a b → le b c → le a c) (to : ∀ a b, le a b || le b a) {us es : List α} (p : us.Perm es) (h : es.Pairwise fun a b => le b a = false) : us.mergeSort le = es := by
  have h2 : es.Pairwise fun a b => le a b = true := h.imp fun {a b} e => by have := to a b; rw [e, Bool.or_false] at this; exact this
  have s := List.pairwise_mergeSort tr to us
  have q : (us.mergeSort le).Perm es := (List.mergeSort_perm us le).trans p
  refine List.Perm.eq_of_pairwise (fun a b ha hb h1 h2 => ?_) s h2 q
  by_cases e : a = b
  · exact e
  · have ha : a ∈ es := q.mem_iff.mp ha
    have key : ∀ l : List α, l.Pairwise (fun a b => le b a = false) → a ∈ l → b ∈ l → a ≠ b → le b a = false ∨ le a b = false := by
      intro l hl ha hb ne
      induction hl with
      | nil => cases ha
      | @cons x m h1 _ ih =>
        rcases List.mem_cons.mp ha with ea | ha
        · rcases List.mem_cons.mp hb with eb | hb
          · exact absurd (ea.trans eb.symm) ne
          · rw [ea]; exact .inl (h1 _ hb)
        · rcases List.mem_cons.mp hb with eb | hb
          · rw [eb]; exact .inr (h1 _ ha)
          · exact ih ha hb
    rcases key es h ha hb e with z | z
    · rw [h2] at z; cases z
    · rw [h1] at z; cases z
theorem srtN_of {us : List Nat} {l : List Nat} (p : us.Perm l) (h : l.Pairwise (· < ·)) : srtN us = l := by
  unfold srtN
  exact sort_rise (fun a b c h1 h2 => by simp at h1 h2 ⊢; omega) (fun a b => by simp; omega) p (h.imp fun h => by simp; omega)
theorem enD_0 {e : En} : ∃ l, enD e = .tup (.int (e.num : Int) :: l) ∧ (D.int (e.num : Int) :: l)[4]? = some (.str (wS e.word)) := ⟨_, rfl, rfl⟩
theorem heads_en : ∀ es : List En, headsD (es.map enD) = some (es.map fun e => (enD e, (e.num : Int)))
  | [] => rfl
  | e :: es => by
    show (headsD (es.map enD)).map ((D.tup _, (e.num : Int)) :: ·) = _
    rw [heads_en es]
    rfl
/-- sorted(.., key=lambda y: y[0]) -/
theorem srk_en {us es : List En} (p : us.Perm es) (h : es.Pairwise fun a b => a.num < b.num) : srkD (.tup (us.map enD)) = .ok (es.map enD) := by
  show (ofO (headsD (us.map enD)) >>= fun bs => R.ok ((sortB bs).map Prod.fst)) = _
  rw [heads_en]
  simp only [ofO_some, R.bind_ok]
  refine congrArg R.ok ?_
  unfold sortB
  rw [← List.map_mergeSort (r := fun a b : En => decide (a.num ≤ b.num)) (fun a _ b _ => by simp), sort_rise (fun a b c h1 h2 => by simp at h1 h2 ⊢; omega) (fun a b => by simp; omega) p (h.imp fun h => by simp; omega), List.map_map]
  rfl
theorem wS_act {w : Nat} (h : w ≤ 3) : cmpD .isin (.str (wS w)) (.tup [.str "paid", .str "void", .str "undone"]) = .ok (!(w == 0)) := by
  show R.ok (List.any [D.str "paid", .str "void", .str "undone"] fun y => eqF y (.str (wS w))) = _
  refine congrArg R.ok ?_
  have : w = 0 ∨ w = 1 ∨ w = 2 ∨ w = 3 := by omega
  rcases this with rfl | rfl | rfl | rfl <;> decide +kernel
theorem fm_dds (us : List En) : (us.filterMap fun e => if e.word == 0 then some (D.int (e.num : Int)) else none) = (dds us).map nI := by
  unfold dds
  induction us with
  | nil => rfl
  | cons e us ih =>
    rw [List.filterMap_cons, List.filter_cons]
    by_cases h : (e.word == 0) = true
    · rw [if_pos h, if_pos h, ih]; rfl
    · rw [if_neg h, if_neg h, ih]
theorem fm_acs (us : List En) : (us.filterMap fun e => if !(e.word == 0) then some (D.int (e.num : Int)) else none) = (acs us).map nI := by
  unfold acs
  induction us with
  | nil => rfl
  | cons e us ih =>
    rw [List.filterMap_cons, List.filter_cons]
    by_cases h : (!(e.word == 0)) = true
    · rw [if_pos h, if_pos h, ih]; rfl
    · rw [if_neg h, if_neg h, ih]
abbrev bkD (F A : D) (us : List En) : D := .tup [F, A, .tup (us.map enD)]
end K
namespace K
open PySem DD
/-- data without objects, n deep in tuples -/
def thD : Nat → D → Bool
  | _, .non => true
  | _, .bl _ => true
  | _, .int _ => true
  | _, .str s => PyData.strOk s
  | n + 1, .tup ds => ds.all (thD n)
  | _, .lst _ => true
  | _, .dct _ => true
  | _, _ => false
theorem th_obj {k c : Nat} {fs : List (Str × D)} : thD k (.obj c fs) = false := by cases k <;> rfl
theorem th_odc {k : Nat} {kvs : List (L2.Key × D)} : thD k (.odc kvs) = false := by cases k <;> rfl
theorem th_scr {k : Nat} {ns : List Int} : thD k (.scr ns) = false := by cases k <;> rfl
theorem th_tup {k : Nat} {ds : List D} (h : thD k (.tup ds) = true) : ∃ j, k = j + 1 ∧ ∀ d ∈ ds, thD j d = true := by
  cases k with
  | zero => cases h
  | succ j => exact ⟨j, rfl, fun d hd => List.all_eq_true.mp h d hd⟩
theorem th_str {k : Nat} {s : Str} (h : thD k (.str s) = true) : PyData.strOk s = true := by cases k <;> exact h
theorem fm_all {α β : Type} (f : α → β) (l : List α) : l.filterMap (fun a => some (f a)) = l.map f := by
  induction l with
  | nil => rfl
  | cons a l ih => rw [List.filterMap_cons, ih]; rfl
def whD : D → Bool
  | .int _ => true
  | _ => false
def fromD (a b : Int) : D → Bool
  | .int i => decide (a ≤ i) && decide (i ≤ b)
  | _ => false
theorem sp_whole {n k : Nat} {d : D} (h : thD k d = true) (hn : 1 ≤ n) : (TT n).C i_is_whole [(.dat, d)] = .ok ((.dat, .bl (whD d)), [.non]) := by
  obtain ⟨m, rfl, hm⟩ := succ_of hn
  rw [C_is_whole]
  cases d <;> first
    | (rw [th_obj] at h; cases h; done)
    | (rw [th_odc] at h; cases h; done)
    | (rw [th_scr] at h; cases h; done)
    | simp -implicitDefEqProofs [runF, b_is_whole, startD, isiD, whD]
theorem sp_from {n k : Nat} {d : D} {a b : Int} (h : thD k d = true) (hn : 2 ≤ n) : (TT n).C i_is_from [(.dat, d), (.dat, .int a), (.dat, .int b)] = .ok ((.dat, .bl (fromD a b d)), [.non, .non, .non]) := by
  obtain ⟨m, rfl, hm⟩ := succ_of hn
  have e := sp_whole h hm
  rw [C_is_from]
  cases d with
  | int i =>
    by_cases h1 : a ≤ i <;> by_cases h2 : i ≤ b <;> simp -implicitDefEqProofs [runF, b_is_from, startD, e, whD, fromD, h1, h2]
  | _ => simp -implicitDefEqProofs [runF, b_is_from, startD, e, whD, fromD]
theorem sp_day {n k : Nat} {d : D} (h : thD k d = true) (hn : 3 ≤ n) : (TT n).C i_is_day [(.dat, d)] = .ok ((.dat, .bl (fromD 0 9999 d)), [.non]) := by
  obtain ⟨m, rfl, hm⟩ := succ_of hn
  have e := sp_from (a := 0) (b := 9999) h hm
  rw [C_is_day]
  simp -implicitDefEqProofs [runF, b_is_day, startD, G_LAST_DAY, e]
def nonD : D → Bool
  | .non => true
  | _ => false
theorem iss_non {d : D} : cmpD .iss d .non = .ok (nonD d) := by cases d <;> rfl
theorem isnot_non {d : D} : cmpD .isnot d .non = .ok (!nonD d) := by cases d <;> rfl
theorem th_up : ∀ {n : Nat} {d : D}, thD n d = true → thD (n + 1) d = true := by
  intro n
  induction n with
  | zero =>
    intro d h
    cases d <;> first | rfl | exact h | cases h
  | succ n ih =>
    intro d h
    cases d with
    | tup ds =>
      have h : ds.all (thD n) = true := h
      show ds.all (thD (n + 1)) = true
      rw [List.all_eq_true] at h ⊢
      exact fun x hx => ih (h x hx)
    | _ => first | rfl | exact h | cases h
theorem th_le {n m : Nat} {d : D} (h : thD n d = true) (l : n ≤ m) : thD m d = true := by
  induction l with
  | refl => exact h
  | step _ ih => exact th_up ih
theorem th_lst {k : Nat} {ds : List D} : thD k (.lst ds) = true := by cases k <;> rfl
theorem th_dct {k : Nat} {kvs : List (L2.Key × D)} : thD k (.dct kvs) = true := by cases k <;> rfl
theorem th_int {k : Nat} {i : Int} : thD k (.int i) = true := by cases k <;> rfl
theorem th_bl {k : Nat} {b : Bool} : thD k (.bl b) = true := by cases k <;> rfl
theorem th_non {k : Nat} : thD k .non = true := by cases k <;> rfl
theorem th_s {k : Nat} {s : Str} (h : PyData.strOk s = true) : thD k (.str s) = true := by cases k <;> exact h
theorem th_t {k : Nat} {ds : List D} (h : ∀ d ∈ ds, thD k d = true) : thD (k + 1) (.tup ds) = true := List.all_eq_true.mpr h
def thingI (deep : Nat) (w : Int) (acc : List D) (σ : Sg) : Prop := ∃ q, PenOk q ∧ (∀ d ∈ acc, thD (deep + 1) d = true) ∧ σ = [some (.ino, q), some (.dat, .int ((deep : Int) + 1)), some (.dat, .int w), none, none]
theorem big39 : binD .pow (.int 10) (.int 39) = .ok (.dat, .int 1000000000000000000000000000000000000000) := rfl
def isTh (k : Nat) (r : (Fl × D) × List D) : Prop := ∃ (fl : Fl) (d p' : D), (fl = .dat ∨ fl = .own) ∧ thD k d = true ∧ PenOk p' ∧ r = ((fl, d), [p', .non])
theorem sp_thing : ∀ (deep : Nat) {n : Nat} {p : D}, PenOk p → deep + 2 ≤ n → ((TT n).C i__law_thing [(.ino, p), (.dat, .int (deep : Int))]).post (isTh (deep + 1)) := by
  intro deep
  induction deep with
  | zero =>
    intro n p hp hn
    obtain ⟨m, rfl, hm⟩ := succ_of hn
    rw [C__law_thing]
    simp -implicitDefEqProofs [-post_ok, runF, b__law_thing, startD]
    refine p_draw 12 rfl hp (by decide) (by decide) (by omega) fun w p1 hw hp1 => ?_
    have ea : ev (TT m) (.or (.cons (.cmp .lt (.var 2) (.int 8)) (.cons (.cmp .eq (.var 1) (.int 0)) .nil))) [some (.ino, p1), some (.dat, .int 0), some (.dat, .int (w : Int)), none, none] = .ok ((.dat, .bl true), [some (.ino, p1), some (.dat, .int 0), some (.dat, .int (w : Int)), none, none]) := by
      by_cases h : (w : Int) < 8 <;> simp [h]
    simp -implicitDefEqProofs [-post_ok]
    by_cases h : (w : Int) < 8
    all_goals
      simp -implicitDefEqProofs [-post_ok, h, big39]
      refine p_draw 12 rfl hp1 (by decide) (by decide) (by omega) fun x p2 hx hp2 => ?_
      have e : ∃ d : D, thD 1 d = true ∧ L2.atI [D.non, .bl true, .bl false, .int 0, .int 1, .int (-1), .int 9, .int 1000000000000000000000000000000000000000, .str "", .str "a", .tup [], .lst []] (x : Int) = some d := by
        rw [atI_nat]
        match x, hx with
        | 0, _ => exact ⟨_, rfl, rfl⟩
        | 1, _ => exact ⟨_, rfl, rfl⟩
        | 2, _ => exact ⟨_, rfl, rfl⟩
        | 3, _ => exact ⟨_, rfl, rfl⟩
        | 4, _ => exact ⟨_, rfl, rfl⟩
        | 5, _ => exact ⟨_, rfl, rfl⟩
        | 6, _ => exact ⟨_, rfl, rfl⟩
        | 7, _ => exact ⟨_, rfl, rfl⟩
        | 8, _ => exact ⟨_, (by decide +kernel), rfl⟩
        | 9, _ => exact ⟨_, (by decide +kernel), rfl⟩
        | 10, _ => exact ⟨_, rfl, rfl⟩
        | 11, _ => exact ⟨_, rfl, rfl⟩
      obtain ⟨d, hd, e⟩ := e
      simp -implicitDefEqProofs [-post_ok, e]
      exact post_ok.mpr ⟨.dat, d, p2, .inl rfl, hd, hp2, rfl⟩
  | succ deep ih =>
    intro n p hp hn
    obtain ⟨m, rfl, hm⟩ := succ_of hn
    rw [C__law_thing]
    simp -implicitDefEqProofs [-post_ok, runF, b__law_thing, startD]
    refine p_draw 12 rfl hp (by decide) (by decide) (by omega) fun w p1 hw hp1 => ?_
    have h0 : ¬ ((deep : Int) + 1 = 0) := by omega
    by_cases h : (w : Int) < 8
    · simp -implicitDefEqProofs [-post_ok, h, big39]
      refine p_draw 12 rfl hp1 (by decide) (by decide) (by omega) fun x p2 hx hp2 => ?_
      have e : ∃ d : D, thD 1 d = true ∧ L2.atI [D.non, .bl true, .bl false, .int 0, .int 1, .int (-1), .int 9, .int 1000000000000000000000000000000000000000, .str "", .str "a", .tup [], .lst []] (x : Int) = some d := by
        rw [atI_nat]
        match x, hx with
        | 0, _ => exact ⟨_, rfl, rfl⟩
        | 1, _ => exact ⟨_, rfl, rfl⟩
        | 2, _ => exact ⟨_, rfl, rfl⟩
        | 3, _ => exact ⟨_, rfl, rfl⟩
        | 4, _ => exact ⟨_, rfl, rfl⟩
        | 5, _ => exact ⟨_, rfl, rfl⟩
        | 6, _ => exact ⟨_, rfl, rfl⟩
        | 7, _ => exact ⟨_, rfl, rfl⟩
        | 8, _ => exact ⟨_, (by decide +kernel), rfl⟩
        | 9, _ => exact ⟨_, (by decide +kernel), rfl⟩
        | 10, _ => exact ⟨_, rfl, rfl⟩
        | 11, _ => exact ⟨_, rfl, rfl⟩
      obtain ⟨d, hd, e⟩ := e
      simp -implicitDefEqProofs [-post_ok, e]
      exact post_ok.mpr ⟨.dat, d, p2, .inl rfl, th_le hd (by omega), hp2, rfl⟩
    · simp -implicitDefEqProofs [-post_ok, h, h0]
      obtain ⟨_, e, x, p2, hx, hp2, rfl⟩ := sp_draw (n := m) (k := 4) hp1 (by decide) (by decide) (by omega)
      have e : (TT m).C i__law_draw [(Fl.ino, p1), (Fl.dat, D.int 4)] = .ok ((.dat, .int (x : Int)), [p2, .non]) := e
      refine p_cacc (List.range x) (fun i => D.int (i : Int)) (thingI deep (w : Int)) (xs := [(.dat, .int (x : Int))]) (ds := [.int (x : Int)]) (σ1 := [some (.ino, p2), some (.dat, .int ((deep : Int) + 1)), some (.dat, .int (w : Int)), none, none]) (by simp [e]) (by simp) (by simp) (by simp) (wk_rng1 (by omega)) ⟨p2, hp2, (fun _ z => nomatch z), rfl⟩ ?_ ?_
      · rintro i acc a σ hi ha ⟨q, hq, hacc, rfl⟩
        have es : (deep : Int) + 1 - 1 = (deep : Int) := by omega
        simp -implicitDefEqProofs [-post_ok, cRound, setT, es]
        refine post_bind (ih (n := m) hq (by omega)) ?_
        rintro _ ⟨fl, d, q1, hfl, hd, hq1, rfl⟩
        have fin : thingI deep (w : Int) (acc ++ [d]) [some (.ino, q1), some (.dat, .int ((deep : Int) + 1)), some (.dat, .int (w : Int)), none, none] := ⟨q1, hq1, fun y hy => by
          rcases List.mem_append.mp hy with z | z
          · exact hacc y z
          · cases List.mem_singleton.mp z
            exact hd, rfl⟩
        rcases hfl with rfl | rfl
        · simp -implicitDefEqProofs [-post_ok]
          exact post_ok.mpr ⟨d, rfl, fin⟩
        · simp -implicitDefEqProofs [-post_ok]
          exact post_ok.mpr ⟨d, rfl, fin⟩
      · rintro ys σ' hy ⟨q, hq, hacc, rfl⟩
        by_cases h8 : (w : Int) = 8
        · simp -implicitDefEqProofs [-post_ok, h8]
          exact post_ok.mpr ⟨.dat, .lst ys, q, .inl rfl, th_lst, hq, rfl⟩
        · by_cases h9 : (w : Int) = 9
          · simp -implicitDefEqProofs [-post_ok, h9]
            exact post_ok.mpr ⟨.own, _, q, .inr rfl, th_dct, hq, rfl⟩
          · simp -implicitDefEqProofs [-post_ok, h8, h9]
            exact post_ok.mpr ⟨.dat, .tup ys, q, .inl rfl, th_t hacc, hq, rfl⟩
end K
namespace K
open PySem DD
theorem cutT {ds : List D} {x : Nat} : cutD ds none (some (x : Int)) = ds.take x := by
  unfold cutD
  rw [HT.sIx_nat, HT.sIx_none, List.drop_zero, Nat.sub_zero]
  by_cases h : x ≤ ds.length
  · rw [Nat.min_eq_left h]
  · rw [Nat.min_eq_right (by omega), List.take_of_length_le (Nat.le_refl _), List.take_of_length_le (by omega)]
theorem cutR {ds : List D} {x : Nat} : cutD ds (some (x : Int)) none = ds.drop x := by
  unfold cutD
  rw [HT.sIx_nat, HT.sIx_none]
  by_cases h : x ≤ ds.length
  · rw [Nat.min_eq_left h]
    exact List.take_of_length_le (by rw [List.length_drop]; omega)
  · rw [Nat.min_eq_right (by omega), List.drop_of_length_le (Nat.le_refl _), List.drop_of_length_le (by omega), List.take_nil]
theorem sp_day2 {n : Nat} {p : D} (hp : PenOk p) (hn : 2 ≤ n) : ((TT n).C i__law_day [(.ino, p)]).post fun r => ∃ (x : Nat) (p' : D), x ≤ 9999 ∧ PenOk p' ∧ r = ((.dat, .int x), [p']) := by
  obtain ⟨m, rfl, hm⟩ := succ_of hn
  rw [C__law_day]
  simp -implicitDefEqProofs [-post_ok, runF, b__law_day, startD]
  refine p_draw 7 rfl hp (by decide) (by decide) (by omega) fun x1 p1 h1 hp1 => ?_
  simp -implicitDefEqProofs [-post_ok]
  refine p_draw 40 rfl hp1 (by decide) (by decide) (by omega) fun x2 p2 h2 hp2 => ?_
  simp -implicitDefEqProofs [-post_ok]
  refine p_draw 10000 rfl hp2 (by decide) (by decide) (by omega) fun x3 p3 h3 hp3 => ?_
  simp -implicitDefEqProofs [-post_ok]
  refine p_draw 6 rfl hp3 (by decide) (by decide) (by omega) fun x6 p6 h6 hp6 => ?_
  have fd : binD .fdiv (.int (x6 : Int)) (.int 2) = .ok (.dat, .int ((x6 / 2 : Nat) : Int)) := by rw [fdiv_ii (by decide) (by decide)]; rfl
  have e : ∃ z : Nat, z ≤ 9999 ∧ L2.atI [D.int (x1 : Int), .int (x2 : Int), .int (x3 : Int)] ((x6 / 2 : Nat) : Int) = some (.int (z : Int)) := by
    rw [atI_nat]
    have : x6 / 2 < 3 := by omega
    match x6 / 2, this with
    | 0, _ => exact ⟨x1, by omega, rfl⟩
    | 1, _ => exact ⟨x2, by omega, rfl⟩
    | 2, _ => exact ⟨x3, by omega, rfl⟩
  obtain ⟨z, hz, e⟩ := e
  generalize ((x6 / 2 : Nat) : Int) = w at *
  simp -implicitDefEqProofs [-post_ok, fd, e]
  exact post_ok.mpr ⟨z, hz, p6, hp6, rfl⟩
theorem sp_few2 {n : Nat} {p : D} {l : List Nat} (k : Nat) {fl : Fl} (hfl : fl = .dat ∨ fl = .brw) (hp : PenOk p) (nd : l.Nodup) (hl : l.length ≤ 100) (hk : k ≤ 100) (hn : 3 ≤ n) :
    ((TT n).C i__law_few [(.ino, p), (fl, .lst (l.map nI)), (.dat, .int (k : Int))]).post fun r => ∃ (f : List Nat) (p' : D), (f.Pairwise (· < ·) ∧ f.length ≤ k ∧ ∀ x ∈ f, x ∈ l) ∧ PenOk p' ∧ r = ((.dat, .tup (f.map nI)), [p', .non, .non]) := by
  obtain ⟨m, rfl, hm⟩ := succ_of hn
  rw [C__law_few]
  simp -implicitDefEqProofs [-post_ok, runF, b__law_few, startD, fl_var hfl, fl_look hfl, fl_fill hfl]
  refine post_bind (sp_mixedD (n := m) (ds := l.map nI) (y := (fl, .lst (l.map nI))) (by rcases hfl with rfl | rfl; exact .inr (.inl rfl); exact .inr (.inr rfl)) hp (by rw [List.length_map]; exact hl) hm) ?_
  rintro _ ⟨o, p1, ho, hp1, rfl⟩
  obtain ⟨o, ho2, rfl⟩ := perm_map_inv ho l rfl
  clear ho
  simp -implicitDefEqProofs [-post_ok]
  refine p_draw (k + 1) (by omega) hp1 (by omega) (by omega) (by omega) fun x p2 hx hp2 => ?_
  have ct := cutT (ds := o.map nI) (x := x)
  have gs : bifD .sortI [.lst ((o.map nI).take x)] = .ok (.own, .lst ((srtN (o.take x)).map nI)) := by rw [← List.map_take]; exact g_sort
  generalize hO : (o.map nI).take x = O at *
  simp -implicitDefEqProofs [-post_ok, ct, gs, fl_out hfl]
  have nd2 : (o.take x).Nodup := (ho2.nodup_iff.mpr nd).sublist (List.take_sublist _ _)
  exact post_ok.mpr ⟨srtN (o.take x), ⟨srtN_lt nd2, by rw [(srtN_perm _).length_eq, List.length_take]; omega, fun z hz => ho2.mem_iff.mp (List.mem_of_mem_take ((srtN_perm _).mem_iff.mp hz))⟩, p2, hp2, rfl⟩
theorem sp_deed2 {n : Nat} {p : D} {fs : List D} {num : Nat} {l acts : List Nat} {fl : Fl} (hfl : fl = .dat ∨ fl = .brw) (hp : PenOk p) (h2 : 2 ≤ fs.length) (h6 : fs.length ≤ 6) (nd : l.Nodup) (hl : l.length ≤ 100) (hn : 4 ≤ n) :
    ((TT n).C i__law_deed [(.ino, p), (.dat, .int (num : Int)), (.dat, .tup fs), (fl, .lst (l.map nI))]).post fun r => ∃ (e : En) (p' : D),
      (e.num = num ∧ e.word = 0 ∧ OkE fs.length l acts e) ∧ PenOk p' ∧ r = ((.dat, enD e), [p', .non, .non, .non]) := by
  obtain ⟨m, rfl, hm⟩ := succ_of hn
  rw [C__law_deed]
  have er : wkD .rng [.int (fs.length : Int)] = .ok ((List.range fs.length).map nI) := wk_rng1 (by omega)
  simp -implicitDefEqProofs [-post_ok, runF, b__law_deed, startD, er]
  refine post_bind (sp_mixedD (n := m) (ds := (List.range fs.length).map nI) (.inr (.inl rfl)) hp (by rw [List.length_map, List.length_range]; omega) (by omega)) ?_
  rintro _ ⟨o, p1, ho, hp1, rfl⟩
  obtain ⟨o, ho2, rfl⟩ := perm_map_inv ho (List.range fs.length) rfl
  clear ho
  have ho := ho2
  clear ho2
  have lo := ho.length_eq
  rw [List.length_range] at lo
  have no : o.Nodup := ho.nodup_iff.mpr List.nodup_range
  have bo : ∀ x ∈ o, x < fs.length := fun x hx => List.mem_range.mp (ho.mem_iff.mp hx)
  obtain ⟨g, t, o, rfl⟩ : ∃ g t r, o = g :: t :: r := by
    match o, lo with
    | [], lo => simp at lo; omega
    | [_], lo => simp at lo; omega
    | g :: t :: r, _ => exact ⟨g, t, r, rfl⟩
  have i0 : L2.atI ((g :: t :: o).map nI) 0 = some (nI g) := g_at (f := nI) (l := g :: t :: o) (i := 0) (by simp)
  have i1 : L2.atI ((g :: t :: o).map nI) 1 = some (nI t) := g_at (f := nI) (l := g :: t :: o) (i := 1) (by simp)
  have c2 : cutD ((g :: t :: o).map nI) (some 2) none = o.map nI := cutR (ds := (g :: t :: o).map nI) (x := 2)
  generalize hO : (g :: t :: o).map nI = O at *
  simp -implicitDefEqProofs [-post_ok, i0, i1]
  refine post_bind (sp_day2 (n := m) hp1 (by omega)) ?_
  rintro _ ⟨d1, p2, hd1, hp2, rfl⟩
  simp -implicitDefEqProofs [-post_ok]
  refine post_bind (sp_day2 (n := m) hp2 (by omega)) ?_
  rintro _ ⟨d2, p3, hd2, hp3, rfl⟩
  simp -implicitDefEqProofs [-post_ok]
  refine p_draw 4 rfl hp3 (by decide) (by decide) (by omega) fun d3 p4 hd3 hp4 => ?_
  simp -implicitDefEqProofs [-post_ok, fl_var hfl, fl_look hfl, fl_fill hfl]
  refine post_bind (sp_few2 (n := m) (l := l) 2 hfl hp4 nd hl (by decide) hm) ?_
  rintro _ ⟨f1, p5, hf1, hp5, rfl⟩
  simp -implicitDefEqProofs [-post_ok, c2]
  have no2 := (List.nodup_cons.mp (List.nodup_cons.mp no).2)
  refine post_bind (sp_few2 (n := m) (l := o) 3 (.inl rfl) hp5 no2.2 (by simp at lo; omega) (by decide) hm) ?_
  rintro _ ⟨f2, p6, hf2, hp6, rfl⟩
  have ad : binD .add (.tup [.int (num : Int), .int (d1 : Int), .int (d2 : Int), .int (d3 : Int), .str "deed", nI g, nI t]) (.tup [.tup (f1.map nI), .tup (f2.map nI)]) = .ok (.dat, enD ⟨num, d1, d2, d3, 0, g, t, f1, f2⟩) := by rw [add_tt (by simp)]; rfl
  have gt : g ≠ t := fun z => (List.nodup_cons.mp no).1 (z ▸ List.mem_cons_self)
  have hg := bo g List.mem_cons_self
  have ht := bo t (List.mem_cons_of_mem _ List.mem_cons_self)
  have hok : OkE fs.length l acts ⟨num, d1, d2, d3, 0, g, t, f1, f2⟩ :=
    ⟨hd1, hd2, by show d3 ≤ 3; omega, by show 0 ≤ 3; omega, fun _ => ⟨⟨hg, ht, gt⟩, hf1, hf2.1, hf2.2.1, fun x hx => by
      have hx := hf2.2.2 x hx
      refine ⟨bo x (List.mem_cons_of_mem _ (List.mem_cons_of_mem _ hx)), fun z => ?_, fun z => ?_⟩
      · have z : x = g := z
        exact (List.nodup_cons.mp no).1 (List.mem_cons_of_mem _ (z ▸ hx))
      · have z : x = t := z
        exact no2.1 (z ▸ hx)⟩, fun h => by rcases h with h | h <;> exact absurd h (show ¬ (0 : Nat) = _ by decide), fun h => absurd h (show ¬ (0 : Nat) = _ by decide)⟩
  simp -implicitDefEqProofs [-post_ok, ad, fl_out hfl]
  exact post_ok.mpr ⟨⟨num, d1, d2, d3, 0, g, t, f1, f2⟩, ⟨rfl, rfl, hok⟩, p6, hp6, rfl⟩
theorem sp_act2 {n nf : Nat} {p : D} {num : Nat} {l a : List Nat} (hp : PenOk p) (hl1 : l ≠ []) (hl : l.length ≤ 100) (ha : a.length ≤ 100) (hn : 3 ≤ n) :
    ((TT n).C i__law_act [(.ino, p), (.dat, .int (num : Int)), (.brw, .lst (l.map nI)), (.brw, .lst (a.map nI))]).post fun r => ∃ (e : En) (p' : D),
      (e.num = num ∧ e.word ≠ 0 ∧ OkE nf l a e) ∧ PenOk p' ∧ r = ((.dat, enD e), [p', .non, .non, .non]) := by
  obtain ⟨m, rfl, hm⟩ := succ_of hn
  rw [C__law_act]
  have l1 : 1 ≤ l.length := List.length_pos_iff.mpr hl1
  have en := g_nil (l := l)
  rw [show l.isEmpty = false by cases l with | nil => exact absurd rfl hl1 | cons _ _ => rfl] at en
  have ea := g_nil (l := a)
  have acn : ∀ (d1 d2 d3 y x : Nat), d1 ≤ 9999 → d2 ≤ 9999 → d3 < 4 → y < 2 → x ∈ l → OkE nf l a ⟨num, d1, d2, d3, y + 1, x, 0, [], []⟩ := fun d1 d2 d3 y x h1 h2 h3 hy hx =>
    ⟨h1, h2, by show d3 ≤ 3; omega, by show y + 1 ≤ 3; omega, fun h => absurd h (Nat.succ_ne_zero y), fun _ => hx, fun h => by have : y + 1 = 3 := h; omega⟩
  have acu : ∀ (d1 d2 d3 x : Nat), d1 ≤ 9999 → d2 ≤ 9999 → d3 < 4 → x ∈ a → OkE nf l a ⟨num, d1, d2, d3, 3, x, 0, [], []⟩ := fun d1 d2 d3 x h1 h2 h3 hx =>
    ⟨h1, h2, by show d3 ≤ 3; omega, by show 3 ≤ 3; omega, fun h => absurd h (show ¬ (3 : Nat) = 0 by decide), fun h => by rcases h with h | h <;> exact absurd h (show ¬ (3 : Nat) = _ by decide), fun _ => hx⟩
  have eu : ∀ y : Nat, y < 2 → cmpD .eq (.str (wS (y + 1))) (.str "undone") = .ok false := fun y hy => by
    match y, hy with
    | 0, _ => rw [eq_ss (wS_ok (by decide)) (by decide +kernel), decide_eq_false (by decide +kernel)]
    | 1, _ => rw [eq_ss (wS_ok (by decide)) (by decide +kernel), decide_eq_false (by decide +kernel)]
  simp -implicitDefEqProofs [-post_ok, runF, b__law_act, startD]
  refine p_draw 3 rfl hp (by decide) (by decide) (by omega) fun w p1 hw hp1 => ?_
  by_cases hw2 : w < 2
  · have e : L2.atI [D.str "paid", .str "void", .str "undone"] (w : Int) = some (.str (wS (w + 1))) := by
      rw [atI_nat]
      match w, hw2 with
      | 0, _ => rfl
      | 1, _ => rfl
    have eu := eu w hw2
    simp -implicitDefEqProofs [-post_ok, e, eu, en]
    refine post_bind (sp_day2 (n := m) hp1 (by omega)) ?_
    rintro _ ⟨d1, p2, hd1, hp2, rfl⟩
    simp -implicitDefEqProofs [-post_ok]
    refine post_bind (sp_day2 (n := m) hp2 (by omega)) ?_
    rintro _ ⟨d2, p3, hd2, hp3, rfl⟩
    simp -implicitDefEqProofs [-post_ok]
    refine p_draw 4 rfl hp3 (by decide) (by decide) (by omega) fun d3 p4 hd3 hp4 => ?_
    simp -implicitDefEqProofs [-post_ok]
    refine p_draw l.length (by simp) hp4 l1 (by omega) (by omega) fun z p5 hz hp5 => ?_
    have ex := g_at (f := nI) hz
    simp -implicitDefEqProofs [-post_ok, ex]
    exact post_ok.mpr ⟨⟨num, d1, d2, d3, w + 1, l[z], 0, [], []⟩, ⟨rfl, Nat.succ_ne_zero w, acn d1 d2 d3 w _ hd1 hd2 hd3 hw2 (List.getElem_mem hz)⟩, p5, hp5, rfl⟩
  · have hw3 : w = 2 := by omega
    subst hw3
    have e : L2.atI [D.str "paid", .str "void", .str "undone"] ((2 : Nat) : Int) = some (.str "undone") := by
      rw [atI_nat]; rfl
    have e : L2.atI [D.str "paid", .str "void", .str "undone"] 2 = some (.str "undone") := e
    have eu : cmpD .eq (.str "undone") (.str "undone") = .ok true := by rw [eq_ss (by decide +kernel) (by decide +kernel), decide_eq_true rfl]
    cases qa : a.isEmpty with
    | true =>
      rw [qa] at ea
      simp -implicitDefEqProofs [-post_ok, e, eu, ea]
      refine post_bind (sp_day2 (n := m) hp1 (by omega)) ?_
      rintro _ ⟨d1, p2, hd1, hp2, rfl⟩
      simp -implicitDefEqProofs [-post_ok]
      refine post_bind (sp_day2 (n := m) hp2 (by omega)) ?_
      rintro _ ⟨d2, p3, hd2, hp3, rfl⟩
      simp -implicitDefEqProofs [-post_ok]
      refine p_draw 4 rfl hp3 (by decide) (by decide) (by omega) fun d3 p4 hd3 hp4 => ?_
      simp -implicitDefEqProofs [-post_ok]
      refine p_draw l.length (by simp) hp4 l1 (by omega) (by omega) fun z p5 hz hp5 => ?_
      have ex := g_at (f := nI) hz
      simp -implicitDefEqProofs [-post_ok, ex]
      exact post_ok.mpr ⟨⟨num, d1, d2, d3, 1, l[z], 0, [], []⟩, ⟨rfl, Nat.succ_ne_zero 0, acn d1 d2 d3 0 _ hd1 hd2 hd3 (by decide) (List.getElem_mem hz)⟩, p5, hp5, rfl⟩
    | false =>
      rw [qa] at ea
      have ha1 : 1 ≤ a.length := by
        cases a with
        | nil => cases qa
        | cons _ _ => simp
      simp -implicitDefEqProofs [-post_ok, e, eu, ea]
      refine post_bind (sp_day2 (n := m) hp1 (by omega)) ?_
      rintro _ ⟨d1, p2, hd1, hp2, rfl⟩
      simp -implicitDefEqProofs [-post_ok]
      refine post_bind (sp_day2 (n := m) hp2 (by omega)) ?_
      rintro _ ⟨d2, p3, hd2, hp3, rfl⟩
      simp -implicitDefEqProofs [-post_ok]
      refine p_draw 4 rfl hp3 (by decide) (by decide) (by omega) fun d3 p4 hd3 hp4 => ?_
      simp -implicitDefEqProofs [-post_ok]
      refine p_draw a.length (by simp) hp4 ha1 (by omega) (by omega) fun z p5 hz hp5 => ?_
      have ex := g_at (f := nI) hz
      simp -implicitDefEqProofs [-post_ok, ex]
      exact post_ok.mpr ⟨⟨num, d1, d2, d3, 3, a[z], 0, [], []⟩, ⟨rfl, show (3 : Nat) ≠ 0 by decide, acu d1 d2 d3 _ hd1 hd2 hd3 (List.getElem_mem hz)⟩, p5, hp5, rfl⟩
end K
namespace K
open PySem DD
def folkK (k : Nat) (i : Nat) (σ : Sg) : Prop := ∃ (fs : List (Int × Option Int)) (q : D) (x3 x4 x5 : Option D), fs.length = i ∧ (∀ f ∈ fs, okP f) ∧ PenOk q ∧ σ = [some (.ino, q), some (.dat, .int (k : Int)), some (.own, .lst (fs.map prD)), dS x3, dS x4, dS x5]
theorem sp_folk2 {n : Nat} {p : D} (k : Nat) (h1 : 1 ≤ k) (h2 : k ≤ 2) (hp : PenOk p) (hn : 2 ≤ n) : ((TT n).C i__law_folk [(.ino, p), (.dat, .int (k : Int))]).post fun r => ∃ (fs : List (Int × Option Int)) (p' : D), (k ≤ fs.length ∧ fs.length ≤ 6 ∧ ∀ f ∈ fs, okP f) ∧ PenOk p' ∧ r = ((.dat, .tup (fs.map prD)), [p', .non]) := by
  obtain ⟨m, rfl, hm⟩ := succ_of hn
  rw [C__law_folk]
  simp -implicitDefEqProofs [-post_ok, runF, b__law_folk, startD]
  obtain ⟨_, e, x, p1, hx, hp1, rfl⟩ := sp_draw (n := m) (k := 7 - k) hp (by omega) (by omega) (by omega)
  have ei : (((7 - k : Nat)) : Int) = 7 - (k : Int) := by omega
  rw [ei] at e
  refine p_ix (List.range (k + x)) (fun i => D.int (i : Int)) (folkK k) (xs := [(.dat, .int ((k : Int) + (x : Int)))]) (ds := [.int ((k : Int) + (x : Int))]) (σ1 := [some (.ino, p1), some (.dat, .int (k : Int)), some (.own, .lst []), none, none, none]) (by simp [e]) (by rfl) (by simp) ?_ ⟨[], p1, none, none, none, rfl, (fun _ z => nomatch z), hp1, rfl⟩ ?_ ?_
  · have := wk_rng1 (n := k + x) (by omega)
    rw [show (((k + x : Nat)) : Int) = (k : Int) + (x : Int) by omega] at this
    exact this
  · rintro i a σ hi ⟨fs, q, x3, x4, x5, hl, hf, hq, rfl⟩
    obtain ⟨hlt, rfl⟩ := g_range hi
    simp -implicitDefEqProofs [-post_ok, lRound, setT]
    refine p_draw 40 rfl hq (by decide) (by decide) (by omega) fun y1 q1 hy1 hq1 => ?_
    simp -implicitDefEqProofs [-post_ok]
    refine p_draw 9 rfl hq1 (by decide) (by decide) (by omega) fun y2 q2 hy2 hq2 => ?_
    simp -implicitDefEqProofs [-post_ok]
    refine p_draw 9000 rfl hq2 (by decide) (by decide) (by omega) fun y8 q8 hy8 hq8 => ?_
    simp -implicitDefEqProofs [-post_ok]
    refine p_draw 5 rfl hq8 (by decide) (by decide) (by omega) fun y3 q3 hy3 hq3 => ?_
    have fd : binD .fdiv (.int (y3 : Int)) (.int 2) = .ok (.dat, .int ((y3 / 2 : Nat) : Int)) := by rw [fdiv_ii (by decide) (by decide)]; rfl
    have e : ∃ z : Int, -9999 ≤ z ∧ z ≤ 9998 ∧ L2.atI [D.int (0 - (y1 : Int)), .int (y2 : Int), .int ((y8 : Int) - 4000)] ((y3 / 2 : Nat) : Int) = some (.int z) := by
      rw [atI_nat]
      have : y3 / 2 < 3 := by omega
      match y3 / 2, this with
      | 0, _ => exact ⟨_, by omega, by omega, rfl⟩
      | 1, _ => exact ⟨_, by omega, by omega, rfl⟩
      | 2, _ => exact ⟨_, by omega, by omega, rfl⟩
    obtain ⟨z, hz1, hz2, e⟩ := e
    rw [Int.zero_sub] at e
    generalize ((y3 / 2 : Nat) : Int) = w3 at *
    simp -implicitDefEqProofs [-post_ok, fd, e]
    refine p_draw 60 rfl hq3 (by decide) (by decide) (by omega) fun y4 q4 hy4 hq4 => ?_
    simp -implicitDefEqProofs [-post_ok]
    refine p_draw 9999 rfl hq4 (by decide) (by decide) (by omega) fun y5 q5 hy5 hq5 => ?_
    simp -implicitDefEqProofs [-post_ok]
    refine p_draw 2 rfl hq5 (by decide) (by decide) (by omega) fun y6 q6 hy6 hq6 => ?_
    have e : ∃ u : Nat, u ≤ 9999 ∧ L2.atI [D.int (y4 : Int), .int (y5 : Int)] (y6 : Int) = some (.int (u : Int)) := by
      rw [atI_nat]
      match y6, hy6 with
      | 0, _ => exact ⟨y4, by omega, rfl⟩
      | 1, _ => exact ⟨y5, by omega, rfl⟩
    obtain ⟨u, hu, e⟩ := e
    simp -implicitDefEqProofs [-post_ok, e]
    refine p_draw 2 rfl hq6 (by decide) (by decide) (by omega) fun y7 q7 hy7 hq7 => ?_
    generalize hw : (if z + 1 + (u : Int) < 9999 then z + 1 + (u : Int) else 9999) = w
    have hw1 : z < w ∧ w ≤ 9999 := by
      rw [← hw]
      split <;> omega
    have e : ∃ v : Option Int, okP (z, v) ∧ L2.atI [D.non, .int w] (y7 : Int) = some (diedD v) := by
      rw [atI_nat]
      match y7, hy7 with
      | 0, _ => exact ⟨none, ⟨hz1, hz2, fun d h => nomatch h⟩, rfl⟩
      | 1, _ => exact ⟨some w, ⟨hz1, hz2, fun d h => by cases h; exact hw1⟩, rfl⟩
    obtain ⟨v, hv, e⟩ := e
    have ma := mu_app (ds := fs.map prD) (x := prD (z, v)) (by rw [List.length_map]; omega)
    have ma : mutD .append (.lst (fs.map prD)) [.tup [.int z, diedD v]] = .ok (.non, .lst (fs.map prD ++ [prD (z, v)])) := ma
    generalize diedD v = vd at e ma
    simp -implicitDefEqProofs [-post_ok, e, ma]
    refine post_ok.mpr ⟨.inl rfl, fs ++ [(z, v)], q7, some _, some _, some _, by simp [hl], fun f hf2 => ?_, hq7, by rw [List.map_append]; rfl⟩
    rcases List.mem_append.mp hf2 with h | h
    · exact hf f h
    · cases List.mem_singleton.mp h
      exact hv
  · rintro σ' ⟨fs, q, x3, x4, x5, hl, hf, hq, rfl⟩
    rw [List.length_range] at hl
    simp -implicitDefEqProofs [-post_ok]
    exact post_ok.mpr ⟨fs, ⟨by omega, by omega, fun a b h => hf (a, b) h⟩, q, hq, rfl⟩
def bookK (nf step shift : Nat) (s1 s5 : Sl) (i : Nat) (σ : Sg) : Prop := ∃ (es : List En) (q : D) (x3 x4 x10 : Option D), es.length = i ∧ OkB nf es ∧ (∀ x ∈ es, x.num + step ≤ i * step + shift) ∧ PenOk q ∧ (es = [] ∨ dds es ≠ []) ∧
  σ = [some (.ino, q), s1, some (.dat, .int (shift : Int)), dS x3, dS x4, s5, some (.dat, .int (step : Int)), some (.own, .lst ((dds es).map nI)), some (.own, .lst ((acs es).map nI)), some (.own, .lst (es.map enD)), dS x10]
theorem sp_book2 {n : Nat} {p : D} (most : Nat) (h16 : most ≤ 16) (hp : PenOk p) (hn : 6 ≤ n) : ((TT n).C i__law_book [(.ino, p), (.dat, .int (most : Int))]).post fun r => ∃ (fs : List (Int × Option Int)) (age : Nat) (es : List En) (o : List D) (p' : D),
      ((2 ≤ fs.length ∧ fs.length ≤ 6 ∧ ∀ f ∈ fs, okP f) ∧ age < 10000 ∧ OkB fs.length es ∧ es.length ≤ most ∧ o.Perm (es.map enD)) ∧ PenOk p' ∧ r = ((.dat, .tup [.tup (fs.map prD), .int (age : Int), .tup o]), [p', .non]) := by
  obtain ⟨m, rfl, hm⟩ := succ_of hn
  rw [C__law_book]
  simp -implicitDefEqProofs [-post_ok, runF, b__law_book, startD]
  refine post_bind (sp_folk2 (n := m) 2 (by decide) (by decide) hp (by omega)) ?_
  rintro _ ⟨fs, p1, hfs, hp1, rfl⟩
  simp -implicitDefEqProofs [-post_ok]
  refine p_draw 2 rfl hp1 (by decide) (by decide) (by omega) fun st p2 hst hp2 => ?_
  simp -implicitDefEqProofs [-post_ok]
  refine p_draw 15 rfl hp2 (by decide) (by decide) (by omega) fun sh p3 hsh hp3 => ?_
  obtain ⟨step, shift, hs1, hs2, hs3, es1, ec, em⟩ : ∃ step shift : Nat, 1 ≤ step ∧ step ≤ 2 ∧ (step = 2 → shift = 0) ∧ (1 : Int) + (st : Int) = (step : Int) ∧ (∃ c : Bool, cmpD .eq (.int (step : Int)) (.int 1) = .ok c ∧ binD .mul (.int (sh : Int)) (.int (if c = true then 1 else 0)) = .ok (.dat, .int (shift : Int))) ∧ shift ≤ 14 := by
    match st, hst with
    | 0, _ => exact ⟨1, sh, by omega, by omega, by omega, rfl, ⟨true, rfl, by rw [mul_ii (by simp; left; unfold small; simp; omega)]; simp⟩, by omega⟩
    | 1, _ => exact ⟨2, 0, by omega, by omega, by omega, rfl, ⟨false, rfl, by rw [mul_ii (by simp; left; unfold small; simp; omega)]; simp⟩, by omega⟩
  obtain ⟨c, ec1, ec2⟩ := ec
  rw [es1]
  simp -implicitDefEqProofs [-post_ok, ec1, ec2]
  obtain ⟨_, e, x, p4, hx, hp4, rfl⟩ := sp_draw (n := m) (k := most + 1) hp3 (by omega) (by omega) (by omega)
  have ei : (((most + 1 : Nat)) : Int) = (most : Int) + 1 := by omega
  rw [ei] at e
  refine p_ix (List.range x) (fun i => D.int (i : Int)) (bookK fs.length step shift (some (.dat, .int (most : Int))) (some (.dat, .tup (fs.map prD)))) (xs := [(.dat, .int (x : Int))]) (ds := [.int (x : Int)]) (σ1 := [some (.ino, p4), some (.dat, .int (most : Int)), some (.dat, .int (shift : Int)), none, none, some (.dat, .tup (fs.map prD)), some (.dat, .int (step : Int)), some (.own, .lst []), some (.own, .lst []), some (.own, .lst []), none]) (by simp [e]) (by rfl) (by simp) (wk_rng1 (by omega))
    ⟨[], p4, none, none, none, rfl, .nil, (fun _ h => nomatch h), hp4, .inl rfl, rfl⟩ ?_ ?_
  · rintro i a σ hi ⟨es, q, x3, x4, x10, hl, hB, hlt, hq, hne, rfl⟩
    obtain ⟨hix, rfl⟩ := g_range hi
    have d1 := dds_len (es := es)
    have d2 := acs_len (es := es)
    have n30 : i * step + shift ≤ 30 := by
      have : step = 1 ∨ step = 2 := by omega
      rcases this with h | h
      · subst h; omega
      · have := hs3 h
        subst h; omega
    have nu : binD .mul (.int (i : Int)) (.int (step : Int)) = .ok (.dat, .int ((i * step : Nat) : Int)) := by
      rw [mul_ii (by simp; left; unfold small; simp; omega)]
      simp
    have nu2 : binD .add (.int ((i * step : Nat) : Int)) (.int (shift : Int)) = .ok (.dat, .int ((i * step + shift : Nat) : Int)) := by
      show R.ok (Fl.dat, D.int (((i * step : Nat) : Int) + (shift : Int))) = _
      rw [Int.natCast_add]
    have lts : ∀ y ∈ es, y.num < i * step + shift := fun y hy => by have := hlt y hy; omega
    have nx : i * step + shift + step ≤ (i + 1) * step + shift := by rw [Nat.succ_mul]; omega
    have nle : i * step ≤ (i + 1) * step := Nat.mul_le_mul_right _ (by omega)
    have nlt : ∀ y ∈ es, y.num + step ≤ (i + 1) * step + shift := fun y hy => by have := hlt y hy; omega
    have eN : (i : Int) * (step : Int) + (shift : Int) = ((i * step + shift : Nat) : Int) := by rw [Int.natCast_add, Int.natCast_mul]
    generalize hN : i * step + shift = N at *
    have ed := g_nil (l := dds es)
    have fin : ∀ (e : En), e.num = N → OkE fs.length (dds es) (acs es) e → OkB fs.length (es ++ [e]) ∧ (∀ y ∈ es ++ [e], y.num + step ≤ (i + 1) * step + shift) := fun e he hok => by
      refine ⟨hB.app (fun y hy => by rw [he]; exact lts y hy) (by omega) hok, fun y hy => ?_⟩
      rcases List.mem_append.mp hy with hy | hy
      · exact nlt y hy
      · rw [List.mem_singleton.mp hy, he]; exact nx
    have deed : ∀ (e : En) (q2 : D), PenOk q2 → e.num = N → e.word = 0 → OkE fs.length (dds es) (acs es) e → ∃ le, enD e = le ∧ mutD .append (.lst (es.map enD)) [le] = .ok (.non, .lst ((es ++ [e]).map enD)) ∧ mutD .append (.lst ((dds es).map nI)) [.int (N : Int)] = .ok (.non, .lst ((dds (es ++ [e])).map nI)) ∧ acs (es ++ [e]) = acs es := fun e q2 hq2 he hw hok => by
      have ma := mu_app (ds := es.map enD) (x := enD e) (by rw [List.length_map]; omega)
      have m2 := mu_app (ds := (dds es).map nI) (x := nI N) (by rw [List.length_map]; omega)
      have hd := dds_app (es := es) (e := e)
      have hc := acs_app (es := es) (e := e)
      rw [if_pos hw, he] at hd
      rw [if_pos hw, List.append_nil] at hc
      refine ⟨_, rfl, by rw [ma, List.map_append]; rfl, ?_, hc⟩
      rw [hd, List.map_append]
      exact m2
    have act : ∀ (e : En) (q2 : D), PenOk q2 → e.num = N → e.word ≠ 0 → OkE fs.length (dds es) (acs es) e → ∃ le, enD e = le ∧ mutD .append (.lst (es.map enD)) [le] = .ok (.non, .lst ((es ++ [e]).map enD)) ∧ mutD .append (.lst ((acs es).map nI)) [.int (N : Int)] = .ok (.non, .lst ((acs (es ++ [e])).map nI)) ∧ dds (es ++ [e]) = dds es := fun e q2 hq2 he hw hok => by
      have ma := mu_app (ds := es.map enD) (x := enD e) (by rw [List.length_map]; omega)
      have m2 := mu_app (ds := (acs es).map nI) (x := nI N) (by rw [List.length_map]; omega)
      have hd := dds_app (es := es) (e := e)
      have hc := acs_app (es := es) (e := e)
      rw [if_neg hw, List.append_nil] at hd
      rw [if_neg hw, he] at hc
      refine ⟨_, rfl, by rw [ma, List.map_append]; rfl, ?_, hd⟩
      rw [hc, List.map_append]
      exact m2
    simp -implicitDefEqProofs [-post_ok, lRound, setT, nu, nu2, eN]
    cases qd : (dds es).isEmpty with
    | true =>
      rw [qd] at ed
      simp -implicitDefEqProofs [-post_ok, ed]
      refine post_bind (sp_deed2 (n := m) (fs := fs.map prD) (num := N) (l := dds es) (acts := acs es) (.inr rfl) hq (by rw [List.length_map]; exact hfs.1) (by rw [List.length_map]; exact hfs.2.1) hB.ndd (by omega) (by omega)) ?_
      rintro _ ⟨e, q1, ⟨he, hw, hok⟩, hq1, rfl⟩
      rw [List.length_map] at hok
      obtain ⟨le, e1, e2, e3, e4⟩ := deed e q1 hq1 he hw hok
      obtain ⟨f1, f2⟩ := fin e he hok
      rw [e1]
      simp -implicitDefEqProofs [-post_ok, e2, e3]
      refine post_ok.mpr ⟨.inl rfl, es ++ [e], q1, some _, x4, some _, by simp [hl], f1, f2, hq1, .inr ?_, by rw [e4, List.map_append]; rfl⟩
      rw [dds_app, if_pos hw]; simp
    | false =>
      rw [qd] at ed
      simp -implicitDefEqProofs [-post_ok, ed]
      refine p_draw 5 rfl hq (by decide) (by decide) (by omega) fun y q0 hy hq0 => ?_
      by_cases h2 : (y : Int) < 2
      · simp -implicitDefEqProofs [-post_ok, h2]
        refine post_bind (sp_deed2 (n := m) (fs := fs.map prD) (num := N) (l := dds es) (acts := acs es) (.inr rfl) hq0 (by rw [List.length_map]; exact hfs.1) (by rw [List.length_map]; exact hfs.2.1) hB.ndd (by omega) (by omega)) ?_
        rintro _ ⟨e, q1, ⟨he, hw, hok⟩, hq1, rfl⟩
        rw [List.length_map] at hok
        obtain ⟨le, e1, e2, e3, e4⟩ := deed e q1 hq1 he hw hok
        obtain ⟨f1, f2⟩ := fin e he hok
        rw [e1]
        simp -implicitDefEqProofs [-post_ok, e2, e3]
        refine post_ok.mpr ⟨.inl rfl, es ++ [e], q1, some _, x4, some _, by simp [hl], f1, f2, hq1, .inr ?_, by rw [e4, List.map_append]; rfl⟩
        rw [dds_app, if_pos hw]; simp
      · simp -implicitDefEqProofs [-post_ok, h2]
        have ne : dds es ≠ [] := fun z => by rw [z] at qd; cases qd
        refine post_bind (sp_act2 (n := m) (nf := fs.length) (num := N) (l := dds es) (a := acs es) hq0 ne (by omega) (by omega) (by omega)) ?_
        rintro _ ⟨e, q1, ⟨he, hw, hok⟩, hq1, rfl⟩
        obtain ⟨le, e1, e2, e3, e4⟩ := act e q1 hq1 he hw hok
        obtain ⟨f1, f2⟩ := fin e he hok
        rw [e1]
        simp -implicitDefEqProofs [-post_ok, e2, e3]
        refine post_ok.mpr ⟨.inl rfl, es ++ [e], q1, some _, x4, some _, by simp [hl], f1, f2, hq1, .inr (by rw [e4]; exact ne), by rw [e4, List.map_append]; rfl⟩
  · rintro σ' ⟨es, q, x3, x4, x10, hl, hB, hlt, hq, hne, rfl⟩
    rw [List.length_range] at hl
    simp -implicitDefEqProofs [-post_ok]
    refine p_draw 30 rfl hq (by decide) (by decide) (by omega) fun a1 q1 ha1 hq1 => ?_
    simp -implicitDefEqProofs [-post_ok]
    refine p_draw 10000 rfl hq1 (by decide) (by decide) (by omega) fun a2 q2 ha2 hq2 => ?_
    simp -implicitDefEqProofs [-post_ok]
    refine p_draw 3 rfl hq2 (by decide) (by decide) (by omega) fun a3 q3 ha3 hq3 => ?_
    have e : ∃ z : Nat, z < 10000 ∧ L2.atI [D.int 0, .int (a1 : Int), .int (a2 : Int)] (a3 : Int) = some (.int (z : Int)) := by
      rw [atI_nat]
      match a3, ha3 with
      | 0, _ => exact ⟨0, by omega, rfl⟩
      | 1, _ => exact ⟨a1, by omega, rfl⟩
      | 2, _ => exact ⟨a2, by omega, rfl⟩
    obtain ⟨age, hage, e⟩ := e
    simp -implicitDefEqProofs [-post_ok, e]
    refine post_bind (sp_mixedD (n := m) (ds := es.map enD) (.inr (.inr rfl)) hq3 (by rw [List.length_map]; omega) (by omega)) ?_
    rintro _ ⟨o, q4, ho, hq4, rfl⟩
    simp -implicitDefEqProofs [-post_ok]
    exact post_ok.mpr ⟨fs, age, es, o, ⟨⟨hfs.1, hfs.2.1, fun a b h => hfs.2.2 (a, b) h⟩, hage, hB, by omega, ho⟩, q4, hq4, rfl⟩
end K
namespace K
open PySem DD
/-- why a person could be no witness on a day: 0 not at all, 1 unborn, 2 dead, 3 young -/
def ddB (x : Option Int) (d : Int) : Bool := match x with
  | some y => decide (y ≤ d)
  | none => false
def fW (f : Int × Option Int) (d age : Int) : Nat := if d < f.1 then 1 else if ddB f.2 d = true then 2 else if d - f.1 < age then 3 else 0
def fS : Nat → Str
  | 1 => "unborn"
  | 2 => "dead"
  | 3 => "young"
  | _ => ""
/-- as the program tells it -/
def fP : Nat → D
  | 0 => .non
  | n => .str (fS n)
theorem fW_le (f : Int × Option Int) (d age : Int) : fW f d age ≤ 3 := by
  unfold fW
  by_cases h1 : d < f.1
  · rw [if_pos h1]; decide
  · rw [if_neg h1]
    by_cases h2 : ddB f.2 d = true
    · rw [if_pos h2]; decide
    · rw [if_neg h2]
      by_cases h3 : d - f.1 < age
      · rw [if_pos h3]; decide
      · rw [if_neg h3]; decide
theorem died_non (x : Option Int) : nonD (diedD x) = x.isNone := by cases x <;> rfl
theorem sp_fault_of {n : Nat} {f : Int × Option Int} {d age : Int} (hn : 1 ≤ n) : (TT n).C i_fault_of [(.dat, prD f), (.dat, .int d), (.dat, .int age)] = .ok ((.dat, fP (fW f d age)), [.non, .non, .non]) := by
  obtain ⟨m, rfl, hm⟩ := succ_of hn
  obtain ⟨b, x⟩ := f
  rw [C_fault_of]
  have nn := isnot_non (d := diedD x)
  have le : ∀ y : Int, x = some y → cmpD .le (diedD x) (.int d) = .ok (decide (y ≤ d)) := fun y e => by rw [e]; rfl
  rw [died_non] at nn
  unfold fW
  show runF (TT m) ⟨3, 5, b_fault_of⟩ [(.dat, .tup [.int b, diedD x]), _, _] = _
  by_cases h1 : d < b
  · rw [if_pos h1]
    simp -implicitDefEqProofs [runF, b_fault_of, startD, setT, h1]
    rfl
  · rw [if_neg h1]
    cases x with
    | none =>
      by_cases h3 : d - b < age
      · rw [if_neg (show ¬ (ddB none d = true) from nofun), if_pos h3]
        have nn : cmpD .isnot .non .non = .ok false := rfl
        simp -implicitDefEqProofs [runF, b_fault_of, startD, setT, h1, h3, nn, diedD]
        rfl
      · rw [if_neg (show ¬ (ddB none d = true) from nofun), if_neg h3]
        have nn : cmpD .isnot .non .non = .ok false := rfl
        simp -implicitDefEqProofs [runF, b_fault_of, startD, setT, h1, h3, nn, diedD]
        rfl
    | some y =>
      have nn : cmpD .isnot (.int y) .non = .ok true := rfl
      by_cases h2 : y ≤ d
      · rw [if_pos (show ddB (some y) d = true from decide_eq_true h2)]
        simp -implicitDefEqProofs [runF, b_fault_of, startD, setT, h1, h2, nn, diedD]
        rfl
      · rw [if_neg (show ¬ (ddB (some y) d = true) by show ¬ (decide (y ≤ d) = true); rw [decide_eq_false h2]; decide)]
        by_cases h3 : d - b < age
        · rw [if_pos h3]
          simp -implicitDefEqProofs [runF, b_fault_of, startD, setT, h1, h2, h3, nn, diedD]
          rfl
        · rw [if_neg h3]
          simp -implicitDefEqProofs [runF, b_fault_of, startD, setT, h1, h2, h3, nn, diedD]
          rfl
theorem sp_lfault {n : Nat} {f : Int × Option Int} {d age : Int} (hn : 1 ≤ n) : (TT n).C i__law_fault [(.dat, prD f), (.dat, .int d), (.dat, .int age)] = .ok ((.dat, .str (fS (fW f d age))), [.non, .non, .non]) := by
  obtain ⟨m, rfl, hm⟩ := succ_of hn
  obtain ⟨b, x⟩ := f
  rw [C__law_fault]
  unfold fW
  show runF (TT m) ⟨3, 5, b__law_fault⟩ [(.dat, .tup [.int b, diedD x]), _, _] = _
  have e : ∀ c : Bool, L2.atI [D.str "", .str "young"] (if c = true then 1 else 0) = some (.str (if c = true then "young" else "")) := fun c => by cases c <;> rfl
  have yo : decide (d < b + age) = decide (d - b < age) := by
    by_cases h : d - b < age
    · rw [decide_eq_true h, decide_eq_true (by omega)]
    · rw [decide_eq_false h, decide_eq_false (by omega)]
  have e := e (decide (d - b < age))
  by_cases h1 : d < b
  · rw [if_pos h1]
    simp -implicitDefEqProofs [runF, b__law_fault, startD, setT, h1]
    rfl
  · rw [if_neg h1]
    cases x with
    | none =>
      have nn : cmpD .isnot .non .non = .ok false := rfl
      rw [if_neg (show ¬ (ddB none d = true) from nofun)]
      by_cases h3 : d - b < age
      · rw [if_pos h3]
        rw [decide_eq_true h3] at yo e
        simp -implicitDefEqProofs [runF, b__law_fault, startD, setT, h1, yo, e, nn, diedD]
        rfl
      · rw [if_neg h3]
        rw [decide_eq_false h3] at yo e
        simp -implicitDefEqProofs [runF, b__law_fault, startD, setT, h1, yo, e, nn, diedD]
        rfl
    | some y =>
      have nn : cmpD .isnot (.int y) .non = .ok true := rfl
      by_cases h2 : y ≤ d
      · rw [if_pos (show ddB (some y) d = true from decide_eq_true h2)]
        simp -implicitDefEqProofs [runF, b__law_fault, startD, setT, h1, h2, nn, diedD]
        rfl
      · rw [if_neg (show ¬ (ddB (some y) d = true) by show ¬ (decide (y ≤ d) = true); rw [decide_eq_false h2]; decide)]
        by_cases h3 : d - b < age
        · rw [if_pos h3]
          rw [decide_eq_true h3] at yo e
          simp -implicitDefEqProofs [runF, b__law_fault, startD, setT, h1, h2, yo, e, nn, diedD]
          rfl
        · rw [if_neg h3]
          rw [decide_eq_false h3] at yo e
          simp -implicitDefEqProofs [runF, b__law_fault, startD, setT, h1, h2, yo, e, nn, diedD]
          rfl
end K
namespace K
open PySem DD
def fAt (fs : List (Int × Option Int)) (w : Nat) (d age : Int) : Nat := match fs[w]? with
  | some f => fW f d age
  | none => 0
/-- a fault told -/
def ftD (num w c : Nat) : D := .tup [nI num, nI w, .str (fS c)]
/-- those of an entry -/
def ftL (fs : List (Int × Option Int)) (age : Int) (e : En) : List D := (e.wits.filter fun w => decide (fAt fs w e.day age ≠ 0)).map fun w => ftD e.num w (fAt fs w e.day age)
def ftE (fs : List (Int × Option Int)) (age : Int) (e : En) : List D := if e.word = 0 then ftL fs age e else []
theorem fS_eq {c : Nat} (h : c ≤ 3) : cmpD .eq (.str (fS c)) (.str "") = .ok (decide (c = 0)) := by
  match c, h with
  | 0, _ => rw [eq_ss (by decide +kernel) (by decide +kernel), decide_eq_true (by decide +kernel)]; rfl
  | 1, _ => rw [eq_ss (by decide +kernel) (by decide +kernel), decide_eq_false (by decide +kernel)]; rfl
  | 2, _ => rw [eq_ss (by decide +kernel) (by decide +kernel), decide_eq_false (by decide +kernel)]; rfl
  | 3, _ => rw [eq_ss (by decide +kernel) (by decide +kernel), decide_eq_false (by decide +kernel)]; rfl
theorem fS_ne {c : Nat} (h : c ≤ 3) : cmpD .ne (.str (fS c)) (.str "") = .ok (decide (c ≠ 0)) := by
  show (cmpD .eq (.str (fS c)) (.str "") >>= fun b => R.ok (!b)) = _
  rw [fS_eq h]
  show R.ok (!decide (c = 0)) = _
  by_cases z : c = 0
  · rw [decide_eq_true z, decide_eq_false (fun q => q z)]; rfl
  · rw [decide_eq_false z, decide_eq_true z]; rfl
theorem fP_non {c : Nat} : nonD (fP c) = decide (c = 0) := by
  cases c <;> rfl
theorem fAt_le (fs : List (Int × Option Int)) (w : Nat) (d age : Int) : fAt fs w d age ≤ 3 := by
  unfold fAt
  split
  · exact fW_le _ _ _
  · omega
theorem fm_filt {α β : Type} (p : α → Bool) (f : α → β) : ∀ l : List α, (l.filterMap fun a => if p a then some (f a) else none) = (l.filter p).map f
  | [] => rfl
  | a :: l => by
    cases h : p a with
    | true => rw [List.filterMap_cons_some (by rw [h]; rfl), List.filter_cons, h, if_pos rfl, List.map_cons, fm_filt p f l]
    | false => rw [List.filterMap_cons_none (by rw [h]; rfl), List.filter_cons, h, if_neg (by decide), fm_filt p f l]
theorem fm_id {α β : Type} (f : α → β) : ∀ l : List α, (l.filterMap fun a => some (f a)) = l.map f
  | [] => rfl
  | a :: l => by
    have := fm_id f l
    simp only [List.filterMap_cons, List.map_cons, this]
/-- what is told of an entry -/
structure EnF (nf : Nat) (e : En) : Prop where
  word : e.word ≤ 3
  wits : e.word = 0 → e.wits.length ≤ 3 ∧ ∀ w ∈ e.wits, w < nf
theorem OkB.enf {nf : Nat} {es : List En} (h : OkB nf es) {e : En} (he : e ∈ es) : EnF nf e := by
  obtain ⟨i, hi⟩ := List.mem_iff_getElem?.mp he
  have := h.ok i e hi
  exact ⟨this.word, fun z => ⟨(this.deed z).2.2.2.1, fun w hw => ((this.deed z).2.2.2.2 w hw).1⟩⟩
theorem at_folk {fs : List (Int × Option Int)} {w : Nat} (h : w < fs.length) (d age : Int) : ∃ f, L2.atI (fs.map prD) (w : Int) = some (prD f) ∧ fAt fs w d age = fW f d age := by
  refine ⟨fs[w], g_at h, ?_⟩
  unfold fAt
  rw [List.getElem?_eq_getElem h]
theorem eD_deed {e : En} (h : e.word = 0) : enD e = .tup [nI e.num, nI e.day, nI e.wr, nI e.hand, .str "deed", nI e.a, nI e.b, .tup (e.rests.map nI), .tup (e.wits.map nI)] := by
  unfold enD tailD
  rw [if_pos h, h]; rfl
theorem eD_act {e : En} (h : e.word ≠ 0) (h3 : e.word ≤ 3) : ∃ s : Str, enD e = .tup [nI e.num, nI e.day, nI e.wr, nI e.hand, .str s, nI e.a] ∧ cmpD .eq (.str s) (.str "deed") = .ok false := by
  refine ⟨wS e.word, by unfold enD tailD; rw [if_neg h], ?_⟩
  match e.word, h, h3 with
  | 1, _, _ => rw [eq_ss (by decide +kernel) (by decide +kernel), decide_eq_false (by decide +kernel)]
  | 2, _, _ => rw [eq_ss (by decide +kernel) (by decide +kernel), decide_eq_false (by decide +kernel)]
  | 3, _, _ => rw [eq_ss (by decide +kernel) (by decide +kernel), decide_eq_false (by decide +kernel)]
section
variable {n : Nat} {fs : List (Int × Option Int)} {age : Int}
/-- a row of a deed's witnesses, as the program has it -/
def rwP (fs : List (Int × Option Int)) (age : Int) (e : En) (w : Nat) : D := .tup [nI e.num, nI w, fP (fAt fs w e.day age)]
def rwL (fs : List (Int × Option Int)) (age : Int) (e : En) (w : Nat) : D := .tup [nI e.num, nI w, .str (fS (fAt fs w e.day age))]
theorem rwFt {e : En} : (e.wits.filterMap fun w => if decide (fAt fs w e.day age ≠ 0) then some (rwP fs age e w) else none) = ftL fs age e := by
  unfold ftL
  rw [← fm_filt]
  refine congrArg (fun f => List.filterMap f e.wits) (funext fun w => ?_)
  unfold rwP ftD
  cases fAt fs w e.day age with
  | zero => rfl
  | succ c => rfl
theorem rowL {e : En} : (e.wits.filterMap fun w => if decide (fAt fs w e.day age ≠ 0) then some (rwL fs age e w) else none) = ftL fs age e := by
  rw [fm_filt]; rfl
def fI (fs : List (Int × Option Int)) (age : Int) (us : List En) (s0 s3 s4 s5 : Sl) (i : Nat) (σ : Sg) : Prop := ∃ (x2 : Option D) (y6 : Sl), overS y6 = true ∧ σ = [s0, some (.own, .lst ((us.take i).flatMap (ftE fs age))), dS x2, s3, s4, s5, y6, none, none]
theorem sp_faults {A : D} {us : List En} (hA : A = .int age) (hu : ∀ e ∈ us, EnF fs.length e) (hl : us.length ≤ 16) (hn : 2 ≤ n) (hs : (alkB (us.flatMap (ftE fs age)) && srtB (us.flatMap (ftE fs age))) = true) :
    (TT n).C i_faults_of [(.dat, .tup [.tup (fs.map prD), A, .tup (us.map enD)])] = .ok ((.own, .lst (sortAD (us.flatMap (ftE fs age)))), [.non]) := by
  subst hA
  obtain ⟨m, rfl, hm⟩ := succ_of hn
  rw [C_faults_of]
  simp -implicitDefEqProofs [runF, b_faults_of, startD, setT]
  refine b_ix us enD (fI fs age us (some (.dat, .tup [.tup (fs.map prD), .int age, .tup (us.map enD)])) (some (.dat, .tup (fs.map prD))) (some (.dat, .int age)) (some (.dat, .tup (us.map enD)))) (xs := [(.dat, .tup (us.map enD))]) (ds := [.tup (us.map enD)]) (σ1 := [some (.dat, .tup [.tup (fs.map prD), .int age, .tup (us.map enD)]), some (.own, .lst []), none, some (.dat, .tup (fs.map prD)), some (.dat, .int age), some (.dat, .tup (us.map enD)), none, none, none]) (by simp) (by rfl) (by simp) wk_seqT ⟨none, none, rfl, rfl⟩ ?_ ?_
  · rintro i e σ hi ⟨x2, y6, h6, rfl⟩
    have he := List.mem_of_getElem? hi
    have hf := hu e he
    have il : i < us.length := (List.getElem?_eq_some_iff.mp hi).1
    have tk : (us.take (i + 1)).flatMap (ftE fs age) = (us.take i).flatMap (ftE fs age) ++ ftE fs age e := by
      rw [List.take_succ, hi, Option.toList, List.flatMap_append]
      simp
    have l2 : ∀ x ∈ us, (ftE fs age x).length ≤ 3 := fun x hx => by
      unfold ftE
      by_cases z : x.word = 0
      · rw [if_pos z]
        unfold ftL
        rw [List.length_map]
        exact Nat.le_trans (List.length_filter_le _ _) ((hu x hx).wits z).1
      · rw [if_neg z]; exact Nat.zero_le _
    have l1 : ((us.take i).flatMap (ftE fs age)).length ≤ 3 * i := by
      have : ∀ l : List En, (∀ x ∈ l, (ftE fs age x).length ≤ 3) → (l.flatMap (ftE fs age)).length ≤ 3 * l.length := by
        intro l
        induction l with
        | nil => intro _; exact Nat.zero_le _
        | cons x l ih =>
          intro h
          rw [List.flatMap_cons, List.length_append, List.length_cons]
          have a := h x List.mem_cons_self
          have b := ih fun y hy => h y (List.mem_cons_of_mem _ hy)
          omega
      have t := this (us.take i) fun x hx => l2 x (List.mem_of_mem_take hx)
      rw [List.length_take] at t
      omega
    have l2 := l2 e he
    generalize hFL : (us.take i).flatMap (ftE fs age) = FL at *
    by_cases hw : e.word = 0
    · have dq : cmpD .eq (.str "deed") (.str "deed") = .ok true := by rw [eq_ss (by decide +kernel) (by decide +kernel), decide_eq_true rfl]
      rw [eD_deed hw]
      simp -implicitDefEqProofs [-post_ok, lRound, setT, dq]
      refine p_cmap e.wits nI (fun w => some (rwP fs age e w)) (xs := [(.dat, .tup (e.wits.map nI))]) (ds := [.tup (e.wits.map nI)]) (by simp) (by simp) (by simp) (by simp) wk_seqT ?_ (by simp) ?_
      · intro w hww
        obtain ⟨f, a1, a2⟩ := at_folk ((hf.wits hw).2 w hww) e.day age
        have sf := sp_fault_of (n := m) (f := f) (d := e.day) (age := age) hm
        simp -implicitDefEqProofs [cRound, setT, a1, sf, nI, rwP, a2]
      · rw [fm_id]
        have ex := mu_ext (ds := FL) (xs := ftL fs age e) (by unfold ftE at l2; rw [if_pos hw] at l2; omega)
        have tk2 : ftE fs age e = ftL fs age e := if_pos hw
        simp -implicitDefEqProofs [-post_ok, h6]
        refine p_cmap e.wits (rwP fs age e) (fun w => if decide (fAt fs w e.day age ≠ 0) then some (rwP fs age e w) else none) (xs := [(.brw, .lst (e.wits.map (rwP fs age e)))]) (ds := [.lst (e.wits.map (rwP fs age e))]) (by simp) (by simp) (by simp) (by simp) wk_seqL ?_ (by simp) ?_
        · intro w hww
          have nn := isnot_non (d := fP (fAt fs w e.day age))
          rw [fP_non] at nn
          unfold rwP
          by_cases z : fAt fs w e.day age = 0
          · rw [decide_eq_true z] at nn
            rw [if_neg (by rw [decide_eq_false (fun q => q z)]; decide)]
            simp -implicitDefEqProofs [cRound, setT, nn]
          · rw [decide_eq_false z] at nn
            rw [if_pos (decide_eq_true z)]
            simp -implicitDefEqProofs [cRound, setT, nn]
        · rw [rwFt]
          simp -implicitDefEqProofs [-post_ok, ex]
          exact post_ok.mpr ⟨.inl rfl, some _, _, rfl, by rw [tk, tk2]; rfl⟩
    · obtain ⟨s, e1, e2⟩ := eD_act hw hf.word
      rw [e1]
      have tk2 : ftE fs age e = [] := if_neg hw
      simp -implicitDefEqProofs [-post_ok, lRound, setT, e2]
      exact post_ok.mpr ⟨.inl rfl, some _, y6, h6, by rw [tk, tk2, List.append_nil]; rfl⟩
  · rintro σ' ⟨x2, y6, h6, rfl⟩
    rw [List.take_length]
    have so : bifD .sortA [.lst (us.flatMap (ftE fs age))] = .ok (.own, .lst (sortAD (us.flatMap (ftE fs age)))) := if_pos hs
    simp -implicitDefEqProofs [so]
end
end K
namespace K
open PySem DD
theorem ft_toP {a b c : Nat} : toP (ftD a b c) = some (.tuple [.int a, .int b, .str (fS c)]) := by
  unfold ftD nI
  simp [toP, toPs]
theorem ft_alk {L : List D} (h : ∀ d ∈ L, ∃ a b c, d = ftD a b c) : (alkB L && srtB L) = true := by
  have e : ∀ d ∈ L, ∃ (a b c : Nat), toP d = some (.tuple [.int a, .int b, .str (fS c)]) ∧ pD d = .tuple [.int a, .int b, .str (fS c)] ∧ d = ftD a b c := fun d hd => by
    obtain ⟨a, b, c, rfl⟩ := h d hd
    exact ⟨a, b, c, ft_toP, by unfold pD; rw [ft_toP]; rfl, rfl⟩
  rw [Bool.and_eq_true]
  constructor
  · refine List.all_eq_true.mpr fun x hx => ?_
    obtain ⟨a, b, c, e1, e2, _⟩ := e x hx
    rw [Bool.and_eq_true, Bool.and_eq_true]
    refine ⟨⟨by rw [e1]; rfl, decide_eq_true (by rw [e2]; simp [PyData.depth, PyData.depthAll])⟩, List.all_eq_true.mpr fun y hy => ?_⟩
    obtain ⟨a', b', c', _, e3, _⟩ := e y hy
    rw [e2, e3]
    simp [PySem.W.alike, PySem.W.alikeAll]
  · unfold srtB
    rw [Bool.or_eq_true]
    refine .inl (List.all_eq_true.mpr fun x hx => ?_)
    obtain ⟨a, b, c, _, _, rfl⟩ := e x hx
    rfl
theorem ft_mem {fs : List (Int × Option Int)} {age : Int} {us : List En} : ∀ d ∈ us.flatMap (ftE fs age), ∃ a b c, c ≤ 3 ∧ d = ftD a b c := fun d hd => by
  obtain ⟨e, _, h⟩ := List.mem_flatMap.mp hd
  unfold ftE at h
  split at h
  · obtain ⟨w, _, rfl⟩ := List.mem_map.mp h
    exact ⟨_, _, _, fAt_le _ _ _ _, rfl⟩
  · cases h
theorem ne_okL {t : D} (h : okD 64 t = true) : cmpD .ne t t = .ok false := by
  obtain ⟨b, h1, h2⟩ := eqvD_iff h h
  show (eqvD t t >>= fun b => R.ok (!b)) = _
  rw [h1, h2.mpr rfl]; rfl
theorem ft_ok {a b c : Nat} (h : c ≤ 3) : okD 63 (ftD a b c) = true := by
  refine List.all_eq_true.mpr fun z hz => ?_
  simp only [ftD, List.mem_cons, List.not_mem_nil, or_false] at hz
  rcases hz with rfl | rfl | rfl
  · exact ok_nI
  · exact ok_nI
  · match c, h with
    | 0, _ => decide +kernel
    | 1, _ => decide +kernel
    | 2, _ => decide +kernel
    | 3, _ => decide +kernel
theorem ft_ne {L : List D} (h : ∀ d ∈ L, ∃ a b c, c ≤ 3 ∧ d = ftD a b c) : cmpD .ne (.lst L) (.lst L) = .ok false := ne_okL (List.all_eq_true.mpr fun x hx => by
  obtain ⟨a, b, c, hc, rfl⟩ := h x hx
  exact ft_ok hc)
theorem sp_need {n k : Nat} {t : D} (h : thD k t = true) (hn : 4 ≤ n) : (TT n).C i_need_day [(.dat, t)] = if fromD 0 9999 t = true then .ok ((.dat, .non), [.non]) else .exc ⟨0, none⟩ := by
  obtain ⟨m, rfl, hm⟩ := succ_of hn
  have e := sp_day h hm
  rw [C_need_day]
  cases hb : fromD 0 9999 t with
  | true =>
    rw [hb] at e
    simp -implicitDefEqProofs [runF, b_need_day, startD, e]
  | false =>
    rw [hb] at e
    simp -implicitDefEqProofs [runF, b_need_day, startD, e]
def cwG (d age : Int) (p : (Int × Option Int) × Nat) : Option D := if decide (fW p.1 d age = 0) then some (.int (p.2 : Nat)) else none
def cwL (fs : List (Int × Option Int)) (d age : Int) : List D := fs.zipIdx.filterMap (cwG d age)
def cwN (p : (Int × Option Int) × Nat) : D := .tup [.int (p.2 : Nat), prD p.1]
theorem wk_enuP {fs : List (Int × Option Int)} : wkD .enu [.tup (fs.map prD)] = .ok (fs.zipIdx.map cwN) := by
  show R.ok (enuD (fs.map prD)) = _
  unfold enuD
  rw [List.zipIdx_map, List.map_map]
  rfl
theorem cw_ne {fs : List (Int × Option Int)} {d age : Int} : cmpD .ne (.lst (cwL fs d age)) (.lst (cwL fs d age)) = .ok false := ne_okL (List.all_eq_true.mpr fun x hx => by
  obtain ⟨p, _, h⟩ := List.mem_filterMap.mp hx
  unfold cwG at h
  split at h
  · cases h; rfl
  · cases h)
section
variable {n : Nat} {fs : List (Int × Option Int)} {age : Int} {B : D}
theorem sp_could {d : Int} (h1 : fromD 0 9999 (.int d) = true) (i0 : L2.atI [D.tup (fs.map prD), .int age, B] 0 = some (.tup (fs.map prD))) (hn : 5 ≤ n) : (TT n).C i_could_witness [(.dat, .tup [.tup (fs.map prD), .int age, B]), (.dat, .int d)] = .ok ((.own, .lst (cwL fs d age)), [.non, .non]) := by
  obtain ⟨m, rfl, hm⟩ := succ_of hn
  have nd := sp_need (n := m) (k := 0) (t := .int d) rfl hm
  rw [if_pos h1] at nd
  rw [C_could_witness]
  simp -implicitDefEqProofs [runF, b_could_witness, startD, nd]
  refine b_cmap fs.zipIdx cwN (cwG d age) (xs := [(.dat, .tup (fs.map prD))]) (ds := [.tup (fs.map prD)]) (by simp) (by simp) (by simp) (by simp) wk_enuP ?_ (by simp) ?_
  · intro p hp
    have sf := sp_fault_of (n := m) (f := p.1) (d := d) (age := age) (by omega)
    have nn := iss_non (d := fP (fW p.1 d age))
    rw [fP_non] at nn
    unfold cwG
    by_cases z : fW p.1 d age = 0
    · rw [decide_eq_true z] at nn
      rw [if_pos (decide_eq_true z)]
      simp -implicitDefEqProofs [cRound, cwN, setT, sf, nn]
    · rw [decide_eq_false z] at nn
      rw [if_neg (by rw [decide_eq_false z]; decide)]
      simp -implicitDefEqProofs [cRound, cwN, setT, sf, nn]
  · simp -implicitDefEqProofs
    rfl
theorem sp_couldX {k : Nat} {t : D} (h : thD k t = true) (h1 : fromD 0 9999 t = false) (hn : 5 ≤ n) : (TT n).C i_could_witness [(.dat, B), (.dat, t)] = .exc ⟨0, none⟩ := by
  obtain ⟨m, rfl, hm⟩ := succ_of hn
  have nd := sp_need (n := m) h hm
  rw [if_neg (by rw [h1]; decide)] at nd
  rw [C_could_witness]
  simp -implicitDefEqProofs [runF, b_could_witness, startD, nd]
theorem from_int {t : D} {k : Nat} (h : fromD 0 k t = true) : ∃ i, t = .int i := by
  cases t <;> first | exact ⟨_, rfl⟩ | cases h
theorem sp_refused {k : Nat} {t : D} (h : thD k t = true) (hn : 6 ≤ n) : (TT n).C i__law_is_refused [(.dat, .tup [.tup (fs.map prD), .int age, B]), (.dat, t)] = .ok ((.dat, .bl (!fromD 0 9999 t)), [.non, .non]) := by
  obtain ⟨m, rfl, hm⟩ := succ_of hn
  rw [C__law_is_refused]
  cases hb : fromD 0 9999 t with
  | true =>
    obtain ⟨i, rfl⟩ := from_int (k := 9999) hb
    have sc := sp_could (n := m) (fs := fs) (age := age) (B := B) hb rfl hm
    generalize D.tup [.tup (fs.map prD), .int age, B] = BB at *
    simp -implicitDefEqProofs [runF, b__law_is_refused, startD, ex_trye, sc, hndX]
  | false =>
    have sc := sp_couldX (n := m) (B := .tup [.tup (fs.map prD), .int age, B]) h hb hm
    generalize D.tup [.tup (fs.map prD), .int age, B] = BB at *
    simp -implicitDefEqProofs [runF, b__law_is_refused, startD, ex_trye, sc, hndX]
end
end K
namespace K
open PySem DD
theorem cut6 {ds : List D} : cutD ds none (some 6) = ds.take 6 := cutT (x := 6)
def edI (dl : List D) (F A E : D) (i : Nat) (σ : Sg) : Prop := ∃ (fs : List (Int × Option Int)) (q : D) (x3 x7 x9 : Option D) (y8 : Sl), fs.length = i ∧ PenOk q ∧ overS y8 = true ∧
  σ = [some (.ino, q), some (.own, .lst dl), some (.own, .lst (fs.map prD)), dS x3, some (.dat, F), some (.dat, A), some (.dat, E), dS x7, y8, dS x9, none]
theorem sp_edgy {n : Nat} {p : D} (hp : PenOk p) (hn : 8 ≤ n) : ((TT n).C i__law_edgy [(.ino, p)]).post fun r => ∃ (fs : List (Int × Option Int)) (age : Nat) (us : List En) (p' : D),
      (fs.length ≤ 6 ∧ us.length ≤ 16 ∧ (∀ e ∈ us, EnF fs.length e) ∧ ∀ e ∈ us, e.day ≤ 9999) ∧ PenOk p' ∧ r = ((.dat, .tup [.tup (fs.map prD), .int (age : Int), .tup (us.map enD)]), [p']) := by
  obtain ⟨m, rfl, hm⟩ := succ_of hn
  rw [C__law_edgy]
  simp -implicitDefEqProofs [-post_ok, runF, b__law_edgy, startD]
  refine post_bind (sp_book2 (n := m) 12 (by decide) hp (by omega)) ?_
  rintro _ ⟨fs, age, es, o, p1, ⟨hfs, hage, hB, hes, ho⟩, hp1, rfl⟩
  obtain ⟨us, hu, rfl⟩ := perm_map_inv ho es rfl
  have hE : ∀ e ∈ us, EnF fs.length e := fun e he => hB.enf (hu.mem_iff.mp he)
  have hD : ∀ e ∈ us, e.day ≤ 9999 := fun e he => by
    obtain ⟨i, hi⟩ := List.mem_iff_getElem?.mp (hu.mem_iff.mp he)
    exact (hB.ok i e hi).day
  have hl : us.length ≤ 12 := by rw [hu.length_eq]; exact hes
  simp -implicitDefEqProofs [-post_ok, setT]
  refine p_cmap us enD (fun e => if decide (e.word = 0) then some (D.int (e.day : Int)) else none) (xs := [(.dat, .tup (us.map enD))]) (ds := [.tup (us.map enD)]) (by simp) (by simp) (by simp) (by simp) wk_seqT ?_ (by simp) ?_
  · intro e he
    by_cases hw : e.word = 0
    · have dq : cmpD .eq (.str "deed") (.str "deed") = .ok true := by rw [eq_ss (by decide +kernel) (by decide +kernel), decide_eq_true rfl]
      rw [eD_deed hw, if_pos (decide_eq_true hw)]
      simp -implicitDefEqProofs [cRound, setT, dq, nI]
    · obtain ⟨s, e1, e2⟩ := eD_act hw (hE e he).word
      rw [e1, if_neg (by rw [decide_eq_false hw]; decide)]
      simp -implicitDefEqProofs [cRound, setT, e2]
  · rw [fm_filt]
    obtain ⟨zl, ez, lz⟩ : ∃ zl : List Int, (us.filter fun e => decide (e.word = 0)).map (fun e => D.int (e.day : Int)) = zl.map D.int ∧ zl.length ≤ 12 := ⟨(us.filter fun e => decide (e.word = 0)).map fun e => (e.day : Int), by rw [List.map_map]; rfl, by
      rw [List.length_map]
      exact Nat.le_trans (List.length_filter_le _ _) hl⟩
    rw [ez]
    have ad : binD .add (.lst (zl.map D.int)) (.lst [.int 5]) = .ok (.own, .lst ((zl ++ [5]).map D.int)) := by
      rw [show binD .add (.lst (zl.map D.int)) (.lst [.int 5]) = (if (zl.map D.int).length + [D.int 5].length ≤ 16777216 then .ok (.own, .lst (zl.map D.int ++ [.int 5])) else .bad) from rfl, if_pos (by simp; omega), List.map_append]
      rfl
    simp -implicitDefEqProofs [-post_ok, ad]
    rw [show zl.map D.int ++ [D.int 5] = (zl ++ [5]).map D.int by rw [List.map_append]; rfl]
    have l2 : (zl ++ [5]).length ≤ 13 := by simp; omega
    have l3 : 1 ≤ (zl ++ [5]).length := by simp
    generalize zl ++ [5] = dl at *
    clear ad ez lz
    generalize hE2 : D.tup (us.map enD) = E
    generalize hA2 : D.int (age : Int) = A
    generalize hF2 : D.tup (fs.map prD) = F
    refine p_ix fs prD (edI (dl.map D.int) F A E) (xs := [(.dat, F)]) (ds := [F]) (σ1 := [some (.ino, p1), some (.own, .lst (dl.map D.int)), some (.own, .lst []), none, some (.dat, F), some (.dat, A), some (.dat, E), none, none, none, none]) (by simp) (by rfl) (by simp) (by rw [← hF2]; exact wk_seqT) ⟨[], p1, none, none, none, none, rfl, hp1, rfl, rfl⟩ ?_ ?_ (hd := by rw [← hF2]; rfl)
    · rintro i f σ hi ⟨gs, q, x3, x7, x9, y8, hgl, hq, h8, rfl⟩
      have il : i < fs.length := (List.getElem?_eq_some_iff.mp hi).1
      rw [← hA2]
      simp -implicitDefEqProofs [-post_ok, -ev_or, lRound, setT]
      refine p_draw dl.length (by simp) hq l3 (by omega) (by omega) fun x q1 hx hq1 => ?_
      have ex := g_at (f := D.int) hx
      simp -implicitDefEqProofs [-post_ok, -ev_or, ex]
      refine p_draw 3 rfl hq1 (by decide) (by decide) (by omega) fun y q2 hy hq2 => ?_
      generalize hdh : dl[x] + (y : Int) - 1 = dh
      have four : ∀ (z : Nat), z < 4 → ∃ g : Int × Option Int, L2.atI [prD f, .tup [.int dh, .non], .tup [.int (dh - (age : Int)), .non], .tup [.int (dh - 60), .int dh]] (z : Int) = some (prD g) := fun z hz => by
        rw [atI_nat]
        match z, hz with
        | 0, _ => exact ⟨f, rfl⟩
        | 1, _ => exact ⟨(dh, none), rfl⟩
        | 2, _ => exact ⟨(dh - age, none), rfl⟩
        | 3, _ => exact ⟨(dh - 60, some dh), rfl⟩
      have end_ : ∀ (g : Int × Option Int) (q : D) (x7 : Option D) (y8 : Sl), PenOk q → overS y8 = true → ∀ x3 : Option D, ∀ x9 : Option D, edI (dl.map D.int) F (.int (age : Int)) E (i + 1) [some (.ino, q), some (.own, .lst (dl.map D.int)), some (.own, .lst (gs.map prD ++ [prD g])), dS x3, some (.dat, F), some (.dat, .int (age : Int)), some (.dat, E), dS x7, y8, dS x9, none] := fun g q x7 y8 h1 h2 x3 x9 =>
        ⟨gs ++ [g], q, x3, x7, x9, y8, by simp [hgl], h1, h2, by rw [List.map_append]; rfl⟩
      have ma : ∀ g : Int × Option Int, mutD .append (.lst (gs.map prD)) [prD g] = .ok (.non, .lst (gs.map prD ++ [prD g])) := fun g => mu_app (by rw [List.length_map, hgl]; have := hfs.2.1; omega)
      have con : ∀ (g : Int × Option Int) (τ : Sg), τ.at 9 = some (.dat, prD g) → ∃ c, ev (TT m) (.or (.cons (.cmp .lt (.idx (.var 9) (.int 0)) (.neg (.int 9999))) (.cons (.cmp .gt (.idx (.var 9) (.int 0)) (.int 9999)) (.cons (.and (.cons (.cmp .isnot (.idx (.var 9) (.int 1)) .non) (.cons (.not (.chn .lt .lt (.idx (.var 9) (.int 0)) (.idx (.var 9) (.int 1)) (.int 10000))) .nil))) .nil)))) τ = .ok ((.dat, .bl c), τ) := by
        rintro ⟨b, x⟩ τ hτ
        have hτ : τ.at 9 = some (.dat, .tup [.int b, diedD x]) := hτ
        by_cases c1 : b < -9999
        · exact ⟨true, by simp -implicitDefEqProofs [hτ, c1]⟩
        · by_cases c2 : 9999 < b
          · exact ⟨true, by simp -implicitDefEqProofs [hτ, c1, c2]⟩
          · cases x with
            | none =>
              have nn : cmpD .isnot .non .non = .ok false := rfl
              exact ⟨false, by simp -implicitDefEqProofs [hτ, c1, c2, diedD, nn]⟩
            | some y =>
              have nn : cmpD .isnot (.int y) .non = .ok true := rfl
              by_cases c3 : b < y
              · by_cases c4 : y < 10000
                · exact ⟨false, by simp -implicitDefEqProofs [hτ, c1, c2, diedD, nn, c3, c4]⟩
                · exact ⟨true, by simp -implicitDefEqProofs [hτ, c1, c2, diedD, nn, c3, c4]⟩
              · exact ⟨true, by simp -implicitDefEqProofs [hτ, c1, c2, diedD, nn, c3]⟩
      simp -implicitDefEqProofs [-post_ok, -ev_or, hdh, h8]
      refine p_draw 4 rfl hq2 (by decide) (by decide) (by omega) fun z q3 hz hq3 => ?_
      obtain ⟨g, eg⟩ := four z hz
      obtain ⟨c, ec⟩ := con g [some (.ino, q3), some (.own, .lst (dl.map D.int)), some (.own, .lst (gs.map prD)), some (.dat, prD f), some (.dat, F), some (.dat, .int (age : Int)), some (.dat, E), some (.dat, .int dh), some (.own, .lst [prD f, .tup [.int dh, .non], .tup [.int (dh - (age : Int)), .non], .tup [.int (dh - 60), .int dh]]), some (.dat, prD g), none] rfl
      have ma1 := ma g
      have ma2 := ma f
      have f1 := fun y8 => end_ g q3 (some (.int dh)) y8 hq3
      have f2 := fun y8 => end_ f q3 (some (.int dh)) y8 hq3
      have z1 : isObj (prD g) = false := rfl
      have z2 : isObj (prD f) = false := rfl
      generalize prD g = G at *
      generalize prD f = F1 at *
      cases c with
      | true =>
        simp -implicitDefEqProofs [-post_ok, eg, -ev_or, ec, ma2]
        exact post_ok.mpr ⟨.inl rfl, f2 _ rfl (some F1) (some F1)⟩
      | false =>
        simp -implicitDefEqProofs [-post_ok, eg, -ev_or, ec, ma1]
        exact post_ok.mpr ⟨.inl rfl, f1 _ rfl (some F1) (some G)⟩
    · rintro σ' ⟨gs, q, x3, x7, x9, y8, hgl, hq, h8, rfl⟩
      simp -implicitDefEqProofs [-post_ok]
      rw [← hE2, ← hA2]
      exact post_ok.mpr ⟨gs, age, us, ⟨by rw [hgl]; exact hfs.2.1, by omega, by rw [hgl]; exact hE, hD⟩, q, hq, rfl⟩
end K
namespace K
open PySem DD
theorem cells3 (ns : List Int) : ∃ k : Nat, k ≤ 3 ∧ bifD .max2 [.int 1, .int (if (3 : Int) < (ns.length : Int) then (3 : Int) else (ns.length : Int))] = .ok (.dat, .int k) := by
  by_cases h3 : (3 : Int) < (ns.length : Int)
  · exact ⟨3, by decide, by rw [if_pos h3, bf_max, if_pos (by decide)]; rfl⟩
  · by_cases h1 : (ns.length : Int) > 1
    · exact ⟨ns.length, by omega, by rw [if_neg h3, bf_max, if_pos h1]⟩
    · exact ⟨1, by decide, by rw [if_neg h3, bf_max, if_neg h1]; rfl⟩
/-- a slot that may be written over and walked with -/
def sh (y : Sl) : Prop := ∃ x : Option D, y = dS x
def lawI46 (ns : List Int) (σ : Sg) : Prop := ∃ (y2 y4 y13 y15 : Sl) (x1 x3 x5 x6 x7 x8 x9 x10 x11 x12 x14 : Option D), (overS y2 = true ∧ overS y4 = true ∧ overS y13 = true ∧ overS y15 = true) ∧
  σ = [some (.dat, .scr ns), dS x1, y2, dS x3, y4, dS x5, dS x6, dS x7, dS x8, dS x9, dS x10, dS x11, dS x12, y13, dS x14, y15, none]
def dueI (fs : List (Int × Option Int)) (age : Int) (us : List En) (s0 s1 s2 s3 s9 s10 s11 s12 : Sl) (x6 x7 x8 x14 : Option D) (y13 : Sl) (i : Nat) (σ : Sg) : Prop := ∃ (x5 : Option D) (y15 : Sl), overS y15 = true ∧
  σ = [s0, s1, s2, s3, some (.own, .lst ((us.take i).flatMap (ftE fs age))), dS x5, dS x6, dS x7, dS x8, s9, s10, s11, s12, y13, dS x14, y15, none]
def turnI46 (s0 s1 s2 s3 s4 s9 s10 s11 : Sl) (x5 x7 x8 x14 : Option D) (y13 y15 : Sl) (σ : Sg) : Prop := ∃ x6 x12 : Option D, σ = [s0, s1, s2, s3, s4, dS x5, dS x6, dS x7, dS x8, s9, s10, s11, dS x12, y13, dS x14, y15, none]
def daysI46 (s0 s1 s3 s4 s9 s10 s11 : Sl) (x5 x6 x8 x12 x14 : Option D) (y15 : Sl) (q : D) (σ : Sg) : Prop := ∃ (x7 : Option D) (y13 : Sl), overS y13 = true ∧ σ = [s0, s1, some (.own, q), s3, s4, dS x5, dS x6, dS x7, dS x8, s9, s10, s11, dS x12, y13, dS x14, y15, none]
def thgI46 (s0 s1 s2 s3 s4 s9 s10 s11 : Sl) (x5 x6 x7 x12 : Option D) (y13 y15 : Sl) (σ : Sg) : Prop := ∃ x8 x14 : Option D, σ = [s0, s1, s2, s3, s4, dS x5, dS x6, dS x7, dS x8, s9, s10, s11, dS x12, y13, dS x14, y15, none]
theorem ft_len1 {nf : Nat} {fs : List (Int × Option Int)} {age : Int} {e : En} (h : EnF nf e) : (ftE fs age e).length ≤ 3 := by
  unfold ftE
  by_cases z : e.word = 0
  · rw [if_pos z]
    unfold ftL
    rw [List.length_map]
    exact Nat.le_trans (List.length_filter_le _ _) (h.wits z).1
  · rw [if_neg z]; exact Nat.zero_le _
theorem ft_len {nf : Nat} {fs : List (Int × Option Int)} {age : Int} : ∀ {l : List En}, (∀ x ∈ l, EnF nf x) → l.length ≤ 16 → (l.flatMap (ftE fs age)).length ≤ 48 := by
  have : ∀ l : List En, (∀ x ∈ l, EnF nf x) → (l.flatMap (ftE fs age)).length ≤ 3 * l.length := by
    intro l
    induction l with
    | nil => intro _; exact Nat.zero_le _
    | cons x l ih =>
      intro h
      rw [List.flatMap_cons, List.length_append, List.length_cons]
      have a := ft_len1 (fs := fs) (age := age) (h x List.mem_cons_self)
      have b := ih fun y hy => h y (List.mem_cons_of_mem _ hy)
      omega
  intro l h h2
  have := this l h
  omega
theorem plain (ns : List Int) (h : ns.length ≤ 63) : ∃ outs, (TT (29 + 1)).C i_law [(.dat, .scr ns)] = .ok ((.dat, .bl true), outs) := by
  suffices H : ((TT (29 + 1)).C i_law [(.dat, .scr ns)]).post fun r => ∃ outs, r = ((.dat, .bl true), outs) by
    obtain ⟨r, e, outs, rfl⟩ := H
    exact ⟨outs, e⟩
  rw [C_law]
  obtain ⟨k, hk, ek⟩ := cells3 ns
  simp -implicitDefEqProofs [-post_ok, runF, b_law, startD]
  refine p_ix (List.range k) (fun i => D.int (i : Int)) (fun _ => lawI46 ns) (xs := [(.dat, .int k)]) (ds := [.int k]) (σ1 := [some (.dat, .scr ns), none, none, none, none, none, none, none, none, none, none, none, none, none, none, none, none]) (by simp [-bf_max, ek]) (by rfl) (by simp) (wk_rng1 (by omega))
    ⟨none, none, none, none, none, none, none, none, none, none, none, none, none, none, none, ⟨rfl, rfl, rfl, rfl⟩, rfl⟩ ?_ ?_
  · rintro i a σ hi ⟨y2, y4, y13, y15, x1, x3, x5, x6, x7, x8, x9, x10, x11, x12, x14, ⟨h2, h4, h13, h15⟩, rfl⟩
    obtain ⟨hlt, rfl⟩ := g_range hi
    simp -implicitDefEqProofs [-post_ok, lRound, setT]
    refine post_bind (sp_cell_at (by omega)) ?_
    rintro _ ⟨c, rfl⟩
    simp -implicitDefEqProofs [-post_ok]
    refine post_bind (sp_pen (by omega)) ?_
    rintro _ ⟨q, hq, rfl⟩
    simp -implicitDefEqProofs [-post_ok, h2]
    refine post_bind (sp_edgy (n := 29) hq (by omega)) ?_
    rintro _ ⟨fs, age, us, q1, ⟨hfs, hus, hE, hD⟩, hq1, rfl⟩
    have fl := sp_faults (n := 29) (fs := fs) (age := (age : Int)) (us := us) rfl hE hus (by omega) (ft_alk fun d hd => by
      obtain ⟨a, b, c, _, e⟩ := ft_mem d hd
      exact ⟨a, b, c, e⟩)
    have so : bifD .sortA [.lst (us.flatMap (ftE fs (age : Int)))] = .ok (.own, .lst (sortAD (us.flatMap (ftE fs (age : Int))))) := if_pos (ft_alk fun d hd => by
      obtain ⟨a, b, c, _, e⟩ := ft_mem d hd
      exact ⟨a, b, c, e⟩)
    have sn : cmpD .ne (.lst (sortAD (us.flatMap (ftE fs (age : Int))))) (.lst (sortAD (us.flatMap (ftE fs (age : Int))))) = .ok false := ft_ne fun d hd => ft_mem d (List.mem_mergeSort.mp hd)
    simp -implicitDefEqProofs [-post_ok, h4, setT]
    refine p_ix us enD (dueI fs (age : Int) us (some (.dat, .scr ns)) (some (.dat, .int (i : Int))) (some (.own, q1)) (some (.dat, .tup [.tup (fs.map prD), .int (age : Int), .tup (us.map enD)])) (some (.dat, .tup (fs.map prD))) (some (.dat, .int (age : Int))) (some (.dat, .tup (us.map enD))) (dS x12) x6 x7 x8 x14 y13)
      (xs := [(.dat, .tup (us.map enD))]) (ds := [.tup (us.map enD)]) (σ1 := [some (.dat, .scr ns), some (.dat, .int (i : Int)), some (.own, q1), some (.dat, .tup [.tup (fs.map prD), .int (age : Int), .tup (us.map enD)]), some (.own, .lst []), dS x5, dS x6, dS x7, dS x8, some (.dat, .tup (fs.map prD)), some (.dat, .int (age : Int)), some (.dat, .tup (us.map enD)), dS x12, y13, dS x14, y15, none])
      (by simp) (by rfl) (by simp) wk_seqT ⟨x5, y15, h15, rfl⟩ ?_ ?_
    · clear h15 y15 x5
      rintro j e σ hj ⟨x5, y15, h15, rfl⟩
      have he := List.mem_of_getElem? hj
      have hf := hE e he
      have tk : (us.take (j + 1)).flatMap (ftE fs (age : Int)) = (us.take j).flatMap (ftE fs (age : Int)) ++ ftE fs (age : Int) e := by
        rw [List.take_succ, hj, Option.toList, List.flatMap_append]
        simp
      have l1 : ((us.take j).flatMap (ftE fs (age : Int))).length ≤ 48 := ft_len (fun x hx => hE x (List.mem_of_mem_take hx)) (by rw [List.length_take]; omega)
      have l2 : (ftE fs (age : Int) e).length ≤ 3 := ft_len1 hf
      generalize D.tup [.tup (fs.map prD), .int (age : Int), .tup (us.map enD)] = BK at *
      generalize (us.take j).flatMap (ftE fs (age : Int)) = FL at *
      by_cases hw : e.word = 0
      · have dq : cmpD .eq (.str "deed") (.str "deed") = .ok true := by rw [eq_ss (by decide +kernel) (by decide +kernel), decide_eq_true rfl]
        have tk2 : ftE fs (age : Int) e = ftL fs (age : Int) e := if_pos hw
        rw [tk2] at l2 tk
        rw [eD_deed hw]
        simp -implicitDefEqProofs [-post_ok, lRound, setT, dq]
        refine p_cmap e.wits nI (fun w => some (rwL fs age e w)) (xs := [(.dat, .tup (e.wits.map nI))]) (ds := [.tup (e.wits.map nI)]) (by simp) (by simp) (by simp) (by simp) wk_seqT ?_ (by simp) ?_
        · intro w hww
          obtain ⟨f, a1, a2⟩ := at_folk ((hf.wits hw).2 w hww) e.day age
          have sf := sp_lfault (n := 29) (f := f) (d := e.day) (age := age) (by omega)
          simp -implicitDefEqProofs [cRound, setT, a1, sf, nI, rwL, a2]
        · rw [fm_id]
          have ad : binD .add (.lst FL) (.lst (ftL fs (age : Int) e)) = .ok (.own, .lst (FL ++ ftL fs (age : Int) e)) := if_pos (by omega)
          simp -implicitDefEqProofs [-post_ok, h15]
          refine p_cmap e.wits (rwL fs age e) (fun w => if decide (fAt fs w e.day age ≠ 0) then some (rwL fs age e w) else none) (xs := [(.brw, .lst (e.wits.map (rwL fs age e)))]) (ds := [.lst (e.wits.map (rwL fs age e))]) (by simp) (by simp) (by simp) (by simp) wk_seqL ?_ (by simp) ?_
          · intro w hww
            have nn := fS_ne (fAt_le fs w e.day age)
            unfold rwL
            by_cases z : fAt fs w e.day age = 0
            · rw [decide_eq_false (fun q => q z)] at nn ⊢
              simp -implicitDefEqProofs [cRound, setT, nn]
            · rw [decide_eq_true z] at nn ⊢
              simp -implicitDefEqProofs [cRound, setT, nn]
          · rw [rowL]
            simp -implicitDefEqProofs [-post_ok, ad]
            exact post_ok.mpr ⟨.inl rfl, some _, _, rfl, by rw [tk]; rfl⟩
      · obtain ⟨s, e1, e2⟩ := eD_act hw hf.word
        rw [e1]
        have tk2 : ftE fs (age : Int) e = [] := if_neg hw
        simp -implicitDefEqProofs [-post_ok, lRound, setT, e2]
        exact post_ok.mpr ⟨.inl rfl, some _, y15, h15, by rw [tk, tk2, List.append_nil]; rfl⟩
    · clear h15 y15 x5
      rintro σ ⟨x5, y15, h15, rfl⟩
      rw [List.take_length]
      have sl : (sortAD (us.flatMap (ftE fs (age : Int)))).length ≤ 48 := by
        rw [show (sortAD (us.flatMap (ftE fs (age : Int)))).length = _ from List.length_mergeSort ..]
        exact ft_len hE (by omega)
      have ma := mu_app (ds := sortAD (us.flatMap (ftE fs (age : Int)))) (x := .tup []) (by omega)
      have cw : ∀ d : Int, fromD 0 9999 (.int d) = true → (TT 29).C i_could_witness [(.dat, .tup [.tup (fs.map prD), .int (age : Int), .tup (us.map enD)]), (.dat, .int d)] = .ok ((.own, .lst (cwL fs d (age : Int))), [.non, .non]) := fun d hd => sp_could hd rfl (by omega)
      have rf : ∀ (k : Nat) (t : D), thD k t = true → (TT 29).C i__law_is_refused [(.dat, .tup [.tup (fs.map prD), .int (age : Int), .tup (us.map enD)]), (.dat, t)] = .ok ((.dat, .bl (!fromD 0 9999 t)), [.non, .non]) := fun k t ht => sp_refused ht (by omega)
      generalize hBK : D.tup [.tup (fs.map prD), .int (age : Int), .tup (us.map enD)] = BK at *
      generalize sortAD (us.flatMap (ftE fs (age : Int))) = SF at *
      generalize us.flatMap (ftE fs (age : Int)) = FL at *
      simp -implicitDefEqProofs [-post_ok]
      refine p_ix (List.range 2) (fun i => D.int (i : Int)) (fun _ => turnI46 (some (.dat, .scr ns)) (some (.dat, .int (i : Int))) (some (.own, q1)) (some (.dat, BK)) (some (.own, .lst FL)) (some (.dat, .tup (fs.map prD))) (some (.dat, .int (age : Int))) (some (.dat, .tup (us.map enD))) x5 x7 x8 x14 y13 y15)
        (xs := [(.dat, .int 2)]) (ds := [.int 2]) (σ1 := [some (.dat, .scr ns), some (.dat, .int (i : Int)), some (.own, q1), some (.dat, BK), some (.own, .lst FL), dS x5, dS x6, dS x7, dS x8, some (.dat, .tup (fs.map prD)), some (.dat, .int (age : Int)), some (.dat, .tup (us.map enD)), dS x12, y13, dS x14, y15, none])
        (by simp) (by rfl) (by simp) (wk_rng1 (n := 2) (by omega)) ⟨x6, x12, rfl⟩ ?_ ?_
      · rintro t a σ ht ⟨x6, x12, rfl⟩
        obtain ⟨htl, rfl⟩ := g_range ht
        simp -implicitDefEqProofs [-post_ok, lRound, setT, fl, so, sn, ma]
        exact post_ok.mpr ⟨.inl rfl, some _, some _, rfl⟩
      · clear fl so sn ma
        rintro σ ⟨x6, x12, rfl⟩
        simp -implicitDefEqProofs [-post_ok]
        obtain ⟨_, e1, d1, p2, hd1, hp2, rfl⟩ := sp_day2 (n := 29) hq1 (by omega)
        obtain ⟨_, e2, d2, p3, hd2, hp3, rfl⟩ := sp_day2 (n := 29) hp2 (by omega)
        have ec : ev (TT 29) (.comp .seq (.cons (.slc (.var 11) .nil (.cons (.int 6) .nil)) .nil) (.one 5) .nil (.idx (.var 5) (.int 1)) [5]) [some (.dat, .scr ns), some (.dat, .int (i : Int)), some (.own, q1), some (.dat, BK), some (.own, .lst FL), dS x5, dS x6, dS x7, dS x8, some (.dat, .tup (fs.map prD)), some (.dat, .int (age : Int)), some (.dat, .tup (us.map enD)), dS x12, y13, dS x14, y15, none] = .ok ((.own, .lst (((us.take 6).map (·.day)).map nI)), [some (.dat, .scr ns), some (.dat, .int (i : Int)), some (.own, q1), some (.dat, BK), some (.own, .lst FL), dS x5, dS x6, dS x7, dS x8, some (.dat, .tup (fs.map prD)), some (.dat, .int (age : Int)), some (.dat, .tup (us.map enD)), dS x12, y13, dS x14, y15, none]) := by
          refine (ev_cmap (us.take 6) enD (fun e => some (nI e.day)) (xs := [(.dat, .tup ((us.take 6).map enD))]) (ds := [.tup ((us.take 6).map enD)]) (by simp -implicitDefEqProofs [cut6, List.map_take]) (by simp) (by simp) (by simp) wk_seqT ?_ (by simp)).trans ?_
          · intro e he
            have ea : L2.atI (nI e.num :: nI e.day :: nI e.wr :: nI e.hand :: .str (wS e.word) :: tailD e) 1 = some (nI e.day) := atI_nat (n := 1)
            unfold enD
            simp -implicitDefEqProofs [cRound, setT, ea]
          · rw [fm_id, List.map_map]; rfl
        have ad : binD .add (.lst (((us.take 6).map (·.day)).map nI)) (.lst [.int 0, .int 9999, .int (d1 : Int), .int (d2 : Int)]) = .ok (.own, .lst (((us.take 6).map (·.day) ++ [0, 9999, d1, d2]).map nI)) := by
          rw [List.map_append]
          exact if_pos (by simp; omega)
        refine p_ix ((us.take 6).map (·.day) ++ [0, 9999, d1, d2]) nI (fun _ => daysI46 (some (.dat, .scr ns)) (some (.dat, .int (i : Int))) (some (.dat, BK)) (some (.own, .lst FL)) (some (.dat, .tup (fs.map prD))) (some (.dat, .int (age : Int))) (some (.dat, .tup (us.map enD))) x5 x6 x8 x12 x14 y15 p3)
          (xs := [(.own, .lst (((us.take 6).map (·.day) ++ [0, 9999, d1, d2]).map nI))]) (ds := [.lst (((us.take 6).map (·.day) ++ [0, 9999, d1, d2]).map nI)]) (σ1 := [some (.dat, .scr ns), some (.dat, .int (i : Int)), some (.own, p3), some (.dat, BK), some (.own, .lst FL), dS x5, dS x6, dS x7, dS x8, some (.dat, .tup (fs.map prD)), some (.dat, .int (age : Int)), some (.dat, .tup (us.map enD)), dS x12, y13, dS x14, y15, none])
          ?_ (by rfl) (by simp) wk_seqL ⟨x7, y13, h13, rfl⟩ ?_ ?_
        · generalize ((us.take 6).map (·.day)).map nI = L1 at *
          generalize ((us.take 6).map (·.day) ++ [0, 9999, d1, d2]).map nI = L2 at *
          simp -implicitDefEqProofs [ec, e1, e2, ad]
        · rintro j d σ hj ⟨x7, y13, h13, rfl⟩
          have hd : d ≤ 9999 := by
            have hm := List.mem_of_getElem? hj
            rcases List.mem_append.mp hm with hm | hm
            · obtain ⟨e, he, rfl⟩ := List.mem_map.mp hm
              exact hD e (List.mem_of_mem_take he)
            · simp only [List.mem_cons, List.not_mem_nil, or_false] at hm
              rcases hm with rfl | rfl | rfl | rfl <;> omega
          have cw := cw d (by simp [fromD]; omega)
          have cn := cw_ne (fs := fs) (d := (d : Int)) (age := (age : Int))
          simp -implicitDefEqProofs [-post_ok, lRound, setT, nI]
          refine p_cmap fs.zipIdx cwN (cwG d (age : Int)) (xs := [(.dat, .tup (fs.map prD))]) (ds := [.tup (fs.map prD)]) (by simp) (by simp) (by simp) (by simp) wk_enuP ?_ (by simp) ?_
          · intro p hp
            have sf := sp_lfault (n := 29) (f := p.1) (d := d) (age := age) (by omega)
            have nn := fS_eq (fW_le p.1 d age)
            unfold cwG
            by_cases z : fW p.1 d age = 0
            · rw [decide_eq_true z] at nn ⊢
              simp -implicitDefEqProofs [cRound, cwN, setT, sf, nn]
            · rw [decide_eq_false z] at nn ⊢
              simp -implicitDefEqProofs [cRound, cwN, setT, sf, nn]
          · rw [show fs.zipIdx.filterMap (cwG (d : Int) (age : Int)) = cwL fs d age from rfl]
            simp -implicitDefEqProofs [-post_ok, h13, cw, cn]
            exact post_ok.mpr ⟨.inl rfl, some _, _, rfl, rfl⟩
        · rintro σ ⟨x7, y13, h13, rfl⟩
          obtain ⟨_, e3, fl, t, p4, hfl, ht, hp4, rfl⟩ := sp_thing 2 (n := 29) hp3 (by omega)
          simp -implicitDefEqProofs [-post_ok]
          refine p_ix [D.int 10000, .int (-1), .bl true, .non, .str "0", .tup [.int 0], .int 1000000000000000000000000000000000000000, t] id (fun _ => thgI46 (some (.dat, .scr ns)) (some (.dat, .int (i : Int))) (some (.own, p4)) (some (.dat, BK)) (some (.own, .lst FL)) (some (.dat, .tup (fs.map prD))) (some (.dat, .int (age : Int))) (some (.dat, .tup (us.map enD))) x5 x6 x7 x12 y13 y15)
            (xs := [(.dat, .tup [D.int 10000, .int (-1), .bl true, .non, .str "0", .tup [.int 0], .int 1000000000000000000000000000000000000000, t])]) (ds := [.tup [D.int 10000, .int (-1), .bl true, .non, .str "0", .tup [.int 0], .int 1000000000000000000000000000000000000000, t]]) (σ1 := [some (.dat, .scr ns), some (.dat, .int (i : Int)), some (.own, p4), some (.dat, BK), some (.own, .lst FL), dS x5, dS x6, dS x7, dS x8, some (.dat, .tup (fs.map prD)), some (.dat, .int (age : Int)), some (.dat, .tup (us.map enD)), dS x12, y13, dS x14, y15, none])
            ?_ (by rfl) (by simp) (by rw [List.map_id]; rfl) ⟨x8, x14, rfl⟩ ?_ ?_
          · have e3 : (TT 29).C i__law_thing [(.ino, p3), (.dat, .int 2)] = .ok ((fl, t), [p4, .non]) := e3
            rcases hfl with rfl | rfl <;> simp -implicitDefEqProofs [e3, big39]
          · rintro j t σ hj ⟨x8, x14, rfl⟩
            have ht : thD 3 t = true := by
              have hm := List.mem_of_getElem? hj
              simp only [List.mem_cons, List.not_mem_nil, or_false] at hm
              rcases hm with rfl | rfl | rfl | rfl | rfl | rfl | rfl | rfl <;> first | assumption | (decide +kernel)
            have rf := rf 3 t ht
            have ne : cmpD .eq (.bl (!fromD 0 9999 t)) (.bl (fromD 0 9999 t)) = .ok false := by cases fromD 0 9999 t <;> rfl
            have gd : ∀ τ : Sg, τ.at 8 = some (.dat, t) → ev (TT 29) (.and (.cons (.isi .int (.var 8)) (.cons (.not (.isi .bool (.var 8))) (.cons (.chn .le .lt (.int 0) (.var 8) (.int 10000)) .nil)))) τ = .ok ((.dat, .bl (fromD 0 9999 t)), τ) := fun τ hτ => by
              cases t with
              | int z =>
                by_cases c1 : 0 ≤ z
                · by_cases c2 : z < 10000
                  · rw [show fromD 0 9999 (.int z) = true by simp [fromD]; omega]
                    simp -implicitDefEqProofs [hτ, isiD, c1, c2]
                  · rw [show fromD 0 9999 (.int z) = false by simp [fromD]; omega]
                    simp -implicitDefEqProofs [hτ, isiD, c1, c2]
                · rw [show fromD 0 9999 (.int z) = false by simp [fromD]; omega]
                  simp -implicitDefEqProofs [hτ, isiD, c1]
              | obj c fs => rw [th_obj] at ht; cases ht
              | odc kvs => rw [th_odc] at ht; cases ht
              | scr ns => rw [th_scr] at ht; cases ht
              | _ => simp -implicitDefEqProofs [hτ, isiD, fromD]
            have g1 := gd [some (.dat, .scr ns), some (.dat, .int (i : Int)), some (.own, p4), some (.dat, BK), some (.own, .lst FL), dS x5, dS x6, dS x7, some (.dat, t), some (.dat, .tup (fs.map prD)), some (.dat, .int (age : Int)), some (.dat, .tup (us.map enD)), dS x12, y13, dS x14, y15, none] rfl
            simp -implicitDefEqProofs [-post_ok, -ev_and, lRound, setT, g1, rf, ne]
            exact post_ok.mpr ⟨.inl rfl, some _, some _, rfl⟩
          · rintro σ ⟨x8, x14, rfl⟩
            simp -implicitDefEqProofs [-post_ok]
            exact post_ok.mpr ⟨.inl rfl, some (.own, p4), some (.own, .lst FL), y13, y15, some _, some _, x5, x6, x7, x8, some _, some _, some _, x12, x14, ⟨rfl, rfl, h13, h15⟩, rfl⟩
  · rintro σ' ⟨y2, y4, y13, y15, x1, x3, x5, x6, x7, x8, x9, x10, x11, x12, x14, hh, rfl⟩
    simp -implicitDefEqProofs [-post_ok]
    exact post_ok.mpr ⟨_, rfl⟩
end K
namespace K
open PySem L2 DD
abbrev rowP : PySem.Program := PySem.Challenge.pw_deedsheaf_k46_witnesses_that_could_be_no
def top (i : Nat) : Stmt := rowP.main.body.getD i (.Pass ⟨0, 0, 0, 0⟩)
def d_is_whole : Df := ⟨"is_whole", (top 5), ["thing"], ⟨1, 1, b_is_whole⟩, false, none, [], none, none⟩
def d_is_from : Df := ⟨"is_from", (top 6), ["thing", "low", "high"], ⟨3, 3, b_is_from⟩, false, none, [], none, none⟩
def d_is_day : Df := ⟨"is_day", (top 7), ["thing"], ⟨1, 1, b_is_day⟩, false, none, [], none, none⟩
def d_need_day : Df := ⟨"need_day", (top 8), ["thing"], ⟨1, 1, b_need_day⟩, false, none, [], none, none⟩
def d_fault_of : Df := ⟨"fault_of", (top 10), ["person", "day", "age", "born", "died"], ⟨3, 5, b_fault_of⟩, false, none, [], none, none⟩
def d_faults_of : Df := ⟨"faults_of", (top 11), ["book", "found", "entry", "folk", "age", "entries", "rows", "person", "row"], ⟨1, 9, b_faults_of⟩, false, none, [], none, none⟩
def d_could_witness : Df := ⟨"could_witness", (top 12), ["book", "d", "person", "row"], ⟨2, 4, b_could_witness⟩, false, none, [], none, none⟩
def d__law_pen : Df := ⟨"_law_pen", (top 14), ["_law_cell"], ⟨1, 1, b__law_pen⟩, false, none, [], none, none⟩
def d__law_cell_at : Df := ⟨"_law_cell_at", (top 15), ["_law_script", "_law_k"], ⟨2, 2, b__law_cell_at⟩, false, none, [], none, none⟩
def d__law_draw : Df := ⟨"_law_draw", (top 16), ["_law_pen_here", "_law_bound", "_law_stir", "_law_found"], ⟨2, 4, b__law_draw⟩, false, none, [], none, none⟩
def d__law_folk : Df := ⟨"_law_folk", (top 17), ["_law_pen_here", "_law_least", "_law_found", "_law_k", "_law_born", "_law_died"], ⟨2, 6, b__law_folk⟩, false, none, [], none, none⟩
def d__law_mixed : Df := ⟨"_law_mixed", (top 18), ["_law_pen_here", "_law_some", "_law_left", "_law_k"], ⟨2, 4, b__law_mixed⟩, false, none, [], none, none⟩
def d__law_day : Df := ⟨"_law_day", (top 19), ["_law_pen_here"], ⟨1, 1, b__law_day⟩, false, none, [], none, none⟩
def d__law_few : Df := ⟨"_law_few", (top 20), ["_law_pen_here", "_law_some", "_law_most", "_law_left"], ⟨3, 4, b__law_few⟩, false, none, [], none, none⟩
def d__law_deed : Df := ⟨"_law_deed", (top 21), ["_law_pen_here", "_law_number", "_law_folk_here", "_law_deeds", "_law_both", "_law_head", "_law_giver", "_law_taker"], ⟨4, 8, b__law_deed⟩, false, none, [], none, none⟩
def d__law_act : Df := ⟨"_law_act", (top 22), ["_law_pen_here", "_law_number", "_law_deeds", "_law_acts", "_law_word", "_law_some"], ⟨4, 6, b__law_act⟩, false, none, [], none, none⟩
def d__law_book : Df := ⟨"_law_book", (top 23), ["_law_pen_here", "_law_most", "_law_shift", "_law_k", "_law_age", "_law_folk_here", "_law_step", "_law_deeds", "_law_acts", "_law_entries", "_law_number"], ⟨2, 11, b__law_book⟩, false, none, [], none, none⟩
def d__law_edgy : Df := ⟨"_law_edgy", (top 24), ["_law_pen_here", "_law_days", "_law_found", "_law_person", "_law_folk_here", "_law_age", "_law_entries", "_law_day_here", "_law_edges", "_law_one", "_law_entry"], ⟨1, 11, b__law_edgy⟩, false, none, [], none, none⟩
def d__law_fault : Df := ⟨"_law_fault", (top 25), ["_law_person", "_law_day_here", "_law_age", "_law_born", "_law_died"], ⟨3, 5, b__law_fault⟩, false, none, [], none, none⟩
def d__law_thing : Df := ⟨"_law_thing", (top 26), ["_law_pen_here", "_law_deep", "_law_way", "_law_parts", "_law_k"], ⟨2, 5, b__law_thing⟩, false, none, [], none, none⟩
def d__law_is_refused : Df := ⟨"_law_is_refused", (top 27), ["_law_book_here", "_law_thing_here"], ⟨2, 2, b__law_is_refused⟩, false, none, [], none, none⟩
def d_law : Df := ⟨"law", (top 28), ["_law_script", "_law_k", "_law_pen_here", "_law_book_here", "_law_due", "_law_entry", "_law_turn", "_law_day_here", "_law_thing_here", "_law_folk_here", "_law_age", "_law_entries", "_law_row", "_law_some", "_law_good", "_law_rows", "_law_person"], ⟨1, 17, b_law⟩, false, none, [], none, none⟩
def ds : List Df := [d_is_whole, d_is_from, d_is_day, d_need_day, d_fault_of, d_faults_of, d_could_witness, d__law_pen, d__law_cell_at, d__law_draw, d__law_folk, d__law_mixed, d__law_day, d__law_few, d__law_deed, d__law_act, d__law_book, d__law_edgy, d__law_fault, d__law_thing, d__law_is_refused, d_law]
def ci : Option Ci := none
def xs : List Str := ["NoDay"]
theorem tt (k : Nat) : tbOf ds gl k = TT k := by
  have e : (fun f : Nat => (ds[f]?).map (·.fn)) = fun f : Nat => fnT[f]? := funext fun f => by
    rw [← List.getElem?_map]
    rfl
  have ev : vdOf ds = viT := funext fun f => by
    have em : ds.map (fun d : Df => if d.cls.isNone then d.vir else none) = viL := rfl
    unfold vdOf viT
    rw [← em, List.getElem?_map]
    cases ds[f]? <;> rfl
  unfold tbOf TT
  rw [e, ev]
theorem c_is_whole : ckDf (nmOf ds gl ci xs) d_is_whole = true := by decide +kernel
theorem u_is_whole : BindOk d_is_whole := .non rfl fun _ _ _ _ _ _ us hl => match us, hl with | [_], _ => rfl
theorem c_is_from : ckDf (nmOf ds gl ci xs) d_is_from = true := by decide +kernel
theorem u_is_from : BindOk d_is_from := .non rfl fun _ _ _ _ _ _ us hl => match us, hl with | [_, _, _], _ => rfl
theorem c_is_day : ckDf (nmOf ds gl ci xs) d_is_day = true := by decide +kernel
theorem u_is_day : BindOk d_is_day := .non rfl fun _ _ _ _ _ _ us hl => match us, hl with | [_], _ => rfl
theorem c_need_day : ckDf (nmOf ds gl ci xs) d_need_day = true := by decide +kernel
theorem u_need_day : BindOk d_need_day := .non rfl fun _ _ _ _ _ _ us hl => match us, hl with | [_], _ => rfl
theorem c_fault_of : ckDf (nmOf ds gl ci xs) d_fault_of = true := by decide +kernel
theorem u_fault_of : BindOk d_fault_of := .non rfl fun _ _ _ _ _ _ us hl => match us, hl with | [_, _, _], _ => rfl
theorem c_faults_of : ckDf (nmOf ds gl ci xs) d_faults_of = true := by decide +kernel
theorem u_faults_of : BindOk d_faults_of := .non rfl fun _ _ _ _ _ _ us hl => match us, hl with | [_], _ => rfl
theorem c_could_witness : ckDf (nmOf ds gl ci xs) d_could_witness = true := by decide +kernel
theorem u_could_witness : BindOk d_could_witness := .non rfl fun _ _ _ _ _ _ us hl => match us, hl with | [_, _], _ => rfl
theorem c__law_pen : ckDf (nmOf ds gl ci xs) d__law_pen = true := by decide +kernel
theorem u__law_pen : BindOk d__law_pen := .non rfl fun _ _ _ _ _ _ us hl => match us, hl with | [_], _ => rfl
theorem c__law_cell_at : ckDf (nmOf ds gl ci xs) d__law_cell_at = true := by decide +kernel
theorem u__law_cell_at : BindOk d__law_cell_at := .non rfl fun _ _ _ _ _ _ us hl => match us, hl with | [_, _], _ => rfl
theorem c__law_draw : ckDf (nmOf ds gl ci xs) d__law_draw = true := by decide +kernel
theorem u__law_draw : BindOk d__law_draw := .non rfl fun _ _ _ _ _ _ us hl => match us, hl with | [_, _], _ => rfl
theorem c__law_folk : ckDf (nmOf ds gl ci xs) d__law_folk = true := by decide +kernel
theorem u__law_folk : BindOk d__law_folk := .non rfl fun _ _ _ _ _ _ us hl => match us, hl with | [_, _], _ => rfl
theorem c__law_mixed : ckDf (nmOf ds gl ci xs) d__law_mixed = true := by decide +kernel
theorem u__law_mixed : BindOk d__law_mixed := .non rfl fun _ _ _ _ _ _ us hl => match us, hl with | [_, _], _ => rfl
theorem c__law_day : ckDf (nmOf ds gl ci xs) d__law_day = true := by decide +kernel
theorem u__law_day : BindOk d__law_day := .non rfl fun _ _ _ _ _ _ us hl => match us, hl with | [_], _ => rfl
theorem c__law_few : ckDf (nmOf ds gl ci xs) d__law_few = true := by decide +kernel
theorem u__law_few : BindOk d__law_few := .non rfl fun _ _ _ _ _ _ us hl => match us, hl with | [_, _, _], _ => rfl
theorem c__law_deed : ckDf (nmOf ds gl ci xs) d__law_deed = true := by decide +kernel
theorem u__law_deed : BindOk d__law_deed := .non rfl fun _ _ _ _ _ _ us hl => match us, hl with | [_, _, _, _], _ => rfl
theorem c__law_act : ckDf (nmOf ds gl ci xs) d__law_act = true := by decide +kernel
theorem u__law_act : BindOk d__law_act := .non rfl fun _ _ _ _ _ _ us hl => match us, hl with | [_, _, _, _], _ => rfl
theorem c__law_book : ckDf (nmOf ds gl ci xs) d__law_book = true := by decide +kernel
theorem u__law_book : BindOk d__law_book := .non rfl fun _ _ _ _ _ _ us hl => match us, hl with | [_, _], _ => rfl
theorem c__law_edgy : ckDf (nmOf ds gl ci xs) d__law_edgy = true := by decide +kernel
theorem u__law_edgy : BindOk d__law_edgy := .non rfl fun _ _ _ _ _ _ us hl => match us, hl with | [_], _ => rfl
theorem c__law_fault : ckDf (nmOf ds gl ci xs) d__law_fault = true := by decide +kernel
theorem u__law_fault : BindOk d__law_fault := .non rfl fun _ _ _ _ _ _ us hl => match us, hl with | [_, _, _], _ => rfl
theorem c__law_thing : ckDf (nmOf ds gl ci xs) d__law_thing = true := by decide +kernel
theorem u__law_thing : BindOk d__law_thing := .non rfl fun _ _ _ _ _ _ us hl => match us, hl with | [_, _], _ => rfl
theorem c__law_is_refused : ckDf (nmOf ds gl ci xs) d__law_is_refused = true := by decide +kernel
theorem u__law_is_refused : BindOk d__law_is_refused := .non rfl fun _ _ _ _ _ _ us hl => match us, hl with | [_, _], _ => rfl
theorem c_law : ckDf (nmOf ds gl ci xs) d_law = true := by decide +kernel
theorem u_law : BindOk d_law := .non rfl fun _ _ _ _ _ _ us hl => match us, hl with | [_], _ => rfl
theorem c_all : ds.all (ckDf (nmOf ds gl ci xs)) = true := List.all_eq_true.mpr fun d hd => by
  simp only [ds, List.mem_cons, List.not_mem_nil, or_false] at hd
  rcases hd with rfl | rfl | rfl | rfl | rfl | rfl | rfl | rfl | rfl | rfl | rfl | rfl | rfl | rfl | rfl | rfl | rfl | rfl | rfl | rfl | rfl | rfl
  · exact c_is_whole
  · exact c_is_from
  · exact c_is_day
  · exact c_need_day
  · exact c_fault_of
  · exact c_faults_of
  · exact c_could_witness
  · exact c__law_pen
  · exact c__law_cell_at
  · exact c__law_draw
  · exact c__law_folk
  · exact c__law_mixed
  · exact c__law_day
  · exact c__law_few
  · exact c__law_deed
  · exact c__law_act
  · exact c__law_book
  · exact c__law_edgy
  · exact c__law_fault
  · exact c__law_thing
  · exact c__law_is_refused
  · exact c_law
theorem u_all : ∀ d ∈ ds, d.vir = none → BindOk d := by
  intro d hd hv
  simp only [ds, List.mem_cons, List.not_mem_nil, or_false] at hd
  rcases hd with rfl | rfl | rfl | rfl | rfl | rfl | rfl | rfl | rfl | rfl | rfl | rfl | rfl | rfl | rfl | rfl | rfl | rfl | rfl | rfl | rfl | rfl
  · exact u_is_whole
  · exact u_is_from
  · exact u_is_day
  · exact u_need_day
  · exact u_fault_of
  · exact u_faults_of
  · exact u_could_witness
  · exact u__law_pen
  · exact u__law_cell_at
  · exact u__law_draw
  · exact u__law_folk
  · exact u__law_mixed
  · exact u__law_day
  · exact u__law_few
  · exact u__law_deed
  · exact u__law_act
  · exact u__law_book
  · exact u__law_edgy
  · exact u__law_fault
  · exact u__law_thing
  · exact u__law_is_refused
  · exact u_law
theorem v_all : VirAll ds := by
  intro d hd v h
  simp only [ds, List.mem_cons, List.not_mem_nil, or_false] at hd
  rcases hd with rfl | rfl | rfl | rfl | rfl | rfl | rfl | rfl | rfl | rfl | rfl | rfl | rfl | rfl | rfl | rfl | rfl | rfl | rfl | rfl | rfl | rfl
  · cases h
  · cases h
  · cases h
  · cases h
  · cases h
  · cases h
  · cases h
  · cases h
  · cases h
  · cases h
  · cases h
  · cases h
  · cases h
  · cases h
  · cases h
  · cases h
  · cases h
  · cases h
  · cases h
  · cases h
  · cases h
  · cases h
end K
namespace K
open DD L2 PyProof.Rows PySem PySem.Spec
abbrev Rw : PySem.W.OpenRow := PySem.W.OpenLaw.row PySem.Challenge.rw_deedsheaf_k46_witnesses_that_could_be_no
abbrev hk : PySem.W.Hook := He.hookX 5 (faOf ds ci xs) (ds.map Df.dd) [] (tfOf ds) (exT ds gl)
def ob (s : PySem.W.SharedT) : He.AlX := He.obsX 5 (faOf ds ci xs) (ds.map Df.dd) [] (tfOf ds) (exT ds gl) (HandSHeadRun.getT s)
theorem ob_eq (s : PySem.W.SharedT) : ob s = hk.obs s.abs := He.obsX_eq (HandSHeadRun.getT_eq s)
def names : List PySem.Str := (["SheafError", "NoDay", "LAST_DAY", "is_whole", "is_from", "is_day", "need_day", "fault_of", "faults_of", "could_witness", "_law_pen", "_law_cell_at", "_law_draw", "_law_folk", "_law_mixed", "_law_day", "_law_few", "_law_deed", "_law_act", "_law_book", "_law_edgy", "_law_fault", "_law_thing", "_law_is_refused"] : List PySem.Str)
theorem run (w : World) : HandSHeadRun.RunEq Rw (PySem.W.view Rw.prog [28]) hk ob 3000 names w := by
  intro os
  kernel_rfl
end K
namespace K
open DD L2 PyProof.Rows PySem PySem.Spec
theorem facts {P : Program} {w : World} {K : PySem.W.Frag} {h : Heap} {mg : Str → Option Value} {f : Addr} (X : K.In h) (G : h.Ns mainGlobals mg) (hfa : mg ("law" : Str) = some (.ref f)) (c : He.SaysX (faOf ds ci xs) (ds.map Df.dd) [] (tfOf ds) (exT ds gl) w h K) :
    ∃ (fd : FuncData) (sp : Sp), (∀ (s : Shared) (v : Value), BindsTo s fd ⟨[v], []⟩ [("_law_script", v)]) ∧
      (∀ (H : Hp) (a : Addr) (ns : List Int), ns.length ≤ 63 → (∀ p ∈ csOf ds K, H p.2 = some (.tbl #[])) → SqL K H a (ns.map V.int) → sp [.ref a] H (fun v _ => v = .bl true) fun _ _ _ => False) ∧
      ∀ base : Heap, K.In base → base.Ns mainGlobals mg → (∀ p ∈ csOf ds K, LamX.TabB base mg p.1 p.2) → FnOk P w K mg base (L2.CX P w) 120 f fd ["_law_script"] sp := by
  obtain ⟨fd, hm, hb, hF⟩ := law_fn (P := P) X G c u_all v_all c_all 29 (f := 21) (d := d_law) rfl rfl rfl rfl
  have e := hfa.symm.trans hm
  cases e
  refine ⟨fd, _, fun s v => hb s [v] rfl, fun H a ns hl hH hS => ?_, hF⟩
  obtain ⟨outs, hp⟩ := plain ns hl
  rw [← tt] at hp
  letI : TabT := ⟨tabOfK ds K⟩
  exact law_end hS (tabs_nil hH) hp
end K
open PySem PySem.W PySem.Calls PyProof.Rows
theorem PySem.Challenge.cw_deedsheaf_k46_witnesses_that_could_be_no_holds : PySem.Challenge.rw_deedsheaf_k46_witnesses_that_could_be_no.Holds := by
  w_on; o_law
  refine HandSHeadRun.head_any (r := K.Rw) (q := view K.Rw.prog [28]) (H := K.hk) (ob := K.ob) (M := 3000) (loose := K.names) (d := HandSHeadRun.topDef K.Rw.prog 28) (kwd := []) K.ob_eq
    (by kernel_rfl) (fun s => by kernel_rfl) K.run (by kernel_rfl) (by kernel_rfl) (by kernel_rfl) (by rfl) (by first | assumption | decide +kernel) (by decide +kernel) ⟨rfl, rfl, rfl, rfl, rfl, by decide +kernel⟩ ?hw ?hc
  case hw => w_witness2
  case hc =>
    refine DD.walk_w (lw := PySem.Challenge.rw_deedsheaf_k46_witnesses_that_could_be_no) (most := 63) (kk := 120) (xp := "_law_script") rfl (by decide) (by kernel_rfl) ⟨rfl, by decide, by decide⟩ ?F
    intro w mg fa h Y G hmg0
    obtain ⟨Kf, KX, c⟩ := Y
    have hmg : mg ("law" : PySem.Str) = some (.ref fa) := by
      have e : (HandSHeadRun.topDef K.Rw.prog 28).name = ("law" : PySem.Str) := by kernel_rfl
      rw [← e]
      exact hmg0
    obtain ⟨fd, sp, hb, hsp, hF⟩ := K.facts (P := (PySem.Challenge.rw_deedsheaf_k46_witnesses_that_could_be_no).prog) (w := w) KX G hmg c
    obtain ⟨c1, c2, c3⟩ := DD.law_at KX c
    exact ⟨Kf, fd, DD.csOf K.ds Kf, sp, KX, c1, c2, c3, hb, hsp, hF⟩
