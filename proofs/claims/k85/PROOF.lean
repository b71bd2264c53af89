import PyProof.Rows.All
import Wide.All
import OpenK.AllK
import Wide.FinOn
import KE.KStateDown
import HandS.ForMost
import HandS.ForExc
import HandS.HeadHook1
import HandS.StrMore
import HandS.Replace
import HandS.SortInts
import HandS.Conv
import HandS.TupAny
import HandS.TupMul
import HandS.Deep
import HandS.IsInst
import HandS.Style
import HandS.RaiseMore
import PyProof.ReprRoads
import HandS.Ends
import HandS.Defaults
import HandS.Zip
import HandS.ExcInit
import HandS.ExcValue
import HandS.ExcIs
import HandS.ExcField
import HandS.Small
import HandS.TryOnly
import KE.KExcIs
import HandS.Head0
import HandS.Head1
import HandS.Head2
import HandS.HeadEnd
import HandS.HeadHook2
import HandS.HeadHook3
import HandS.HeadHook4
import KE.DataEq
import HandS.Words
import PyProof.ReprLen
import PySem.Challenge.RW_liftloft_k85_refusals_made
set_option Elab.async false
set_option linter.all false
set_option maxRecDepth 100000
namespace Z
open PySem PySem.Spec PyProof.Rows L2

inductive D where
  | non | bl (b : Bool) | int (i : Int) | str (x : Str)
  | tup (xs : List D) | lst (xs : List D) | dct (kvs : List (Key × D))
  | scr (ns : List Int) | obj (n : Nat) | exn (c : Str) (fs : List (Str × D))

def sOk (x : Str) : Prop := PyData.strOk x = true ∧ x.length ≤ sizeLine
/-- an exception of the class cls at a, its dict at d -/
def ExT (cls : Value) (d : Option Addr) (a : Addr) : HO := .ext fun h => ∃ (oe : Obj) (vs : Array Value), h.get? a = some oe ∧ Zc cls d oe ∧ oe.data = .fields vs
structure Wd where
  ob : Nat → Option Addr
  hf : Hp
structure Wd.Le (a b : Wd) : Prop where
  ob : ∀ n p, a.ob n = some p → b.ob n = some p
  hf : Same a.hf b.hf

mutual
def Rep (K : PySem.W.Frag) (W : Wd) : D → V → Prop
  | .non, v => v = .non
  | .bl b, v => v = .bl b
  | .int i, v => v = .int i
  | .str x, v => v = .str x ∧ sOk x
  | .tup ds, v => ∃ a vs, v = .ref a ∧ SqT K W.hf a vs ∧ Reps K W ds vs
  | .lst ds, v => ∃ a vs, v = .ref a ∧ W.hf a = some (.lst vs) ∧ Reps K W ds vs
  | .dct kvs, v => ∃ a kvs', v = .ref a ∧ W.hf a = some (.dK kvs') ∧ RepKs K W kvs kvs'
  | .scr ns, v => ∃ a, v = .ref a ∧ SqL K W.hf a (ns.map V.int)
  | .obj n, v => ∃ a, v = .ref a ∧ W.ob n = some a
  | .exn c fs, v => ∃ a d, v = .ref a ∧ W.hf a = some (ExT (.ref (He.ga K c)) d a) ∧ ((fs = [] ∧ d = none) ∨ ∃ dx gs, d = some dx ∧ W.hf dx = some (.xd gs) ∧ RepFs K W fs gs)
def Reps (K : PySem.W.Frag) (W : Wd) : List D → List V → Prop
  | [], vs => vs = []
  | d :: ds, vs => ∃ v r, vs = v :: r ∧ Rep K W d v ∧ Reps K W ds r
def RepKs (K : PySem.W.Frag) (W : Wd) : List (Key × D) → List (Key × V) → Prop
  | [], vs => vs = []
  | (k, d) :: ds, vs => ∃ v r, vs = (k, v) :: r ∧ Rep K W d v ∧ RepKs K W ds r
def RepFs (K : PySem.W.Frag) (W : Wd) : List (Str × D) → List (Str × V) → Prop
  | [], vs => vs = []
  | (k, d) :: ds, vs => ∃ v r, vs = (k, v) :: r ∧ Rep K W d v ∧ RepFs K W ds r
end

theorem SqT.mono {K : PySem.W.Frag} {H H' : Hp} {a : Addr} {xs : List V} (e : Same H H') (h : SqT K H a xs) : SqT K H' a xs := by
  rcases h with (h | ⟨o, h⟩) | h
  · exact .inl (.inl (e _ _ h))
  · exact .inl (.inr ⟨o, e _ _ h⟩)
  · exact .inr h

mutual
theorem Rep.mono {K : PySem.W.Frag} {W W' : Wd} (l : W.Le W') : ∀ (d : D) (v : V), Rep K W d v → Rep K W' d v
  | .non, _, h => h
  | .bl _, _, h => h
  | .int _, _, h => h
  | .str _, _, h => h
  | .tup ds, v, h => by
    rw [Rep] at h ⊢
    obtain ⟨a, vs, e, s, r⟩ := h
    exact ⟨a, vs, e, SqT.mono l.hf s, Reps.mono l ds vs r⟩
  | .lst ds, v, h => by
    rw [Rep] at h ⊢
    obtain ⟨a, vs, e, s, r⟩ := h
    exact ⟨a, vs, e, l.hf _ _ s, Reps.mono l ds vs r⟩
  | .dct kvs, v, h => by
    rw [Rep] at h ⊢
    obtain ⟨a, vs, e, s, r⟩ := h
    exact ⟨a, vs, e, l.hf _ _ s, RepKs.mono l kvs vs r⟩
  | .scr ns, v, h => by
    rw [Rep] at h ⊢
    obtain ⟨a, e, s⟩ := h
    refine ⟨a, e, ?_⟩
    rcases s with (s | ⟨o, s⟩) | s
    · exact .inl (.inl (l.hf _ _ s))
    · exact .inl (.inr ⟨o, l.hf _ _ s⟩)
    · exact .inr s
  | .obj n, v, h => by
    rw [Rep] at h ⊢
    obtain ⟨a, e, s⟩ := h
    exact ⟨a, e, l.ob _ _ s⟩
  | .exn c fs, v, h => by
    rw [Rep] at h ⊢
    obtain ⟨a, d, e, s, r⟩ := h
    refine ⟨a, d, e, l.hf _ _ s, r.imp id fun ⟨dx, gs, e1, e2, r⟩ => ⟨dx, gs, e1, l.hf _ _ e2, RepFs.mono l fs gs r⟩⟩
theorem Reps.mono {K : PySem.W.Frag} {W W' : Wd} (l : W.Le W') : ∀ (ds : List D) (vs : List V), Reps K W ds vs → Reps K W' ds vs
  | [], _, h => h
  | d :: ds, vs, h => by
    rw [Reps] at h ⊢
    obtain ⟨v, r, e, h1, h2⟩ := h
    exact ⟨v, r, e, Rep.mono l d v h1, Reps.mono l ds r h2⟩
theorem RepKs.mono {K : PySem.W.Frag} {W W' : Wd} (l : W.Le W') : ∀ (ds : List (Key × D)) (vs : List (Key × V)), RepKs K W ds vs → RepKs K W' ds vs
  | [], _, h => h
  | (k, d) :: ds, vs, h => by
    rw [RepKs] at h ⊢
    obtain ⟨v, r, e, h1, h2⟩ := h
    exact ⟨v, r, e, Rep.mono l d v h1, RepKs.mono l ds r h2⟩
theorem RepFs.mono {K : PySem.W.Frag} {W W' : Wd} (l : W.Le W') : ∀ (ds : List (Str × D)) (vs : List (Str × V)), RepFs K W ds vs → RepFs K W' ds vs
  | [], _, h => h
  | (k, d) :: ds, vs, h => by
    rw [RepFs] at h ⊢
    obtain ⟨v, r, e, h1, h2⟩ := h
    exact ⟨v, r, e, Rep.mono l d v h1, RepFs.mono l ds r h2⟩
end
end Z
set_option Elab.async false
set_option linter.all false
set_option maxRecDepth 100000
namespace Z
open PySem PySem.Spec PyProof.Rows L2

/-! ### the store, answers -/
structure Dr where
  cells : List Int
  left : List Int
  at_ : Int
abbrev Sto := Option Dr
structure Ex where
  cls : Str
  fs : List (Str × D)
inductive Res (α : Type) where
  | ok (a : α) (s : Sto)
  | exc (e : Ex) (s : Sto)
  | stk
def M (α : Type) := Sto → Res α
def ret {α : Type} (a : α) : M α := fun s => .ok a s
def stk {α : Type} : M α := fun _ => .stk
def bnd {α β : Type} (m : M α) (f : α → M β) : M β := fun s => match m s with
  | .ok a s' => f a s'
  | .exc e s' => .exc e s'
  | .stk => .stk
def ofO {α : Type} : Option α → M α
  | some a => ret a
  | none => stk

/-! ### the mini language -/
inductive Bop | add | sub | mul | fdiv | mod | pow
  deriving DecidableEq
inductive Cop | eq | ne | lt | le | gt | ge | is | isnot | isin | notin
  deriving DecidableEq
inductive Ty | int | bool | str | tuple | list | dict
  deriving DecidableEq
inductive Bi | len | int | str | list | tuple | sum | all | any | min | max | sorted | repr | abs | range | enumerate | zip
  deriving DecidableEq
inductive Me | append | extend | join | split | get | items | lower | upper | replace | index | lstrip
  deriving DecidableEq
inductive Tg where
  | nm (i : Nat)
  | tp (ts : List Tg)
inductive E where
  | c (d : D)
  | v (i : Nat)
  | bin (o : Bop) (a b : E)
  | neg (a : E)
  | not (a : E)
  | cmp (o : Cop) (a b : E)
  | chn (o p : Cop) (a b c : E)
  | and (a b : E)
  | or (a b : E)
  | ite (c a b : E)
  | ix (a b : E)
  | sl (a : E) (bl bh : Bool) (lo hi : E)
  | rev (a : E)
  | tup (es : List E)
  | lst (es : List E)
  | dct (ks : List Key) (vs : List E)
  | call (f : Str) (es : List E)
  | bi (b : Bi) (es : List E)
  | isi (a : E) (t : Ty)
  | me (m : Me) (o : E) (es : List E)
  | get (o k d : E)
  | lc (t : Tg) (w : List Nat) (it cnd elt : E)
  | mk (c : Str) (es : List E)
  | isc (a : E) (c : Str) (ns : List Str)
  | fld (a : E) (f : Str) (ns : List Str)
inductive S where
  | pass | brk | cont
  | ret (e : E)
  | set (t : Tg) (e : E)
  | seti (i : Nat) (k e : E)
  | app (i : Nat) (e : E)
  | ext (i : Nat) (e : E)
  | ex (e : E)
  | ite (c : E) (a b : List S)
  | for_ (t : Tg) (it : E) (b : List S)
  | while_ (c : E) (b : List S)

/-! ### values -/
mutual
def toPy : D → PyData
  | .non => .none
  | .bl b => .bool b
  | .int i => .int i
  | .str x => .str x
  | .tup ds => .tuple (toPys ds)
  | .lst ds => .list (toPys ds)
  | .dct _ => .dict []
  | .scr _ => .dict []
  | .obj _ => .dict []
  | .exn _ _ => .dict []
def toPys : List D → List PyData
  | [] => []
  | d :: ds => toPy d :: toPys ds
end
mutual
/-- data of None, truths, numbers, texts, tuples and lists alone -/
def plain : D → Bool
  | .non | .bl _ | .int _ | .str _ => true
  | .tup ds | .lst ds => plains ds
  | .dct _ | .scr _ | .obj _ | .exn _ _ => false
def plains : List D → Bool
  | [] => true
  | d :: ds => plain d && plains ds
end
mutual
/-- without lists, dicts -/
def imm : D → Bool
  | .non | .bl _ | .int _ | .str _ => true
  | .tup ds => imms ds
  | .lst _ | .dct _ | .scr _ | .obj _ | .exn _ _ => false
def imms : List D → Bool
  | [] => true
  | d :: ds => imm d && imms ds
end
/-- == -/
def eqB (x y : D) : Bool := PyData.eqv (toPy x) (toPy y)
def eqD (x y : D) : Option Bool :=
  if plain x && plain y && decide (min (toPy x).depth (toPy y).depth ≤ 64) then some (eqB x y) else none
def sgn (c : Nat) : D := .str ⟨#[c]⟩

/-- a text so many times -/
def repS (x : Str) (n : Nat) : Str := ⟨(List.replicate n x.cps.toList).flatten.toArray⟩
def binD : Bop → D → D → Option D
  | .add, .int i, .int j => some (.int (i + j))
  | .add, .str x, .str y => if x.length + y.length ≤ sizeLine then some (.str (x ++ y)) else none
  | .add, .tup xs, .tup ys => if xs.length + ys.length ≤ sizeLine then some (.tup (xs ++ ys)) else none
  | .add, .lst xs, .lst ys => if xs.length + ys.length ≤ sizeLine then some (.lst (xs ++ ys)) else none
  | .sub, .int i, .int j => some (.int (i - j))
  | .mul, .int i, .int j => if (-(2 ^ 64) < i ∧ i < 2 ^ 64) ∨ (-(2 ^ 64) < j ∧ j < 2 ^ 64) then some (.int (i * j)) else none
  | .mul, .lst xs, .int k => if -(2 ^ 63) ≤ k ∧ k < 2 ^ 63 ∧ xs.length * k.toNat ≤ sizeLine then some (.lst (List.replicate k.toNat xs).flatten) else none
  | .mul, .str x, .int k => if -(2 ^ 63) ≤ k ∧ k < 2 ^ 63 ∧ x.length * k.toNat ≤ sizeLine then some (.str (repS x k.toNat)) else none
  | .fdiv, .int i, .int j => if j ≠ 0 ∧ j.natAbs < 1073741824 then some (.int (i.fdiv j)) else none
  | .mod, .int i, .int j => if j ≠ 0 then some (.int (i.fmod j)) else none
  | .pow, .int i, .int j => if 0 ≤ j ∧ j ≤ 1000000 ∧ i.natAbs < 2 ^ 64 then some (.int (i ^ j.toNat)) else none
  | _, _, _ => none
def flatB : D → Bool
  | .non | .bl _ | .int _ | .str _ => true
  | _ => false
def keyOf : D → Option Key
  | .int i => some (.inl i)
  | .str x => some (.inr x)
  | _ => none
def lookD (kvs : List (Key × D)) (k : Key) : Option D := (kvs.find? fun kv => decide (kv.1 = k)).map (·.2)
def isNon : D → Bool
  | .non => true
  | _ => false
/-- one comparison's truth -/
def cmpD : Cop → D → D → Option Bool
  | .eq, x, y => eqD x y
  | .ne, x, y => (eqD x y).map (!·)
  | .lt, .int i, .int j => some (decide (i < j))
  | .le, .int i, .int j => some (decide (i ≤ j))
  | .gt, .int i, .int j => some (decide (j < i))
  | .ge, .int i, .int j => some (decide (j ≤ i))
  | .lt, .str i, .str j => some (decide (i.cps.toList < j.cps.toList))
  | .le, .str i, .str j => some (!decide (j.cps.toList < i.cps.toList))
  | .gt, .str i, .str j => some (decide (j.cps.toList < i.cps.toList))
  | .ge, .str i, .str j => some (!decide (i.cps.toList < j.cps.toList))
  | .is, x, .non => some (isNon x)
  | .isnot, x, .non => some (!isNon x)
  | .isin, .str x, .str y => some (!(Builtin.Str.occurrences y x 0 y.length 1).isEmpty)
  | .notin, .str x, .str y => some (!(!(Builtin.Str.occurrences y x 0 y.length 1).isEmpty))
  | .isin, x, .tup ys => if flatB x && ys.all flatB then some (ys.any fun y => eqB y x) else none
  | .isin, x, .lst ys => if flatB x && ys.all flatB then some (ys.any fun y => eqB y x) else none
  | .notin, x, .tup ys => if flatB x && ys.all flatB then some (!ys.any fun y => eqB y x) else none
  | .isin, x, .dct kvs => (keyOf x).map fun k => (lookD kvs k).isSome
  | .notin, x, .dct kvs => (keyOf x).map fun k => !(lookD kvs k).isSome
  | .notin, x, .lst ys => if flatB x && ys.all flatB then some (!ys.any fun y => eqB y x) else none
  | _, _, _ => none
def ixD : D → D → Option D
  | .lst xs, .int i => atI xs i
  | .tup xs, .int i => atI xs i
  | .str x, .int i => (atI x.cps.toList i).map sgn
  | .dct kvs, k => (keyOf k).bind (lookD kvs)
  | _, _ => none
def intM : D → M (Option Int)
  | .int i => ret (some i)
  | _ => stk
def cutD {α : Type} (xs : List α) (lo hi : Option Int) : List α :=
  (xs.drop (HT.sIx xs.length 0 lo)).take (HT.sIx xs.length xs.length hi - HT.sIx xs.length 0 lo)
def slD (x : D) (l h : Option Int) : Option D := match x with
  | .lst xs => some (.lst (cutD xs l h))
  | .tup xs => some (.tup (cutD xs l h))
  | .str s => some (.str (cutS s l h))
  | _ => none
def isD : Ty → D → Option Bool
  | _, .scr _ => none
  | _, .obj _ => none
  | _, .exn _ _ => none
  | .int, .int _ => some true
  | .int, .bl _ => some true
  | .bool, .bl _ => some true
  | .str, .str _ => some true
  | .tuple, .tup _ => some true
  | .list, .lst _ => some true
  | .dict, .dct _ => some true
  | _, _ => some false
def intsD : List D → Option (List Int)
  | [] => some []
  | .int i :: r => (intsD r).map (i :: ·)
  | _ :: _ => none
def strsD : List D → Option (List Str)
  | [] => some []
  | .str i :: r => (strsD r).map (i :: ·)
  | _ :: _ => none
def blsD : List D → Option (List Bool)
  | [] => some []
  | .bl i :: r => (blsD r).map (i :: ·)
  | _ :: _ => none
def rngD (a : Int) (n : Nat) : List D := (List.range n).map fun (k : Nat) => D.int (a + (k : Int))
def enumD (n : Nat) : List D → List D
  | [] => []
  | d :: ds => .tup [.int n, d] :: enumD (n + 1) ds
def zipD : List D → List D → List D
  | x :: xs, y :: ys => .tup [x, y] :: zipD xs ys
  | _, _ => []
/-- what is walked -/
def itD : D → Option (List D)
  | .lst xs => some xs
  | .tup xs => some xs
  | .str x => some (x.cps.toList.map sgn)
  | .scr ns => some (ns.map D.int)
  | _ => none
def maxI (a : Int) (l : List Int) : Int := l.foldl (fun m x => if x > m then x else m) a
def minI (a : Int) (l : List Int) : Int := l.foldl (fun m x => if x < m then x else m) a
def insB {α : Type} (le : α → α → Bool) (x : α) : List α → List α
  | [] => [x]
  | y :: ys => if le x y = true then x :: y :: ys else y :: insB le x ys
/-- sorted, the first ones ahead -/
def sortB {α : Type} (le : α → α → Bool) : List α → List α
  | [] => []
  | x :: xs => insB le x (sortB le xs)
def leI (x y : Int) : Bool := decide (x ≤ y)
def leS (x y : Str) : Bool := !PySem.Spec.ltCps y.cps.toList x.cps.toList
/-- a list's or a tuple's text -/
def reprD (d : D) : Option D :=
  if (plain d && (toPy d).showable && !(toPy d).hasDict && decide ((toPy d).depth ≤ 60) && PyData.strOk (toPy d).shown && decide ((toPy d).shown.length ≤ sizeLine)) = true then some (.str (toPy d).shown) else none
def biD : Bi → List D → Option D
  | .sorted, [.lst xs] => (match intsD xs with
    | some ns => some (.lst ((sortB leI ns).map D.int))
    | none => (match strsD xs with
      | some ss => if ss.length < 64 then some (.lst ((sortB leS ss).map D.str)) else none
      | none => none))
  | .len, [.lst xs] => some (.int xs.length)
  | .len, [.tup xs] => some (.int xs.length)
  | .len, [.scr xs] => some (.int xs.length)
  | .len, [.str x] => some (.int x.length)
  | .int, [.int i] => some (.int i)
  | .int, [.bl b] => some (.int (if b then 1 else 0))
  | .int, [.str x] => if x.length ≤ 640 then (PySem.intText? x).map D.int else none
  | .str, [.int i] => if i.natAbs.log2 < 1920 then some (.str (toString i)) else none
  | .list, [.lst xs] => some (.lst xs)
  | .list, [.tup xs] => some (.lst xs)
  | .tuple, [.lst xs] => some (.tup xs)
  | .tuple, [.tup xs] => some (.tup xs)
  | .sum, [.lst xs] => (intsD xs).map fun ns => .int ns.sum
  | .all, [.lst xs] => (blsD xs).map fun ns => .bl (ns.all id)
  | .any, [.lst xs] => (blsD xs).map fun ns => .bl (ns.any id)
  | .max, [.int i, .int j] => some (.int (if j > i then j else i))
  | .min, [.int i, .int j] => some (.int (if j < i then j else i))
  | .max, [.lst xs] => (intsD xs).bind fun ns => match ns with
    | [] => none
    | n :: r => some (.int (maxI n r))
  | .min, [.lst xs] => (intsD xs).bind fun ns => match ns with
    | [] => none
    | n :: r => some (.int (minI n r))
  | .abs, [.int i] => some (.int (if i < 0 then -i else i))
  | .range, [.int n] => if -1000000 ≤ n ∧ n ≤ 1000000 then some (.lst (rngD 0 n.toNat)) else none
  | .range, [.int a, .int b] => if -1000000 ≤ a ∧ a ≤ 1000000 ∧ -1000000 ≤ b ∧ b ≤ 1000000 then some (.lst (rngD a (b - a).toNat)) else none
  | .enumerate, [.lst xs] => some (.lst (enumD 0 xs))
  | .enumerate, [.scr ns] => if ns.length ≤ 16777216 then some (.lst (enumD 0 (ns.map D.int))) else none
  | .zip, [.lst xs, .lst ys] => some (.lst (zipD xs ys))
  | .zip, [.lst xs, .tup ys] => if xs.length ≤ 16777216 then some (.lst (zipD xs ys)) else none
  | .zip, [.tup xs, .lst ys] => if xs.length ≤ 16777216 then some (.lst (zipD xs ys)) else none
  | .zip, [.tup xs, .tup ys] => if xs.length ≤ 16777216 then some (.lst (zipD xs ys)) else none
  | .repr, [.non] => some (.str "None")
  | .repr, [.bl b] => some (.str (if b = true then "True" else "False"))
  | .repr, [.str x] => if PyData.strOk (reprText x) = true ∧ (reprText x).length ≤ sizeLine then some (.str (reprText x)) else none
  | .repr, [.int i] => if i.natAbs.log2 < 1920 then some (.str (toString i)) else none
  | .repr, [.lst xs] => reprD (.lst xs)
  | .repr, [.tup xs] => reprD (.tup xs)
  | _, _ => none
def meD : Me → D → List D → Option D
  | .join, .str z, [.lst xs] => (strsD xs).bind fun ys => if (ys.map (·.length)).sum + ys.length * z.length ≤ 16777216 then some (.str (Txt.join z ys)) else none
  | .join, .str z, [.tup xs] => (strsD xs).bind fun ys => if (ys.map (·.length)).sum + ys.length * z.length ≤ 16777216 then some (.str (Txt.join z ys)) else none
  | .lstrip, .str a, [.str b] => if a.length ≤ sizeLine then some (.str (Txt.lstripChars a b)) else none
  | .index, .str a, [.str b] => (match Builtin.Str.occurrences a b 0 a.length 1 with
    | i :: _ => some (.int (i : Nat))
    | [] => none)
  | .split, .str a, [.str b] => if (b.length == 0) = false ∧ a.length + 2 ≤ sizeLine then some (.lst ((Txt.split a b).map D.str)) else none
  | _, _, _ => none

def getM (x k d : D) : M D := match x with
  | .dct kvs => (match keyOf k with
    | some key => ret ((lookD kvs key).getD d)
    | none => stk)
  | _ => stk
def isDct : D → Bool
  | .dct _ => true
  | _ => false
/-- of what kind a method's receiver is -/
def meT : Me → D → Bool
  | .join, .str _ => true
  | .split, .str _ => true
  | .lower, .str _ => true
  | .upper, .str _ => true
  | .replace, .str _ => true
  | .lstrip, .str _ => true
  | .index, .str _ => true
  | .get, .dct _ => true
  | .items, .dct _ => true
  | _, _ => false
/-- exceptions are not let out -/
def nox {α : Type} (m : M α) : M α := fun s => match m s with
  | .exc _ _ => .stk
  | r => r
/-! ### exceptions -/
/-- the classes of refusals, their fields -/
def exTab : List (Str × List Str) := [("LiftError", []), ("BadTable", []), ("BadSide", []), ("BadLengths", []), ("BadDeed", []), ("TooGreat", []), ("BadProgram", ["row"]), ("BadInputs", ["place"]), ("BadRow", ["row", "word"]),
  ("BadScript", []), ("BadRun", []), ("BadOrder", []), ("BadPaper", []), ("NotStraight", []), ("Unfit", [])]
/-- a refusal made -/
def mkX (n : Str) (ds : List D) : Option Ex := match exTab.lookup n, ds with
  | some [], [_] => some ⟨n, []⟩
  | some [f], [d] => some ⟨n, [(f, d)]⟩
  | some [f, g], [d, e] => some ⟨n, [(g, e), (f, d)]⟩
  | _, _ => none
def mkD (n : Str) (ds : List D) : Option D := (mkX n ds).map fun e => .exn e.cls e.fs
/-- whether c stands under n -/
def isub (c n : Str) : Bool := decide (c = n) || (decide (n = "LiftError") || decide (n = "ValueError"))
def iscD (n : Str) (ns : List Str) : D → Option D
  | .exn c _ => if ns.contains c = true then some (.bl (isub c n)) else none
  | _ => none
def fldD (f : Str) (ns : List Str) : D → Option D
  | .exn c fs => if (ns.contains c && ((exTab.lookup c).getD []).contains f) = true then fs.lookup f else none
  | _ => none
/-! ### the evaluator -/
abbrev Ev := List (Option D)
def getS (r : Ev) (i : Nat) : Option D := (r[i]?).join
mutual
def asg : Tg → D → Ev → Option Ev
  | .nm i, d, r => some (r.set i (some d))
  | .tp ts, .tup ds, r => asgs ts ds r
  | .tp _, _, _ => none
def asgs : List Tg → List D → Ev → Option Ev
  | [], [], r => some r
  | t :: ts, d :: ds, r => (asg t d r).bind fun r' => asgs ts ds r'
  | _, _, _ => none
end
def wipeE (r : Ev) : List Nat → Ev
  | [] => r
  | v :: vs => (wipeE r vs).set v none
def lcL (f : D → M (Option D)) : List D → M (List D)
  | [] => ret []
  | d :: ds => bnd (f d) fun o => bnd (lcL f ds) fun r => ret (match o with | some y => y :: r | none => r)
abbrev Cal := Str → List D → M D
def cmpM (o : Cop) (x y : D) : M Bool := ofO (cmpD o x y)
mutual
def ev (c : Cal) : E → Ev → M D
  | .c d, _ => ret d
  | .v i, r => ofO (getS r i)
  | .bin o a b, r => bnd (ev c a r) fun x => bnd (ev c b r) fun y => ofO (binD o x y)
  | .neg a, r => bnd (ev c a r) fun x => match x with | .int i => ret (.int (-i)) | _ => stk
  | .not a, r => bnd (ev c a r) fun x => match x with | .bl b => ret (.bl (!b)) | _ => stk
  | .cmp o a b, r => bnd (ev c a r) fun x => bnd (ev c b r) fun y => bnd (cmpM o x y) fun t => ret (.bl t)
  | .chn o p a b d, r => bnd (ev c a r) fun x => bnd (ev c b r) fun y => bnd (cmpM o x y) fun t =>
      if t then bnd (ev c d r) fun z => bnd (cmpM p y z) fun t' => ret (.bl t') else ret (.bl false)
  | .and a b, r => bnd (ev c a r) fun x => match x with | .bl true => ev c b r | .bl false => ret (.bl false) | _ => stk
  | .or a b, r => bnd (ev c a r) fun x => match x with | .bl true => ret (.bl true) | .bl false => ev c b r | _ => stk
  | .ite t a b, r => bnd (ev c t r) fun x => match x with | .bl true => ev c a r | .bl false => ev c b r | _ => stk
  | .ix a b, r => bnd (ev c a r) fun x => bnd (ev c b r) fun y => ofO (ixD x y)
  | .sl a bl bh l h, r => bnd (ev c a r) fun x => bnd (if bl then bnd (ev c l r) intM else ret none) fun l' => bnd (if bh then bnd (ev c h r) intM else ret none) fun h' => ofO (slD x l' h')
  | .rev a, r => bnd (ev c a r) fun x => match x with | .lst xs => ret (.lst xs.reverse) | _ => stk
  | .tup es, r => bnd (evs c es r) fun ds => ret (.tup ds)
  | .lst es, r => bnd (evs c es r) fun ds => ret (.lst ds)
  | .dct ks vs, r => bnd (evs c vs r) fun ds => ret (.dct (ks.zip ds))
  | .call f es, r => bnd (evs c es r) fun ds => c f ds
  | .bi b es, r => bnd (evs c es r) fun ds => ofO (biD b ds)
  | .isi a t, r => bnd (ev c a r) fun x => bnd (ofO (isD t x)) fun b => ret (.bl b)
  | .me m o es, r => bnd (ev c o r) fun x => if meT m x then bnd (evs c es r) fun ds => ofO (meD m x ds) else stk
  | .get o k d, r => bnd (ev c o r) fun x => if isDct x then bnd (ev c k r) fun y => bnd (ev c d r) fun z => getM x y z else stk
  | .lc t w it cnd elt, r => bnd (ev c it r) fun x => match itD x with
    | none => stk
    | some ds => bnd (lcL (fun d => match asg t d (wipeE r w) with
      | none => stk
      | some r' => bnd (nox (ev c cnd r')) fun b => match b with
        | .bl true => bnd (nox (ev c elt r')) fun y => ret (some y)
        | .bl false => ret none
        | _ => stk) ds) fun ys => ret (.lst ys)
  | .mk n es, r => bnd (evs c es r) fun ds => ofO (mkD n ds)
  | .isc a n ns, r => bnd (ev c a r) fun x => ofO (iscD n ns x)
  | .fld a f ns, r => bnd (ev c a r) fun x => ofO (fldD f ns x)
def evs (c : Cal) : List E → Ev → M (List D)
  | [], _ => ret []
  | e :: es, r => bnd (ev c e r) fun d => bnd (evs c es r) fun ds => ret (d :: ds)
end
end Z
set_option Elab.async false
set_option linter.all false
set_option maxRecDepth 100000
namespace Z
open PySem PySem.Spec PyProof.Rows L2

/-! ### states -/
def LenOk (H : Hp) : Prop := ∀ a xs, (H a = some (.lst xs) ∨ H a = some (.tup xs)) → xs.length ≤ sizeLine
theorem LenOk.upd {H : Hp} {p : Addr} {o : HO} (h : LenOk H) (ho : ∀ xs, (o = .lst xs ∨ o = .tup xs) → xs.length ≤ sizeLine) : LenOk (upd H p o) := by
  intro a xs q
  by_cases e : a = p
  · subst e
    rw [upd_same] at q
    exact ho xs (q.imp (fun z => Option.some.inj z) fun z => Option.some.inj z)
  · rw [upd_ne e] at q
    exact h a xs q
def kCells : Str := "cells"
def kLeft : Str := "left"
def kAt : Str := "at"
def StoOk (W : Wd) (F : Addr → Prop) (H : Hp) : Sto → Prop
  | none => (∀ n, W.ob n = none) ∧ ∀ p, ¬ F p
  | some m => ∃ a c l, W.ob 0 = some a ∧ H a = some (.dK [(.inr kCells, .ref c), (.inr kLeft, .ref l), (.inr kAt, .int m.at_)]) ∧
      H c = some (.lst (m.cells.map V.int)) ∧ H l = some (.lst (m.left.map V.int)) ∧ c ≠ l ∧ ∀ p, F p ↔ (p = a ∨ p = c ∨ p = l)
structure SR (W : Wd) (F : Addr → Prop) (H : Hp) (st : Sto) : Prop where
  sub : Same W.hf H
  fh : ∀ p, F p → W.hf p = none
  len : LenOk H
  sto : StoOk W F H st
structure Ext (W : Wd) (F : Addr → Prop) (H : Hp) (W' : Wd) (F' : Addr → Prop) (H' : Hp) : Prop where
  le : W.Le W'
  keep : ∀ p o, H p = some o → ¬ F p → H' p = some o
  there : ∀ p, H' p = none → H p = none
  foot : ∀ p, F p → F' p
  newf : ∀ p, F' p → F p ∨ H p = none
  fz : ∀ p o, W'.hf p = some o → W.hf p = some o ∨ H p = none
section
variable {W W1 W2 : Wd} {F F1 F2 : Addr → Prop} {H H1 H2 : Hp} {st : Sto}
theorem Wd.Le.refl : W.Le W := ⟨fun _ _ h => h, Same.refl _⟩
theorem Wd.Le.trans (a : W.Le W1) (b : W1.Le W2) : W.Le W2 := ⟨fun n p h => b.ob n p (a.ob n p h), a.hf.trans b.hf⟩
theorem Ext.refl : Ext W F H W F H := ⟨.refl, fun _ _ h _ => h, fun _ h => h, fun _ h => h, fun _ h => .inl h, fun _ _ h => .inl h⟩
theorem Ext.trans (a : Ext W F H W1 F1 H1) (b : Ext W1 F1 H1 W2 F2 H2) : Ext W F H W2 F2 H2 where
  le := a.le.trans b.le
  keep := fun p o h hf => b.keep p o (a.keep p o h hf) fun z => (a.newf p z).elim hf fun n => by rw [h] at n; cases n
  there := fun p h => a.there p (b.there p h)
  foot := fun p h => b.foot p (a.foot p h)
  newf := fun p h => (b.newf p h).elim (a.newf p) fun n => .inr (a.there p n)
  fz := fun p o h => (b.fz p o h).elim (a.fz p o) fun n => .inr (a.there p n)
def Wd.put (W : Wd) (p : Addr) (o : HO) : Wd := ⟨W.ob, upd W.hf p o⟩
/-- a new object, frozen -/
theorem SR.laid (s : SR W F H st) {p : Addr} {o : HO} (hp : H p = none) (ho : ∀ xs, (o = .lst xs ∨ o = .tup xs) → xs.length ≤ sizeLine) : SR (W.put p o) F (upd H p o) st ∧ Ext W F H (W.put p o) F (upd H p o) := by
  have wp : W.hf p = none := by
    cases q : W.hf p with
    | none => rfl
    | some x => rw [s.sub p x q] at hp; cases hp
  have fp : ¬ F p := fun z => by
    have t := s.sto
    cases st with
    | none => exact t.2 p z
    | some m =>
      obtain ⟨a, c, l, _, ha, hc, hl, _, hF⟩ := t
      rcases (hF p).mp z with rfl | rfl | rfl
      · rw [hp] at ha; cases ha
      · rw [hp] at hc; cases hc
      · rw [hp] at hl; cases hl
  have ne : ∀ q x, H q = some x → q ≠ p := fun q x h e => by subst e; rw [hp] at h; cases h
  refine ⟨⟨fun q x h => ?_, fun q z => ?_, s.len.upd ho, ?_⟩, ⟨⟨fun _ _ h => h, fun q x h => ?_⟩, fun q x h _ => by rw [upd_ne (ne q x h)]; exact h, fun q h => ?_, fun _ h => h, fun _ h => .inl h, fun q x h => ?_⟩⟩
  · by_cases e : q = p
    · subst e
      have h' : upd W.hf q o q = some x := h
      rw [upd_same] at h'
      rw [upd_same]; exact h'
    · have h' : upd W.hf p o q = some x := h
      rw [upd_ne e] at h'
      rw [upd_ne e]; exact s.sub q x h'
  · have e : q ≠ p := fun e => fp (e ▸ z)
    show upd W.hf p o q = none
    rw [upd_ne e]; exact s.fh q z
  · have t := s.sto
    cases st with
    | none => exact t
    | some m =>
      obtain ⟨a, c, l, h0, ha, hc, hl, hne, hF⟩ := t
      exact ⟨a, c, l, h0, by rw [upd_ne (ne _ _ ha)]; exact ha, by rw [upd_ne (ne _ _ hc)]; exact hc, by rw [upd_ne (ne _ _ hl)]; exact hl, hne, hF⟩
  · show upd W.hf p o q = some x
    rw [upd_ne (fun e => by subst e; rw [wp] at h; cases h)]; exact h
  · by_cases e : q = p
    · subst e; exact hp
    · rw [upd_ne e] at h; exact h
  · by_cases e : q = p
    · subst e; exact .inr hp
    · have h' : upd W.hf p o q = some x := h
      rw [upd_ne e] at h'
      exact .inl h'
theorem Wd.put_at (W : Wd) (p : Addr) (o : HO) : (W.put p o).hf p = some o := upd_same
end

/-! ### answers -/
/-- an exception as it lies -/
def XR (K : PySem.W.Frag) (mg : Str → Option Value) (W : Wd) (H : Hp) (e : Ex) (cls : Value) (d : Option Addr) : Prop :=
  cls = .ref (He.ga K e.cls) ∧ ((e.fs = [] ∧ d = none) ∨ ∃ dx gs, d = some dx ∧ W.hf dx = some (.xd gs) ∧ RepFs K W e.fs gs)
def Pst (K : PySem.W.Frag) (mg : Str → Option Value) (Wx : WX) (σ : L2.St) (W : Wd) (F : Addr → Prop) (H : Hp) (Q : VK) : Res D → Prop
  | .ok d st' => ∀ v W' F' H', SR W' F' H' st' → Ext W F H W' F' H' → Rep K W' d v → Q v H'
  | .exc e st' => ∀ cls dx W' F' H', SR W' F' H' st' → Ext W F H W' F' H' → XR K mg W' H' e cls dx → Wx cls dx σ H'
  | .stk => False
def Psts (K : PySem.W.Frag) (mg : Str → Option Value) (Wx : WX) (σ : L2.St) (W : Wd) (F : Addr → Prop) (H : Hp) (Q : List V → Hp → Prop) : Res (List D) → Prop
  | .ok d st' => ∀ v W' F' H', SR W' F' H' st' → Ext W F H W' F' H' → Reps K W' d v → Q v H'
  | .exc e st' => ∀ cls dx W' F' H', SR W' F' H' st' → Ext W F H W' F' H' → XR K mg W' H' e cls dx → Wx cls dx σ H'
  | .stk => False
section
variable {K : PySem.W.Frag} {mg : Str → Option Value} {Wx : WX} {σ : L2.St} {W W1 : Wd} {F F1 : Addr → Prop} {H H1 : Hp} {Q : VK}
theorem Pst.ext (e : Ext W F H W1 F1 H1) : ∀ {r : Res D}, Pst K mg Wx σ W F H Q r → Pst K mg Wx σ W1 F1 H1 Q r
  | .ok _ _, h => fun v W' F' H' s x => h v W' F' H' s (e.trans x)
  | .exc _ _, h => fun c d W' F' H' s x => h c d W' F' H' s (e.trans x)
  | .stk, h => h
theorem Psts.ext {Q : List V → Hp → Prop} (e : Ext W F H W1 F1 H1) : ∀ {r : Res (List D)}, Psts K mg Wx σ W F H Q r → Psts K mg Wx σ W1 F1 H1 Q r
  | .ok _ _, h => fun v W' F' H' s x => h v W' F' H' s (e.trans x)
  | .exc _ _, h => fun c d W' F' H' s x => h c d W' F' H' s (e.trans x)
  | .stk, h => h
end
/-! ### frames -/
def RelE (K : PySem.W.Frag) (W : Wd) (vs : List Nat) (σ : L2.St) (r : Ev) : Prop := ∀ i ∈ vs, ∀ d, getS r i = some d → ∃ v, σ[i]? = some (some v) ∧ Rep K W d v
theorem RelE.mono {K : PySem.W.Frag} {W W1 : Wd} {vs : List Nat} {σ : L2.St} {r : Ev} (l : W.Le W1) (h : RelE K W vs σ r) : RelE K W1 vs σ r := fun i hi d e =>
  let ⟨v, e1, r1⟩ := h i hi d e
  ⟨v, e1, Rep.mono l d v r1⟩
theorem RelE.sub {K : PySem.W.Frag} {W : Wd} {vs ws : List Nat} {σ : L2.St} {r : Ev} (h : RelE K W vs σ r) (s : ∀ i ∈ ws, i ∈ vs) : RelE K W ws σ r := fun i hi => h i (s i hi)

/-! ### readings -/
def tz (K : PySem.W.Frag) (mg : Str → Option Value) (Wx : WX) (vs : List Nat) (m : Ev → M D) : TE := fun σ H Q =>
  ∃ W F st r, SR W F H st ∧ RelE K W vs σ r ∧ Pst K mg Wx σ W F H Q (m r st)
def tzs (K : PySem.W.Frag) (mg : Str → Option Value) (Wx : WX) (vs : List Nat) (m : Ev → M (List D)) : TA := fun σ H Q =>
  ∃ W F st r, SR W F H st ∧ RelE K W vs σ r ∧ Psts K mg Wx σ W F H Q (m r st)
def tzb (K : PySem.W.Frag) (mg : Str → Option Value) (Wx : WX) (vs : List Nat) (m : Ev → M D) : TT := fun σ H Q =>
  ∃ W F st r, SR W F H st ∧ RelE K W vs σ r ∧ Pst K mg Wx σ W F H (fun v H' => ∃ b, v = .bl b ∧ Q b H') (m r st)
theorem PE.imp {X : Cx} {e : Expr} {t t' : TE} (h : PE X e t) (i : ∀ σ H Q, t' σ H Q → t σ H Q) : PE X e t' := ⟨fun pins s σ H Q I q => h.run pins s σ H Q I (i _ _ _ q)⟩
theorem PT.imp {X : Cx} {e : Expr} {t t' : TT} (h : PT X e t) (i : ∀ σ H Q, t' σ H Q → t σ H Q) : PT X e t' := ⟨fun pins s σ H Q I q => h.run pins s σ H Q I (i _ _ _ q)⟩
theorem PW.imp {X : Cx} {e : Expr} {t t' : TT} (h : PW X e t) (i : ∀ σ H Q, t' σ H Q → t σ H Q) : PW X e t' := ⟨fun w pins s σ H Q I q => h.run w pins s σ H Q I (i _ _ _ q)⟩
theorem PA.imp {X : Cx} {e : List Expr} {t t' : TA} (h : PA X e t) (i : ∀ σ H Q, t' σ H Q → t σ H Q) : PA X e t' := ⟨fun p pins s σ H Q I q => h.run p pins s σ H Q I (i _ _ _ q)⟩
theorem PS.imp {X : Cx} {e : Stmt} {t t' : TS} (h : PS X e t) (i : ∀ D σ H, t' D σ H → t D σ H) : PS X e t' := ⟨fun pins s σ H D I q => h.run pins s σ H D I (i _ _ _ q)⟩
theorem PSs.imp {X : Cx} {e : List Stmt} {t t' : TS} (h : PSs X e t) (i : ∀ D σ H, t' D σ H → t D σ H) : PSs X e t' := ⟨fun pins s σ H D I q => h.run pins s σ H D I (i _ _ _ q)⟩
theorem PI.imp {X : Cx} {tg e : Expr} {t t' : TI} (h : PI X tg e t) (i : ∀ σ H Q, t' σ H Q → t σ H Q) : PI X tg e t' := ⟨fun pins s σ H Q I q => h.run pins s σ H Q I (i _ _ _ q)⟩
section
variable {K : PySem.W.Frag} {mg : Str → Option Value} {Wx : WX} {σ : L2.St} {W : Wd} {F : Addr → Prop} {H : Hp} {Q : VK} {st : Sto} {vs : List Nat} {r : Ev} {m : Ev → M D} {f : D → M D}
theorem tz_use {Q1 : VK} (s : SR W F H st) (re : RelE K W vs σ r) (p : Pst K mg Wx σ W F H Q (bnd (m r) f st))
    (k : ∀ d s1 v W1 F1 H1, SR W1 F1 H1 s1 → Ext W F H W1 F1 H1 → Rep K W1 d v → Pst K mg Wx σ W1 F1 H1 Q (f d s1) → Q1 v H1) : tz K mg Wx vs m σ H Q1 := by
  refine ⟨W, F, st, r, s, re, ?_⟩
  unfold bnd at p
  cases q : m r st with
  | ok d s1 =>
    rw [q] at p
    intro v W1 F1 H1 s' x rp
    exact k d s1 v W1 F1 H1 s' x rp (Pst.ext x p)
  | exc e s1 => rw [q] at p; exact p
  | stk => rw [q] at p; exact p
theorem tzs_use {ms : Ev → M (List D)} {f : List D → M D} {Q1 : List V → Hp → Prop} (s : SR W F H st) (re : RelE K W vs σ r) (p : Pst K mg Wx σ W F H Q (bnd (ms r) f st))
    (k : ∀ d s1 v W1 F1 H1, SR W1 F1 H1 s1 → Ext W F H W1 F1 H1 → Reps K W1 d v → Pst K mg Wx σ W1 F1 H1 Q (f d s1) → Q1 v H1) : tzs K mg Wx vs ms σ H Q1 := by
  refine ⟨W, F, st, r, s, re, ?_⟩
  unfold bnd at p
  cases q : ms r st with
  | ok d s1 =>
    rw [q] at p
    intro v W1 F1 H1 s' x rp
    exact k d s1 v W1 F1 H1 s' x rp (Pst.ext x p)
  | exc e s1 => rw [q] at p; exact p
  | stk => rw [q] at p; exact p
theorem tzs_useE {ms : Ev → M (List D)} {f : List D → M D} {Q1 : List V → Hp → Prop} (s : SR W F H st) (re : RelE K W vs σ r) (p : Pst K mg Wx σ W F H Q (bnd (ms r) f st))
    (k : ∀ d s1 v W1 F1 H1, ms r st = .ok d s1 → SR W1 F1 H1 s1 → Ext W F H W1 F1 H1 → Reps K W1 d v → Pst K mg Wx σ W1 F1 H1 Q (f d s1) → Q1 v H1) : tzs K mg Wx vs ms σ H Q1 := by
  refine ⟨W, F, st, r, s, re, ?_⟩
  unfold bnd at p
  cases q : ms r st with
  | ok d s1 =>
    rw [q] at p
    intro v W1 F1 H1 s' x rp
    exact k d s1 v W1 F1 H1 q s' x rp (Pst.ext x p)
  | exc e s1 => rw [q] at p; exact p
  | stk => rw [q] at p; exact p
theorem tz_useS {f : D → M (List D)} {Q : List V → Hp → Prop} {Q1 : VK} (s : SR W F H st) (re : RelE K W vs σ r) (p : Psts K mg Wx σ W F H Q (bnd (m r) f st))
    (k : ∀ d s1 v W1 F1 H1, SR W1 F1 H1 s1 → Ext W F H W1 F1 H1 → Rep K W1 d v → Psts K mg Wx σ W1 F1 H1 Q (f d s1) → Q1 v H1) : tz K mg Wx vs m σ H Q1 := by
  refine ⟨W, F, st, r, s, re, ?_⟩
  unfold bnd at p
  cases q : m r st with
  | ok d s1 =>
    rw [q] at p
    intro v W1 F1 H1 s' x rp
    exact k d s1 v W1 F1 H1 s' x rp (Psts.ext x p)
  | exc e s1 => rw [q] at p; exact p
  | stk => rw [q] at p; exact p
theorem tzs_useS {ms : Ev → M (List D)} {f : List D → M (List D)} {Q : List V → Hp → Prop} {Q1 : List V → Hp → Prop} (s : SR W F H st) (re : RelE K W vs σ r) (p : Psts K mg Wx σ W F H Q (bnd (ms r) f st))
    (k : ∀ d s1 v W1 F1 H1, SR W1 F1 H1 s1 → Ext W F H W1 F1 H1 → Reps K W1 d v → Psts K mg Wx σ W1 F1 H1 Q (f d s1) → Q1 v H1) : tzs K mg Wx vs ms σ H Q1 := by
  refine ⟨W, F, st, r, s, re, ?_⟩
  unfold bnd at p
  cases q : ms r st with
  | ok d s1 =>
    rw [q] at p
    intro v W1 F1 H1 s' x rp
    exact k d s1 v W1 F1 H1 s' x rp (Psts.ext x p)
  | exc e s1 => rw [q] at p; exact p
  | stk => rw [q] at p; exact p
/-- the end: a value that is there -/
theorem Pst.fin {d : D} {v : V} (s : SR W F H st) (p : Pst K mg Wx σ W F H Q (ret d st)) (r : Rep K W d v) : Q v H := p v W F H s .refl r
theorem Pst.finO {o : Option D} (p : Pst K mg Wx σ W F H Q (ofO o st)) : ∃ d, o = some d ∧ Pst K mg Wx σ W F H Q (ret d st) := by
  cases o with
  | none => exact False.elim p
  | some d => exact ⟨d, rfl, p⟩
/-- a new object -/
theorem Pst.new {d : D} {p : Addr} {o : HO} (s : SR W F H st) (h : Pst K mg Wx σ W F H Q (ret d st)) (hp : H p = none) (ho : ∀ xs, (o = .lst xs ∨ o = .tup xs) → xs.length ≤ sizeLine)
    (r : Rep K (W.put p o) d (.ref p)) : Q (.ref p) (upd H p o) := by
  obtain ⟨a, b⟩ := s.laid hp ho
  exact h _ _ _ _ a b r
end
theorem Reps.length {K : PySem.W.Frag} {W : Wd} : ∀ {ds : List D} {vs : List V}, Reps K W ds vs → ds.length = vs.length
  | [], _, h => by rw [Reps] at h; subst h; rfl
  | d :: ds, _, h => by
    rw [Reps] at h
    obtain ⟨v, r, rfl, _, h2⟩ := h
    simp [Reps.length h2]
theorem Reps.append {K : PySem.W.Frag} {W : Wd} : ∀ {ds es : List D} {vs us : List V}, Reps K W ds vs → Reps K W es us → Reps K W (ds ++ es) (vs ++ us)
  | [], _, _, _, h, q => by rw [Reps] at h; subst h; exact q
  | d :: ds, _, _, _, h, q => by
    rw [Reps] at h
    obtain ⟨v, r, rfl, h1, h2⟩ := h
    rw [List.cons_append, List.cons_append, Reps]
    exact ⟨v, _, rfl, h1, Reps.append h2 q⟩
theorem Reps.get {K : PySem.W.Frag} {W : Wd} : ∀ {ds : List D} {vs : List V} {i : Nat} {d : D}, Reps K W ds vs → ds[i]? = some d → ∃ v, vs[i]? = some v ∧ Rep K W d v
  | [], _, i, _, h, e => by simp at e
  | d :: ds, _, 0, _, h, e => by
    rw [Reps] at h
    obtain ⟨v, r, rfl, h1, h2⟩ := h
    simp at e; subst e
    exact ⟨v, rfl, h1⟩
  | d :: ds, _, i + 1, _, h, e => by
    rw [Reps] at h
    obtain ⟨v, r, rfl, h1, h2⟩ := h
    simp at e
    obtain ⟨u, e1, r1⟩ := Reps.get h2 e
    exact ⟨u, by simpa using e1, r1⟩
theorem Reps.take {K : PySem.W.Frag} {W : Wd} : ∀ {ds : List D} {vs : List V} (n : Nat), Reps K W ds vs → Reps K W (ds.take n) (vs.take n)
  | _, _, 0, _ => by simp [Reps]
  | [], _, n + 1, h => by rw [Reps] at h; subst h; simp [Reps]
  | d :: ds, _, n + 1, h => by
    rw [Reps] at h
    obtain ⟨v, r, rfl, h1, h2⟩ := h
    rw [List.take_succ_cons, List.take_succ_cons, Reps]
    exact ⟨v, _, rfl, h1, Reps.take n h2⟩
theorem Reps.drop {K : PySem.W.Frag} {W : Wd} : ∀ {ds : List D} {vs : List V} (n : Nat), Reps K W ds vs → Reps K W (ds.drop n) (vs.drop n)
  | _, _, 0, h => by simpa using h
  | [], _, n + 1, h => by rw [Reps] at h; subst h; simp [Reps]
  | d :: ds, _, n + 1, h => by
    rw [Reps] at h
    obtain ⟨v, r, rfl, h1, h2⟩ := h
    rw [List.drop_succ_cons, List.drop_succ_cons]
    exact Reps.drop n h2
theorem Reps.reverse {K : PySem.W.Frag} {W : Wd} : ∀ {ds : List D} {vs : List V}, Reps K W ds vs → Reps K W ds.reverse vs.reverse
  | [], _, h => by rw [Reps] at h; subst h; simp [Reps]
  | d :: ds, _, h => by
    rw [Reps] at h
    obtain ⟨v, r, rfl, h1, h2⟩ := h
    rw [List.reverse_cons, List.reverse_cons]
    exact Reps.append (Reps.reverse h2) (by rw [Reps]; exact ⟨v, [], rfl, h1, by rw [Reps]⟩)
theorem Reps.flat {K : PySem.W.Frag} {W : Wd} {ds : List D} {vs : List V} (h : Reps K W ds vs) : ∀ n : Nat, Reps K W (List.replicate n ds).flatten (List.replicate n vs).flatten
  | 0 => by simp [Reps]
  | n + 1 => by
    rw [List.replicate_succ, List.replicate_succ, List.flatten_cons, List.flatten_cons]
    exact h.append (Reps.flat h n)
end Z
set_option Elab.async false
set_option linter.all false
set_option maxRecDepth 100000
namespace Z
open PySem PySem.Spec PyProof.Rows L2

def pyB : Bop → Operator
  | .add => .Add | .sub => .Sub | .mul => .Mult | .fdiv => .FloorDiv | .mod => .Mod | .pow => .Pow
def pyC : Cop → CmpOp
  | .eq => .Eq | .ne => .NotEq | .lt => .Lt | .le => .LtE | .gt => .Gt | .ge => .GtE | .is => .Is | .isnot => .IsNot | .isin => .In | .notin => .NotIn

theorem Reps.nil_of {K : PySem.W.Frag} {W : Wd} {ds : List D} (h : Reps K W ds []) : ds = [] := List.eq_nil_of_length_eq_zero (by rw [h.length]; rfl)
theorem strOk_append {x y : Str} (a : PyData.strOk x = true) (b : PyData.strOk y = true) : PyData.strOk (x ++ y) = true := by
  unfold PyData.strOk at *
  show (x.cps ++ y.cps).all _ = true
  rw [Array.all_append, a, b]; rfl
theorem strOk_mem {x : Str} : PyData.strOk x = true ↔ ∀ c ∈ x.cps.toList, c < 0x110000 := by
  unfold PyData.strOk
  rw [← Array.all_toList, List.all_eq_true]
  simp
section
variable {X : Cx} {W : Wd} {F : Addr → Prop} {H : Hp} {st : Sto}
theorem SR.tup {K : PySem.W.Frag} {a : Addr} {vs : List V} (s : SR W F H st) (h : SqT K W.hf a vs) : SqT K H a vs := SqT.mono s.sub h
theorem SR.tlen {K : PySem.W.Frag} {a : Addr} {vs : List V} (s : SR W F H st) (h : SqT K W.hf a vs) : (∃ o, W.hf a = some (.frz o (.tup vs))) ∨ vs.length ≤ sizeLine := by
  rcases h with (h | ⟨o, h⟩) | ⟨o, its, n, _, _, _, hz, r⟩
  · exact .inr (s.len a vs (.inr (s.sub _ _ h)))
  · exact .inl ⟨o, h⟩
  · exact .inr (by have := r.length; simp only [Array.length_toList] at this; omega)

theorem rep_join (n : Nat) (a : Array Nat) : ∀ b : Array Nat, (List.replicate n a).foldl (· ++ ·) b = b ++ (List.replicate n a.toList).flatten.toArray := by
  induction n with
  | zero => intro b; simp
  | succ n ih =>
    intro b
    rw [List.replicate_succ, List.foldl_cons, ih, List.replicate_succ, List.flatten_cons]
    apply Array.toList_inj.mp
    simp
theorem repS_len {x : Str} {n : Nat} : (repS x n).length = x.length * n := by
  show ((List.replicate n x.cps.toList).flatten.toArray).size = _
  rw [List.size_toArray, List.length_flatten]
  simp [Nat.mul_comm]; rfl
theorem op_rpS : OpR X (binaryOp .Mult) (fun x y H Q => ∃ (a : Str) (k : Int), x = .str a ∧ y = .int k ∧ -(2 ^ 63) ≤ k ∧ k < 2 ^ 63 ∧ a.length * k.toNat ≤ sizeLine ∧ Q (.str (repS a k.toNat)) H) := by
  intro pins s σ H v u ov uv Q I rv ru h
  obtain ⟨a, k, rfl, rfl, h0, h1, hz, q⟩ := h
  obtain ⟨t, rfl⟩ := rv
  obtain ⟨t2, rfl⟩ := ru
  have hr : (decide (k < -(2 ^ 63 : Int)) || decide (k ≥ 2 ^ 63)) = false := by
    rw [decide_eq_false (by omega), decide_eq_false (by omega)]; rfl
  refine P.mul_str hr (fun k1 _ => ?_) (fun k1 _ => ?_) ?_
  · have h3 : (a.length : Int) * k ≤ 2 ^ 63 - 1 := by
      have e : ((a.length * k.toNat : Nat) : Int) = (a.length : Int) * k := by rw [Int.natCast_mul, Int.toNat_of_nonneg (by omega)]
      have := hz
      rw [sizeLine_eq] at this
      omega
    have := (Int.le_ediv_iff_mul_le (a := (a.length : Int)) (b := 2 ^ 63 - 1) (c := k) (by omega)).mpr h3
    omega
  · unfold PySem.Builtin.Str.tooLong
    exact decide_eq_false (by omega)
  · by_cases k0 : k < 1
    · rw [if_pos k0]
      have e : repS a k.toNat = Str.empty := by
        rw [show k.toNat = 0 from by omega]; rfl
      exact ⟨by decide, ⟨.str Str.empty, H, I.tok _, ⟨_, rfl⟩, by rw [← e]; exact q⟩⟩
    · rw [if_neg k0]
      by_cases k1 : (k == 1 || a.length == 0) = true
      · rw [if_pos k1]
        have e : repS a k.toNat = a := by
          obtain ⟨c⟩ := a
          rw [Bool.or_eq_true] at k1
          rcases k1 with k1 | k1
          · rw [eq_of_beq k1]
            show (⟨(List.replicate 1 c.toList).flatten.toArray⟩ : Str) = ⟨c⟩
            simp
          · have z : c.toList = [] := List.eq_nil_of_length_eq_zero (by have z : c.size = 0 := eq_of_beq k1; simpa using z)
            show (⟨(List.replicate k.toNat c.toList).flatten.toArray⟩ : Str) = ⟨c⟩
            rw [z]
            have : c = #[] := Array.toList_inj.mp (by simpa using z)
            subst this
            simp
        exact ⟨.str a, H, I, ⟨_, rfl⟩, by rw [← e]; exact q⟩
      · rw [if_neg k1]
        have e : (⟨(List.replicate k.toNat a.cps).foldl (· ++ ·) #[]⟩ : Str) = repS a k.toNat := by
          rw [rep_join]; simp [repS]
        rw [e]
        exact ⟨by rw [repS_len]; exact hz, ⟨.str (repS a k.toNat), H, I.tok _, ⟨_, rfl⟩, q⟩⟩
theorem sOk_rep {x : Str} {n : Nat} (k : sOk x) (hz : x.length * n ≤ sizeLine) : sOk (repS x n) := by
  refine ⟨strOk_mem.mpr fun c hc => ?_, by rw [repS_len]; exact hz⟩
  have hc : c ∈ (List.replicate n x.cps.toList).flatten := by simpa [repS] using hc
  obtain ⟨l, hl, hcl⟩ := List.mem_flatten.mp hc
  obtain ⟨_, rfl⟩ := List.mem_replicate.mp hl
  exact strOk_mem.mp k.1 c hcl
/-- a binary operation by values -/
def rB (X : Cx) (o : Bop) : R2 := fun v u H Q => ∃ x y W F st, SR W F H st ∧ Rep X.K W x v ∧ Rep X.K W y u ∧ ∃ Wx σ, Pst X.K X.mg Wx σ W F H Q (ofO (binD o x y) st)

theorem opB (o : Bop) : OpR X (binaryOp (pyB o)) (rB X o) := by
  intro pins s σ0 H v u ov uv Q I rv ru h
  obtain ⟨x, y, W, F, st, sr, rx, ry, Wx, σ, p⟩ := h
  obtain ⟨d, e, p⟩ := p.finO
  unfold binD at e
  split at e
  · cases e
    rw [Rep] at rx ry; subst rx ry
    exact op_add _ _ _ _ _ _ _ _ _ I rv ru ⟨_, _, rfl, rfl, p.fin sr (by rw [Rep])⟩
  · split at e
    · cases e
      rename_i hz
      rw [Rep] at rx ry; obtain ⟨rfl, k1⟩ := rx; obtain ⟨rfl, k2⟩ := ry
      exact op_add_str _ _ _ _ _ _ _ _ _ I rv ru ⟨_, _, rfl, rfl, hz, p.fin sr (by rw [Rep]; exact ⟨rfl, strOk_append k1.1 k2.1, Nat.le_trans (Nat.le_of_eq Array.size_append) hz⟩)⟩
    · cases e
  · split at e
    · cases e
      rename_i xs ys hz
      rw [Rep] at rx ry
      obtain ⟨a, vs, rfl, ha, ra⟩ := rx
      obtain ⟨b, us, rfl, hb, rb⟩ := ry
      have hz' : vs.length + us.length ≤ sizeLine := by rw [← ra.length, ← rb.length]; exact hz
      refine op_catA _ _ _ _ _ _ _ _ _ I rv ru ⟨a, b, vs, us, rfl, rfl, sr.tup ha, sr.tup hb, hz', fun e => ?_, fun _ e => ?_, fun _ _ q hq => ?_⟩
      · subst e
        cases Reps.nil_of ra
        exact p.fin sr (by rw [Rep]; exact ⟨b, us, rfl, hb, rb⟩)
      · subst e
        cases Reps.nil_of rb
        exact p.fin sr (by rw [Rep, List.append_nil]; exact ⟨a, vs, rfl, ha, ra⟩)
      · refine Pst.new sr p hq (fun zs z => ?_) ?_
        · rcases z with z | z
          · cases z
          · cases z; simpa using hz'
        · rw [Rep]
          exact ⟨q, _, rfl, SqT.of (W.put_at _ _), (ra.append rb).mono (sr.laid hq (fun zs z => by
            rcases z with z | z
            · cases z
            · cases z; simpa using hz')).2.le⟩
    · cases e
  · split at e
    · cases e
      rename_i xs ys hz
      rw [Rep] at rx ry
      obtain ⟨a, vs, rfl, ha, ra⟩ := rx
      obtain ⟨b, us, rfl, hb, rb⟩ := ry
      have hz' : vs.length + us.length ≤ sizeLine := by rw [← ra.length, ← rb.length]; exact hz
      refine op_cat _ _ _ _ _ _ _ _ _ I rv ru ⟨a, b, vs, us, rfl, rfl, sr.sub _ _ ha, sr.sub _ _ hb, hz', fun q hq => ?_⟩
      have hz2 : ∀ zs, (HO.lst (vs ++ us) = .lst zs ∨ HO.lst (vs ++ us) = .tup zs) → zs.length ≤ sizeLine := fun zs z => by
        rcases z with z | z
        · cases z; simpa using hz'
        · cases z
      refine Pst.new sr p hq hz2 ?_
      rw [Rep]
      exact ⟨q, _, rfl, W.put_at _ _, (ra.append rb).mono (sr.laid hq hz2).2.le⟩
    · cases e
  · cases e
    rw [Rep] at rx ry; subst rx ry
    exact op_sub _ _ _ _ _ _ _ _ _ I rv ru ⟨_, _, rfl, rfl, p.fin sr (by rw [Rep])⟩
  · split at e
    · cases e
      rename_i hz
      rw [Rep] at rx ry; subst rx ry
      exact op_mul _ _ _ _ _ _ _ _ _ I rv ru ⟨_, _, rfl, rfl, hz, p.fin sr (by rw [Rep])⟩
    · cases e
  · split at e
    · cases e
      rename_i xs k p hz
      rw [Rep] at rx; rw [Rep] at ry
      obtain ⟨a, vs, rfl, ha, ra⟩ := rx
      subst ry
      have hz' : vs.length * k.toNat ≤ sizeLine := by rw [← ra.length]; exact hz.2.2
      refine op_rep _ _ _ _ _ _ _ _ _ I rv ru ⟨a, k, vs, rfl, rfl, sr.sub _ _ ha, hz.1, hz.2.1, hz', fun q hq => ?_⟩
      have hz2 : ∀ zs, (HO.lst (List.replicate k.toNat vs).flatten = .lst zs ∨ HO.lst (List.replicate k.toNat vs).flatten = .tup zs) → zs.length ≤ sizeLine := fun zs z => by
        rcases z with z | z
        · cases z; rw [List.length_flatten]; simp [Nat.mul_comm] at *; exact hz'
        · cases z
      refine Pst.new sr p hq hz2 ?_
      rw [Rep]
      exact ⟨q, _, rfl, W.put_at _ _, (ra.flat _).mono (sr.laid hq hz2).2.le⟩
    · cases e
  · split at e
    · cases e
      rename_i x k p hz
      rw [Rep] at rx; rw [Rep] at ry
      obtain ⟨rfl, kx⟩ := rx
      subst ry
      exact op_rpS _ _ _ _ _ _ _ _ _ I rv ru ⟨x, k, rfl, rfl, hz.1, hz.2.1, hz.2.2, p.fin sr (by rw [Rep]; exact ⟨rfl, sOk_rep kx hz.2.2⟩)⟩
    · cases e
  · split at e
    · cases e
      rename_i hz
      rw [Rep] at rx ry; subst rx ry
      exact op_fdivN _ _ _ _ _ _ _ _ _ I rv ru ⟨_, _, rfl, rfl, hz, p.fin sr (by rw [Rep])⟩
    · cases e
  · split at e
    · cases e
      rename_i hz
      rw [Rep] at rx ry; subst rx ry
      exact op_modN _ _ _ _ _ _ _ _ _ I rv ru ⟨_, _, rfl, rfl, hz, p.fin sr (by rw [Rep])⟩
    · cases e
  · split at e
    · cases e
      rename_i hz
      rw [Rep] at rx ry; subst rx ry
      exact op_pow _ _ _ _ _ _ _ _ _ I rv ru ⟨_, _, rfl, rfl, hz, p.fin sr (by rw [Rep])⟩
    · cases e
  · cases e
end

/-! ### == -/
mutual
theorem rep_dp {K : PySem.W.Frag} {W : Wd} {F : Addr → Prop} {H : Hp} {st : Sto} (s : SR W F H st) : ∀ (d : D) (v : V), plain d = true → Rep K W d v → Dp K H v (toPy d) ∧ (toPy d).canLay0 = true
  | .non, _, _, h => by rw [Rep] at h; subst h; exact ⟨.non, rfl⟩
  | .bl b, _, _, h => by rw [Rep] at h; subst h; exact ⟨.bl b, rfl⟩
  | .int i, _, _, h => by rw [Rep] at h; subst h; exact ⟨.int i, rfl⟩
  | .str x, _, _, h => by rw [Rep] at h; obtain ⟨rfl, k⟩ := h; exact ⟨.str x, by simpa [toPy, PyData.canLay0] using k.1⟩
  | .tup ds, _, k, h => by
    rw [Rep] at h
    obtain ⟨a, vs, rfl, ha, ra⟩ := h
    obtain ⟨q1, q2⟩ := reps_dp s ds vs (by simpa [plain] using k) ra
    exact ⟨by rw [toPy]; exact .tup (SqT.mono s.sub ha) q1, by rw [toPy, PyData.canLay0]; exact q2⟩
  | .lst ds, _, k, h => by
    rw [Rep] at h
    obtain ⟨a, vs, rfl, ha, ra⟩ := h
    obtain ⟨q1, q2⟩ := reps_dp s ds vs (by simpa [plain] using k) ra
    exact ⟨by rw [toPy]; exact .lst (SqL.of (s.sub _ _ ha)) q1, by rw [toPy, PyData.canLay0]; exact q2⟩
  | .dct _, _, k, _ => by simp [plain] at k
  | .scr _, _, k, _ => by simp [plain] at k
  | .obj _, _, k, _ => by simp [plain] at k
  | .exn _ _, _, k, _ => by simp [plain] at k
theorem reps_dp {K : PySem.W.Frag} {W : Wd} {F : Addr → Prop} {H : Hp} {st : Sto} (s : SR W F H st) : ∀ (ds : List D) (vs : List V), plains ds = true → Reps K W ds vs → DpAll K H vs (toPys ds) ∧ PyData.canLayAll0 (toPys ds) = true
  | [], _, _, h => by rw [Reps] at h; subst h; exact ⟨by rw [toPys]; exact .nil, rfl⟩
  | d :: ds, _, k, h => by
    rw [Reps] at h
    obtain ⟨v, r, rfl, h1, h2⟩ := h
    rw [plains, Bool.and_eq_true] at k
    obtain ⟨p1, p2⟩ := rep_dp s d v k.1 h1
    obtain ⟨q1, q2⟩ := reps_dp s ds r k.2 h2
    exact ⟨by rw [toPys]; exact .cons p1 q1, by rw [toPys, PyData.canLayAll0, p2, q2]; rfl⟩
end
section
variable {X : Cx} {W : Wd} {F : Addr → Prop} {H : Hp} {st : Sto}
/-- what a comparison asks -/
def rC (X : Cx) (o : Cop) : R2 := fun v u H Q => ∃ x y W F st t, SR W F H st ∧ Rep X.K W x v ∧ Rep X.K W y u ∧ cmpD o x y = some t ∧ Q (.bl t) H

theorem flatV_of {K : PySem.W.Frag} {x : D} {v : V} (h : flatB x = true) (r : Rep K W x v) : flatV v = true := by
  cases x <;> simp only [flatB, Bool.false_eq_true] at h <;> simp only [Rep] at r <;> (first | (obtain ⟨rfl, _⟩ := r) | subst r) <;> rfl
theorem flatV_all {K : PySem.W.Frag} : ∀ {xs : List D} {vs : List V}, xs.all flatB = true → Reps K W xs vs → vs.all flatV = true
  | [], _, _, r => by rw [Reps] at r; subst r; rfl
  | d :: ds, _, h, r => by
    rw [Reps] at r
    obtain ⟨v, r, rfl, h1, h2⟩ := r
    rw [List.all_cons, Bool.and_eq_true] at h ⊢
    exact ⟨flatV_of h.1 h1, flatV_all h.2 h2⟩
theorem eqV_of {K : PySem.W.Frag} {x y : D} {v u : V} (hx : flatB x = true) (hy : flatB y = true) (rx : Rep K W x v) (ry : Rep K W y u) : eqV v u = eqB x y := by
  cases x <;> simp only [flatB, Bool.false_eq_true] at hx <;> cases y <;> simp only [flatB, Bool.false_eq_true] at hy <;> simp only [Rep] at rx ry <;>
    (first | (obtain ⟨rfl, _⟩ := rx) | subst rx) <;> (first | (obtain ⟨rfl, _⟩ := ry) | subst ry) <;> rfl
theorem inV_of {K : PySem.W.Frag} {x : D} {v : V} (hx : flatB x = true) (rx : Rep K W x v) : ∀ {ys : List D} {us : List V}, ys.all flatB = true → Reps K W ys us → inV v us = ys.any fun y => eqB y x
  | [], _, _, r => by rw [Reps] at r; subst r; rfl
  | d :: ds, _, h, r => by
    rw [Reps] at r
    obtain ⟨u, us, rfl, h1, h2⟩ := r
    rw [List.all_cons, Bool.and_eq_true] at h
    have ih := inV_of hx rx h.2 h2
    unfold inV at ih ⊢
    rw [List.any_cons, List.any_cons, eqV_of h.1 hx h1 rx, ih]

theorem isNon_of {K : PySem.W.Frag} {x : D} {v : V} (rx : Rep K W x v) : decide (v = .non) = isNon x := by
  cases x <;> simp only [Rep] at rx <;> (try obtain ⟨_, _, rfl, _⟩ := rx) <;> (try obtain ⟨_, rfl, _⟩ := rx) <;> (try obtain ⟨rfl, _⟩ := rx) <;> (try subst rx) <;> rfl
theorem RepKs.look {K : PySem.W.Frag} {W : Wd} (k : Key) : ∀ {kvs : List (Key × D)} {vs : List (Key × V)}, RepKs K W kvs vs →
    (lookD kvs k = none ∧ valV vs k = none) ∨ ∃ d v, lookD kvs k = some d ∧ valV vs k = some v ∧ Rep K W d v
  | [], _, h => by rw [RepKs] at h; subst h; exact .inl ⟨rfl, rfl⟩
  | (j, d) :: r, _, h => by
    rw [RepKs] at h
    obtain ⟨v, us, rfl, h1, h2⟩ := h
    by_cases e : j = k
    · exact .inr ⟨d, v, by simp [lookD, e], valV_pos (p := (j, v)) e, h1⟩
    · have e1 : lookD ((j, d) :: r) k = lookD r k := by simp [lookD, List.find?_cons, e]
      rw [e1, valV_neg (p := (j, v)) e]
      exact RepKs.look k h2
theorem RepKs.isSome {K : PySem.W.Frag} {W : Wd} {k : Key} {kvs : List (Key × D)} {vs : List (Key × V)} (h : RepKs K W kvs vs) : (lookD kvs k).isSome = (valV vs k).isSome := by
  rcases RepKs.look k h with ⟨a, b⟩ | ⟨d, v, a, b, _⟩
  · rw [a, b]; rfl
  · rw [a, b]; rfl
theorem keyOf_rep {K : PySem.W.Frag} {W : Wd} {x : D} {v : V} {k : Key} (h : keyOf x = some k) (r : Rep K W x v) : v = kV k := by
  cases x <;> simp only [keyOf, reduceCtorEq, Option.some.injEq] at h <;> subst h <;> rw [Rep] at r
  · subst r; rfl
  · obtain ⟨rfl, _⟩ := r; rfl
theorem opEq (hu : X.A.units + 64 < cLine) : OpR X (compareOp .Eq) (fun v u H Q => ∃ x y W F st t, SR W F H st ∧ Rep X.K W x v ∧ Rep X.K W y u ∧ eqD x y = some t ∧ Q (.bl t) H) := by
  intro pins s σ0 H v u ov uv Q I rv ru h
  obtain ⟨x, y, W, F, st, t, sr, rx, ry, e, q⟩ := h
  unfold eqD at e
  split at e
  · rename_i hc
    cases e
    simp only [Bool.and_eq_true, decide_eq_true_eq] at hc
    obtain ⟨d1, c1⟩ := rep_dp sr x v hc.1.1 rx
    obtain ⟨d2, c2⟩ := rep_dp sr y u hc.1.2 ry
    obtain ⟨as, r1⟩ := Dp.reads I _ _ ov d1 rv
    obtain ⟨bs, r2⟩ := Dp.reads I _ _ uv d2 ru
    exact SeqAt.compareEq_reads r1 r2 c1 c2 (by omega) ⟨.bl _, H, I, rfl, q⟩
  · cases e
theorem opNe (hu : X.A.units + 64 < cLine) : OpR X (compareOp .NotEq) (fun v u H Q => ∃ x y W F st t, SR W F H st ∧ Rep X.K W x v ∧ Rep X.K W y u ∧ eqD x y = some t ∧ Q (.bl (!t)) H) := by
  intro pins s σ0 H v u ov uv Q I rv ru h
  obtain ⟨x, y, W, F, st, t, sr, rx, ry, e, q⟩ := h
  unfold eqD at e
  split at e
  · rename_i hc
    cases e
    simp only [Bool.and_eq_true, decide_eq_true_eq] at hc
    obtain ⟨d1, c1⟩ := rep_dp sr x v hc.1.1 rx
    obtain ⟨d2, c2⟩ := rep_dp sr y u hc.1.2 ry
    obtain ⟨as, r1⟩ := Dp.reads I _ _ ov d1 rv
    obtain ⟨bs, r2⟩ := Dp.reads I _ _ uv d2 ru
    exact SeqAt.compareNe_reads r1 r2 c1 c2 (by omega) ⟨.bl _, H, I, rfl, q⟩
  · cases e
theorem opC (hu : X.A.units + 64 < cLine) (o : Cop) : OpR X (compareOp (pyC o)) (rC X o) := by
  intro pins s σ0 H v u ov uv Q I rv ru h
  obtain ⟨x, y, W, F, st, t, sr, rx, ry, e, q⟩ := h
  unfold cmpD at e
  split at e
  · exact opEq hu _ _ _ _ _ _ _ _ _ I rv ru ⟨_, _, W, F, st, t, sr, rx, ry, e, q⟩
  · cases z : eqD x y with
    | none => rw [z] at e; cases e
    | some b =>
      rw [z] at e
      cases e
      exact opNe hu _ _ _ _ _ _ _ _ _ I rv ru ⟨_, _, W, F, st, b, sr, rx, ry, z, q⟩
  · cases e; rw [Rep] at rx ry; subst rx ry; exact op_lt _ _ _ _ _ _ _ _ _ I rv ru ⟨_, _, rfl, rfl, q⟩
  · cases e; rw [Rep] at rx ry; subst rx ry; exact op_le _ _ _ _ _ _ _ _ _ I rv ru ⟨_, _, rfl, rfl, q⟩
  · cases e; rw [Rep] at rx ry; subst rx ry; exact op_gt _ _ _ _ _ _ _ _ _ I rv ru ⟨_, _, rfl, rfl, q⟩
  · cases e; rw [Rep] at rx ry; subst rx ry; exact op_ge _ _ _ _ _ _ _ _ _ I rv ru ⟨_, _, rfl, rfl, q⟩
  · cases e; rw [Rep] at rx ry; obtain ⟨rfl, _⟩ := rx; obtain ⟨rfl, _⟩ := ry; exact op_lt_str _ _ _ _ _ _ _ _ _ I rv ru ⟨_, _, rfl, rfl, q⟩
  · cases e; rw [Rep] at rx ry; obtain ⟨rfl, _⟩ := rx; obtain ⟨rfl, _⟩ := ry; exact op_le_str _ _ _ _ _ _ _ _ _ I rv ru ⟨_, _, rfl, rfl, q⟩
  · cases e; rw [Rep] at rx ry; obtain ⟨rfl, _⟩ := rx; obtain ⟨rfl, _⟩ := ry; exact op_gt_str _ _ _ _ _ _ _ _ _ I rv ru ⟨_, _, rfl, rfl, q⟩
  · cases e; rw [Rep] at rx ry; obtain ⟨rfl, _⟩ := rx; obtain ⟨rfl, _⟩ := ry; exact op_ge_str _ _ _ _ _ _ _ _ _ I rv ru ⟨_, _, rfl, rfl, q⟩
  · cases e
    rw [Rep] at ry; subst ry
    refine op_isN _ _ _ _ _ _ _ _ _ I rv ru ⟨rfl, ?_⟩
    rw [isNon_of rx]; exact q
  · cases e
    rw [Rep] at ry; subst ry
    refine op_notN _ _ _ _ _ _ _ _ _ I rv ru ⟨rfl, ?_⟩
    rw [isNon_of rx]; exact q
  · cases e; rw [Rep] at rx ry; obtain ⟨rfl, _⟩ := rx; obtain ⟨rfl, _⟩ := ry; exact op_in_str _ _ _ _ _ _ _ _ _ I rv ru ⟨_, _, rfl, rfl, q⟩
  · cases e; rw [Rep] at rx ry; obtain ⟨rfl, _⟩ := rx; obtain ⟨rfl, _⟩ := ry; exact op_notin_str _ _ _ _ _ _ _ _ _ I rv ru ⟨_, _, rfl, rfl, q⟩
  · split at e
    · rename_i hc
      cases e
      rw [Bool.and_eq_true] at hc
      rw [Rep] at ry
      obtain ⟨b, us, rfl, hb, rb⟩ := ry
      refine op_in_seq _ _ _ _ _ _ _ _ _ I rv ru ⟨b, us, rfl, .inr (sr.tup hb), flatV_of hc.1 rx, flatV_all hc.2 rb, ?_⟩
      rw [inV_of hc.1 rx hc.2 rb]; exact q
    · cases e
  · split at e
    · rename_i hc
      cases e
      rw [Bool.and_eq_true] at hc
      rw [Rep] at ry
      obtain ⟨b, us, rfl, hb, rb⟩ := ry
      refine op_in_seq _ _ _ _ _ _ _ _ _ I rv ru ⟨b, us, rfl, .inl (SqL.of (sr.sub _ _ hb)), flatV_of hc.1 rx, flatV_all hc.2 rb, ?_⟩
      rw [inV_of hc.1 rx hc.2 rb]; exact q
    · cases e
  · split at e
    · rename_i hc
      cases e
      rw [Bool.and_eq_true] at hc
      rw [Rep] at ry
      obtain ⟨b, us, rfl, hb, rb⟩ := ry
      refine op_notIn_seq _ _ _ _ _ _ _ _ _ I rv ru ⟨b, us, rfl, .inr (sr.tup hb), flatV_of hc.1 rx, flatV_all hc.2 rb, ?_⟩
      rw [inV_of hc.1 rx hc.2 rb]; exact q
    · cases e
  · rw [Option.map_eq_some_iff] at e
    obtain ⟨k, e, rfl⟩ := e
    have ek := keyOf_rep e rx
    rw [Rep] at ry
    obtain ⟨b, us, rfl, hb, rb⟩ := ry
    obtain rfl : uv = Value.ref b := ru
    refine d_in (by omega) I (.inl ⟨us, k, .inl (sr.sub _ _ hb), ek, rfl⟩) rv fun s' I' => ⟨.bl _, H, I', rfl, ?_⟩
    rw [← rb.isSome]; exact q
  · rw [Option.map_eq_some_iff] at e
    obtain ⟨k, e, rfl⟩ := e
    have ek := keyOf_rep e rx
    rw [Rep] at ry
    obtain ⟨b, us, rfl, hb, rb⟩ := ry
    obtain rfl : uv = Value.ref b := ru
    refine d_notIn (by omega) I (.inl ⟨us, k, .inl (sr.sub _ _ hb), ek, rfl⟩) rv fun s' I' => ⟨.bl _, H, I', rfl, ?_⟩
    rw [← rb.isSome]; exact q
  · split at e
    · rename_i hc
      cases e
      rw [Bool.and_eq_true] at hc
      rw [Rep] at ry
      obtain ⟨b, us, rfl, hb, rb⟩ := ry
      refine op_notIn_seq _ _ _ _ _ _ _ _ _ I rv ru ⟨b, us, rfl, .inl (SqL.of (sr.sub _ _ hb)), flatV_of hc.1 rx, flatV_all hc.2 rb, ?_⟩
      rw [inV_of hc.1 rx hc.2 rb]; exact q
    · cases e
  · cases e
end
end Z
set_option Elab.async false
set_option linter.all false
set_option maxRecDepth 100000
namespace Z
open PySem PySem.Spec PyProof.Rows L2 TL

def biVal : Bi → Value
  | .len => .builtin "len" | .int => .type "int" | .str => .type "str" | .list => .type "list" | .tuple => .type "tuple" | .sum => .builtin "sum"
  | .all => .builtin "all" | .any => .builtin "any" | .min => .builtin "min" | .max => .builtin "max" | .sorted => .builtin "sorted" | .repr => .builtin "repr"
  | .abs => .builtin "abs" | .range => .type "range" | .enumerate => .type "enumerate" | .zip => .type "zip"
theorem Reps.ints {K : PySem.W.Frag} {W : Wd} : ∀ {ds : List D} {vs : List V} {ns : List Int}, Reps K W ds vs → intsD ds = some ns → vs = ns.map V.int
  | [], _, _, h, e => by rw [Reps] at h; simp [intsD] at e; subst e h; rfl
  | d :: ds, _, ns, h, e => by
    rw [Reps] at h
    obtain ⟨v, r, rfl, h1, h2⟩ := h
    cases d <;> simp only [intsD, reduceCtorEq, Option.map_eq_some_iff] at e
    obtain ⟨ms, e1, rfl⟩ := e
    rw [Rep] at h1; subst h1
    rw [Reps.ints h2 e1]; rfl
theorem Reps.strs {K : PySem.W.Frag} {W : Wd} : ∀ {ds : List D} {vs : List V} {ns : List Str}, Reps K W ds vs → strsD ds = some ns → vs = ns.map V.str ∧ ∀ x ∈ ns, sOk x
  | [], _, _, h, e => by rw [Reps] at h; simp [strsD] at e; subst e h; exact ⟨rfl, fun _ z => by cases z⟩
  | d :: ds, _, ns, h, e => by
    rw [Reps] at h
    obtain ⟨v, r, rfl, h1, h2⟩ := h
    cases d <;> simp only [strsD, reduceCtorEq, Option.map_eq_some_iff] at e
    obtain ⟨ms, e1, rfl⟩ := e
    rw [Rep] at h1; obtain ⟨rfl, k⟩ := h1
    obtain ⟨q1, q2⟩ := Reps.strs h2 e1
    refine ⟨by rw [q1]; rfl, fun x hx => ?_⟩
    rcases List.mem_cons.mp hx with rfl | hx
    · exact k
    · exact q2 x hx
theorem Reps.bls {K : PySem.W.Frag} {W : Wd} : ∀ {ds : List D} {vs : List V} {ns : List Bool}, Reps K W ds vs → blsD ds = some ns → vs = ns.map V.bl
  | [], _, _, h, e => by rw [Reps] at h; simp [blsD] at e; subst e h; rfl
  | d :: ds, _, ns, h, e => by
    rw [Reps] at h
    obtain ⟨v, r, rfl, h1, h2⟩ := h
    cases d <;> simp only [blsD, reduceCtorEq, Option.map_eq_some_iff] at e
    obtain ⟨ms, e1, rfl⟩ := e
    rw [Rep] at h1; subst h1
    rw [Reps.bls h2 e1]; rfl
theorem maxI_spec : ∀ (l : List Int) (a : Int), maxI a l ∈ a :: l ∧ ∀ y ∈ a :: l, y ≤ maxI a l
  | [], a => ⟨by simp [maxI], fun y hy => by simp at hy; subst hy; simp [maxI]⟩
  | b :: l, a => by
    have e : maxI a (b :: l) = maxI (if b > a then b else a) l := rfl
    obtain ⟨h1, h2⟩ := maxI_spec l (if b > a then b else a)
    rw [e]
    refine ⟨?_, fun y hy => ?_⟩
    · rcases List.mem_cons.mp h1 with q | q
      · rw [q]; split <;> simp
      · exact List.mem_cons_of_mem _ (List.mem_cons_of_mem _ q)
    · have h3 := h2 _ (List.mem_cons_self ..)
      rcases List.mem_cons.mp hy with q | q
      · subst q; by_cases z : b > y
        · rw [if_pos z] at h3 ⊢; omega
        · rw [if_neg z] at h3 ⊢; exact h3
      · rcases List.mem_cons.mp q with q | q
        · subst q; by_cases z : y > a
          · rw [if_pos z] at h3 ⊢; exact h3
          · rw [if_neg z] at h3 ⊢; omega
        · exact h2 y (List.mem_cons_of_mem _ q)
theorem minI_spec : ∀ (l : List Int) (a : Int), minI a l ∈ a :: l ∧ ∀ y ∈ a :: l, minI a l ≤ y
  | [], a => ⟨by simp [minI], fun y hy => by simp at hy; subst hy; simp [minI]⟩
  | b :: l, a => by
    have e : minI a (b :: l) = minI (if b < a then b else a) l := rfl
    obtain ⟨h1, h2⟩ := minI_spec l (if b < a then b else a)
    rw [e]
    refine ⟨?_, fun y hy => ?_⟩
    · rcases List.mem_cons.mp h1 with q | q
      · rw [q]; split <;> simp
      · exact List.mem_cons_of_mem _ (List.mem_cons_of_mem _ q)
    · have h3 := h2 _ (List.mem_cons_self ..)
      rcases List.mem_cons.mp hy with q | q
      · subst q; by_cases z : b < y
        · rw [if_pos z] at h3 ⊢; omega
        · rw [if_neg z] at h3 ⊢; exact h3
      · rcases List.mem_cons.mp q with q | q
        · subst q; by_cases z : y < a
          · rw [if_pos z] at h3 ⊢; exact h3
          · rw [if_neg z] at h3 ⊢; omega
        · exact h2 y (List.mem_cons_of_mem _ q)
theorem log_lt {n : Nat} (h : n.log2 < 1920) : n < 10 ^ 1920 := by
  have h1 : n < 2 ^ 1920 := by
    by_cases z : n = 0
    · subst z; exact Nat.two_pow_pos _
    · exact (Nat.log2_lt z).mp h
  exact Nat.lt_of_lt_of_le h1 (Nat.pow_le_pow_left (by decide) _)
theorem numL_small {n : Nat} (h : n.log2 < 1920) : (numL n).length ≤ 1920 := numL_len (by decide) (log_lt h)
theorem tl_int (i : Int) : (Str.ofString (toString i)).cps.toList = (if i < 0 then [45] else []) ++ numL i.natAbs := by
  cases i with
  | ofNat n =>
    rw [if_neg (by simp)]
    exact tl_num n
  | negSucc n =>
    rw [if_pos (Int.negSucc_lt_zero n)]
    have h := tl_num (n + 1)
    rw [PySem.Str.ofString_eq_toList] at h ⊢
    show ((toString (Int.negSucc n)).toList.map Char.toNat) = [45] ++ numL (n + 1)
    rw [← h]
    have e : toString (Int.negSucc n) = "-" ++ toString (((n + 1 : Nat)) : Int) := rfl
    rw [e, String.toList_append, List.map_append]
    rfl
theorem sOk_num {i : Int} (h : i.natAbs.log2 < 1920) : sOk (Str.ofString (toString i)) := by
  have hl := numL_small h
  have e := tl_int i
  refine ⟨strOk_mem.mpr fun c hc => ?_, ?_⟩
  · rw [e] at hc
    rcases List.mem_append.mp hc with q | q
    · split at q
      · rw [List.mem_singleton.mp q]; decide
      · cases q
    · have := numL_digits _ c q; omega
  · show (Str.ofString (toString i)).cps.size ≤ sizeLine
    have : (Str.ofString (toString i)).cps.size ≤ 1921 := by
      rw [← Array.length_toList, e, List.length_append]
      have : (if i < 0 then [45] else ([] : List Nat)).length ≤ 1 := by split <;> simp
      omega
    exact Nat.le_trans this (by decide)
section
variable {X : Cx}
def rBi (X : Cx) (b : Bi) : List V → Hp → VK → Prop := fun vs H Q => ∃ ds W F st, SR W F H st ∧ Reps X.K W ds vs ∧ ∃ Wx σ, Pst X.K X.mg Wx σ W F H Q (ofO (biD b ds) st)
theorem Reps.one {K : PySem.W.Frag} {W : Wd} {d : D} {vs : List V} (h : Reps K W [d] vs) : ∃ v, vs = [v] ∧ Rep K W d v := by
  rw [Reps] at h
  obtain ⟨v, r, rfl, h1, h2⟩ := h
  rw [Reps] at h2; subst h2
  exact ⟨v, rfl, h1⟩
theorem Reps.two {K : PySem.W.Frag} {W : Wd} {d e : D} {vs : List V} (h : Reps K W [d, e] vs) : ∃ v u, vs = [v, u] ∧ Rep K W d v ∧ Rep K W e u := by
  rw [Reps] at h
  obtain ⟨v, r, rfl, h1, h2⟩ := h
  obtain ⟨u, rfl, h3⟩ := h2.one
  exact ⟨v, u, rfl, h1, h3⟩
theorem newL {W : Wd} {F : Addr → Prop} {H : Hp} {st : Sto} {Wx : WX} {σ : L2.St} {Q : VK} {ds : List D} {vs : List V} {p : Addr} (sr : SR W F H st) (h : Pst X.K X.mg Wx σ W F H Q (ret (.lst ds) st)) (r : Reps X.K W ds vs) (hz : vs.length ≤ sizeLine) (hp : H p = none) : Q (.ref p) (upd H p (.lst vs)) := by
  have hz2 : ∀ zs, (HO.lst vs = .lst zs ∨ HO.lst vs = .tup zs) → zs.length ≤ sizeLine := fun zs z => by
    rcases z with z | z
    · cases z; exact hz
    · cases z
  refine Pst.new sr h hp hz2 ?_
  rw [Rep]
  exact ⟨p, _, rfl, W.put_at _ _, r.mono (sr.laid hp hz2).2.le⟩
theorem newT {W : Wd} {F : Addr → Prop} {H : Hp} {st : Sto} {Wx : WX} {σ : L2.St} {Q : VK} {ds : List D} {vs : List V} {p : Addr} (sr : SR W F H st) (h : Pst X.K X.mg Wx σ W F H Q (ret (.tup ds) st)) (r : Reps X.K W ds vs) (hz : vs.length ≤ sizeLine) (hp : H p = none) : Q (.ref p) (upd H p (.tup vs)) := by
  have hz2 : ∀ zs, (HO.tup vs = .lst zs ∨ HO.tup vs = .tup zs) → zs.length ≤ sizeLine := fun zs z => by
    rcases z with z | z
    · cases z
    · cases z; exact hz
  refine Pst.new sr h hp hz2 ?_
  rw [Rep]
  exact ⟨p, _, rfl, SqT.of (W.put_at _ _), r.mono (sr.laid hp hz2).2.le⟩

theorem insB_perm {α : Type} (le : α → α → Bool) (x : α) : ∀ ys : List α, (insB le x ys).Perm (x :: ys)
  | [] => List.Perm.refl _
  | y :: ys => by
    unfold insB
    split
    · exact List.Perm.refl _
    · exact ((insB_perm le x ys).cons y).trans (List.Perm.swap x y ys)
theorem sortB_perm {α : Type} (le : α → α → Bool) : ∀ xs : List α, (sortB le xs).Perm xs
  | [] => List.Perm.refl _
  | x :: xs => (insB_perm le x _).trans ((sortB_perm le xs).cons x)
theorem insB_pw {α : Type} {le : α → α → Bool} (tr : ∀ a b c, le a b = true → le b c = true → le a c = true) (to : ∀ a b, le a b = true ∨ le b a = true) (x : α) : ∀ ys : List α, ys.Pairwise (fun a b => le a b = true) → (insB le x ys).Pairwise (fun a b => le a b = true)
  | [], _ => by unfold insB; exact List.pairwise_singleton _ _
  | y :: ys, h => by
    obtain ⟨h1, h2⟩ := List.pairwise_cons.mp h
    unfold insB
    split
    · rename_i e
      refine List.pairwise_cons.mpr ⟨fun z hz => ?_, h⟩
      rcases List.mem_cons.mp hz with rfl | hz
      · exact e
      · exact tr _ _ _ e (h1 z hz)
    · rename_i e
      refine List.pairwise_cons.mpr ⟨fun z hz => ?_, insB_pw tr to x ys h2⟩
      rcases List.mem_cons.mp ((insB_perm le x ys).mem_iff.mp hz) with rfl | hz
      · exact (to z y).resolve_left e
      · exact h1 z hz
theorem sortB_pw {α : Type} {le : α → α → Bool} (tr : ∀ a b c, le a b = true → le b c = true → le a c = true) (to : ∀ a b, le a b = true ∨ le b a = true) : ∀ xs : List α, (sortB le xs).Pairwise (fun a b => le a b = true)
  | [] => List.Pairwise.nil
  | x :: xs => insB_pw tr to x _ (sortB_pw tr to xs)
theorem pw_uniq {α : Type} {le : α → α → Bool} (an : ∀ a b, le a b = true → le b a = true → a = b) : ∀ {a b : List α}, a.Perm b → a.Pairwise (fun a b => le a b = true) → b.Pairwise (fun a b => le a b = true) → a = b
  | [], b, h, _, _ => h.nil_eq
  | x :: r, [], h, _, _ => absurd h.length_eq (by simp)
  | x :: r, y :: t, h, ha, hb => by
    obtain ⟨a1, a2⟩ := List.pairwise_cons.mp ha
    obtain ⟨b1, b2⟩ := List.pairwise_cons.mp hb
    have e : x = y := by
      rcases List.mem_cons.mp (h.subset (List.mem_cons_self ..)) with e | hx
      · exact e
      rcases List.mem_cons.mp (h.symm.subset (List.mem_cons_self ..)) with e | hy
      · exact e.symm
      exact an _ _ (a1 y hy) (b1 x hx)
    subst e
    rw [pw_uniq an h.cons_inv a2 b2]
theorem ltc_irr : ∀ a : List Nat, ltCps a a = false
  | [] => rfl
  | a :: r => by rw [ltCps, ltc_irr r]; simp
theorem ltc_tr : ∀ a b c : List Nat, ltCps b a = false → ltCps c b = false → ltCps c a = false
  | [], _, [], _, _ => rfl
  | [], _, _ :: _, _, _ => rfl
  | _ :: _, [], _, h, _ => by cases h
  | _ :: _, _ :: _, [], _, h => by cases h
  | a :: r, b :: t, c :: u, h1, h2 => by
    rw [ltCps] at h1 h2 ⊢
    simp only [Bool.or_eq_false_iff, Bool.and_eq_false_iff, decide_eq_false_iff_not, beq_eq_false_iff_ne] at h1 h2 ⊢
    refine ⟨by omega, ?_⟩
    by_cases e : c = a
    · have e1 : b = a := by omega
      have e2 : c = b := by omega
      refine .inr (ltc_tr r t u ?_ ?_)
      · exact h1.2.resolve_left fun z => z e1
      · exact h2.2.resolve_left fun z => z e2
    · exact .inl e
theorem ltc_to : ∀ a b : List Nat, ltCps a b = false ∨ ltCps b a = false
  | [], [] => .inl rfl
  | [], _ :: _ => .inr rfl
  | _ :: _, [] => .inl rfl
  | a :: r, b :: t => by
    rw [ltCps, ltCps]
    simp only [Bool.or_eq_false_iff, Bool.and_eq_false_iff, decide_eq_false_iff_not, beq_eq_false_iff_ne]
    by_cases h : a < b
    · exact .inr ⟨by omega, .inl (by omega)⟩
    · by_cases h2 : b < a
      · exact .inl ⟨by omega, .inl (by omega)⟩
      · rcases ltc_to r t with e | e
        · exact .inl ⟨h, .inr e⟩
        · exact .inr ⟨h2, .inr e⟩
theorem ltc_eq : ∀ a b : List Nat, ltCps a b = false → ltCps b a = false → a = b
  | [], [], _, _ => rfl
  | [], _ :: _, h, _ => by cases h
  | _ :: _, [], _, h => by cases h
  | a :: r, b :: t, h1, h2 => by
    rw [ltCps] at h1 h2
    simp only [Bool.or_eq_false_iff, Bool.and_eq_false_iff, decide_eq_false_iff_not, beq_eq_false_iff_ne] at h1 h2
    have e : a = b := by omega
    subst e
    rw [ltc_eq r t (h1.2.resolve_left fun z => z rfl) (h2.2.resolve_left fun z => z rfl)]
theorem leS_tr (a b c : Str) (h1 : leS a b = true) (h2 : leS b c = true) : leS a c = true := by
  unfold leS at *
  rw [Bool.not_eq_true'] at *
  exact ltc_tr _ _ _ h1 h2
theorem leS_to (a b : Str) : leS a b = true ∨ leS b a = true := by
  unfold leS
  rw [Bool.not_eq_true', Bool.not_eq_true']
  exact (ltc_to _ _).symm
theorem leS_an (a b : Str) (h1 : leS a b = true) (h2 : leS b a = true) : a = b := by
  unfold leS at *
  rw [Bool.not_eq_true'] at *
  obtain ⟨⟨a⟩⟩ := a
  obtain ⟨⟨b⟩⟩ := b
  have := ltc_eq _ _ h2 h1
  simp at this
  rw [this]
theorem leI_tr (a b c : Int) (h1 : leI a b = true) (h2 : leI b c = true) : leI a c = true := by
  unfold leI at *
  rw [decide_eq_true_eq] at *; omega
theorem leI_to (a b : Int) : leI a b = true ∨ leI b a = true := by
  unfold leI
  rw [decide_eq_true_eq, decide_eq_true_eq]; omega
theorem leI_an (a b : Int) (h1 : leI a b = true) (h2 : leI b a = true) : a = b := by
  unfold leI at *
  rw [decide_eq_true_eq] at *; omega
theorem rising_pw : ∀ (r : List Str) (p : Str), risingS p r = true → (p :: r).Pairwise (fun a b => leS a b = true)
  | [], p, _ => List.pairwise_singleton _ _
  | x :: r, p, h => by
    rw [risingS, Bool.and_eq_true] at h
    have ih := rising_pw r x h.2
    refine List.pairwise_cons.mpr ⟨fun z hz => ?_, ih⟩
    rcases List.mem_cons.mp hz with rfl | hz
    · exact h.1
    · exact leS_tr _ _ _ h.1 ((List.pairwise_cons.mp ih).1 z hz)
theorem sortedS_pw {r : List Str} (h : sortedS r = true) : r.Pairwise (fun a b => leS a b = true) := by
  cases r with
  | nil => exact List.Pairwise.nil
  | cons x r => exact rising_pw r x h
theorem sortI_eq {a b : List Int} (h : a.Perm b) (p : a.Pairwise (· ≤ ·)) : a = sortB leI b :=
  pw_uniq leI_an (h.trans (sortB_perm leI b).symm) (p.imp fun {x y} e => by unfold leI; exact decide_eq_true e) (sortB_pw leI_tr leI_to b)
theorem sortS_eq {a b : List Str} (h : a.Perm b) (p : sortedS a = true) : a = sortB leS b :=
  pw_uniq leS_an (h.trans (sortB_perm leS b).symm) (sortedS_pw p) (sortB_pw leS_tr leS_to b)
theorem reps_intsL {K : PySem.W.Frag} {W : Wd} : ∀ ns : List Int, Reps K W (ns.map D.int) (ns.map V.int)
  | [] => by rw [List.map_nil, List.map_nil, Reps]
  | n :: ns => by
    rw [List.map_cons, List.map_cons, Reps]
    exact ⟨_, _, rfl, by rw [Rep], reps_intsL ns⟩
theorem reps_strsL {K : PySem.W.Frag} {W : Wd} : ∀ {ns : List Str}, (∀ x ∈ ns, sOk x) → Reps K W (ns.map D.str) (ns.map V.str)
  | [], _ => by rw [List.map_nil, List.map_nil, Reps]
  | n :: ns, h => by
    rw [List.map_cons, List.map_cons, Reps]
    exact ⟨_, _, rfl, by rw [Rep]; exact ⟨rfl, h n (by simp)⟩, reps_strsL fun x hx => h x (List.mem_cons_of_mem _ hx)⟩
theorem sOk_tf (b : Bool) : sOk (if b = true then "True" else "False") := by cases b <;> exact ⟨by decide +kernel, by decide +kernel⟩
theorem repr_ok {Wx : WX} {σ' : L2.St} {W : Wd} {F : Addr → Prop} {st : Sto} {d d' : D} {a : Addr} {u : Value} {pins : List (Addr × Obj)} {σ : L2.St} {H : Hp} {s : Shared} {Q : VK} (hg : X.A.guards = some []) (hu : X.A.units + 64 < cLine) (I : Inv X pins σ H s) (sr : SR W F H st)
    (r : Rep X.K W d (.ref a)) (ru : RelV (.ref a) u) (e : reprD d = some d') (p : Pst X.K X.mg Wx σ' W F H Q (ret d' st)) : wpAny (model X.prog X.w) X.A (call (.builtin "repr") [u]) (EP X pins σ Q) X.xe s := by
  unfold reprD at e
  split at e
  · rename_i h
    cases e
    simp only [Bool.and_eq_true, Bool.not_eq_true', decide_eq_true_eq] at h
    obtain ⟨⟨⟨⟨⟨h1, h2⟩, h3⟩, h4⟩, h5⟩, h6⟩ := h
    obtain ⟨as, rd⟩ := Dp.reads I _ _ _ (rep_dp sr d _ h1 r).1 ru
    cases ru
    exact repr_of_reads' rd h2 (fun z => by rw [h3] at z; cases z) hg (by omega) (fun b o z => z) (fun h' t tk k => ⟨.str _, H, I.kept k, ⟨_, rfl⟩, p.fin sr (by rw [Rep]; exact ⟨rfl, h5, h6⟩)⟩) h6
  · cases e
theorem biOk (hc : X.calm = true) (hg : X.A.guards = some []) (hu : X.A.units + 64 < cLine) (b : Bi) (hb : b ≠ .range ∧ b ≠ .enumerate ∧ b ≠ .zip) : CallR X (biVal b) (rBi X b) := by
  intro pins s σ0 H vs us Q I rv h
  obtain ⟨ds, W, F, st, sr, rs, Wx, σ, p⟩ := h
  obtain ⟨d, e, p⟩ := p.finO
  unfold biD at e
  split at e
  · obtain ⟨v, rfl, r⟩ := rs.one
    rw [Rep] at r; obtain ⟨a, vs, rfl, ha, ra⟩ := r
    have hz := sr.len a vs (.inl (sr.sub _ _ ha))
    split at e
    · rename_i ns hi
      cases e
      have z := ra.ints hi; subst z
      refine cr_sortedI _ _ _ _ _ _ _ I rv ⟨a, ns, rfl, SqL.of (sr.sub _ _ ha), fun ns' q h1 h2 hq => ?_⟩
      rw [sortI_eq h1 h2]
      refine newL sr p (reps_intsL _) ?_ hq
      rw [List.length_map, (sortB_perm leI ns).length_eq, ← List.length_map (f := V.int)]; exact hz
    · split at e
      · rename_i ss hs
        split at e
        · rename_i h64
          cases e
          obtain ⟨z, ks⟩ := ra.strs hs; subst z
          refine cr_sortedS _ _ _ _ _ _ _ I rv ⟨a, ss, rfl, SqL.of (sr.sub _ _ ha), h64, fun ns' q h1 h2 hq => ?_⟩
          rw [sortS_eq h1 h2]
          refine newL sr p (reps_strsL fun x hx => ks x ((sortB_perm leS ss).mem_iff.mp hx)) ?_ hq
          rw [List.length_map, (sortB_perm leS ss).length_eq, ← List.length_map (f := V.str)]; exact hz
        · cases e
      · cases e
  · cases e
    obtain ⟨v, rfl, r⟩ := rs.one
    rw [Rep] at r; obtain ⟨a, vs, rfl, ha, ra⟩ := r
    exact call_len_seq _ _ _ _ _ _ _ I rv ⟨a, vs, rfl, .inl (SqL.of (sr.sub _ _ ha)), by rw [← ra.length]; exact p.fin sr (by rw [Rep])⟩
  · cases e
    obtain ⟨v, rfl, r⟩ := rs.one
    rw [Rep] at r; obtain ⟨a, vs, rfl, ha, ra⟩ := r
    exact call_len_seq _ _ _ _ _ _ _ I rv ⟨a, vs, rfl, .inr (sr.tup ha), by rw [← ra.length]; exact p.fin sr (by rw [Rep])⟩
  · cases e
    rename_i xs _ _
    obtain ⟨v, rfl, r⟩ := rs.one
    rw [Rep] at r; obtain ⟨a, rfl, ha⟩ := r
    exact call_len_seq _ _ _ _ _ _ _ I rv ⟨a, _, rfl, .inl (Same.seq sr.sub ha), by rw [List.length_map]; exact p.fin sr (by rw [Rep])⟩
  · cases e
    obtain ⟨v, rfl, r⟩ := rs.one
    rw [Rep] at r; obtain ⟨rfl, k⟩ := r
    exact call_len_str _ _ _ _ _ _ _ I rv ⟨_, rfl, k.2, p.fin sr (by rw [Rep])⟩
  · cases e
    obtain ⟨v, rfl, r⟩ := rs.one
    rw [Rep] at r; subst r
    exact call_int1 _ _ _ _ _ _ _ I rv (.inl ⟨_, rfl, p.fin sr (by rw [Rep])⟩)
  · cases e
    obtain ⟨v, rfl, r⟩ := rs.one
    rw [Rep] at r; subst r
    exact call_int1 _ _ _ _ _ _ _ I rv (.inr ⟨_, rfl, p.fin sr (by rw [Rep])⟩)
  · split at e
    · rename_i hz
      rw [Option.map_eq_some_iff] at e
      obtain ⟨n, e, rfl⟩ := e
      obtain ⟨v, rfl, r⟩ := rs.one
      rw [Rep] at r; obtain ⟨rfl, k⟩ := r
      exact call_int_str _ _ _ _ _ _ _ I rv ⟨_, n, rfl, e, hz, p.fin sr (by rw [Rep])⟩
    · cases e
  · split at e
    · rename_i hz
      cases e
      obtain ⟨v, rfl, r⟩ := rs.one
      rw [Rep] at r; subst r
      exact call_str_int _ _ _ _ _ _ _ I rv ⟨_, rfl, hz, p.fin sr (by rw [Rep]; exact ⟨rfl, sOk_num hz⟩)⟩
    · cases e
  · cases e
    obtain ⟨v, rfl, r⟩ := rs.one
    rw [Rep] at r; obtain ⟨a, vs, rfl, ha, ra⟩ := r
    exact call_list_of _ _ _ _ _ _ _ I rv ⟨a, vs, rfl, .inl (SqL.of (sr.sub _ _ ha)), fun q hq => newL sr p ra (sr.len a vs (.inl (sr.sub _ _ ha))) hq⟩
  · cases e
    obtain ⟨v, rfl, r⟩ := rs.one
    rw [Rep] at r; obtain ⟨a, vs, rfl, ha, ra⟩ := r
    have hz := (I.tuple (sr.tup ha)).choose_spec.2.2
    exact call_list_of _ _ _ _ _ _ _ I rv ⟨a, vs, rfl, .inr (sr.tup ha), fun q hq => newL sr p ra hz hq⟩
  · cases e
    obtain ⟨v, rfl, r⟩ := rs.one
    rw [Rep] at r; obtain ⟨a, vs, rfl, ha, ra⟩ := r
    exact call_tuple_of _ _ _ _ _ _ _ I rv ⟨a, vs, rfl, .inl ⟨SqL.of (sr.sub _ _ ha), fun q hq => newT sr p ra (sr.len a vs (.inl (sr.sub _ _ ha))) hq⟩⟩
  · cases e
    obtain ⟨v, rfl, r⟩ := rs.one
    have r' := r
    rw [Rep] at r; obtain ⟨a, vs, rfl, ha, ra⟩ := r
    exact call_tuple_of _ _ _ _ _ _ _ I rv ⟨a, vs, rfl, .inr ⟨sr.tup ha, p.fin sr r'⟩⟩
  · rw [Option.map_eq_some_iff] at e
    obtain ⟨ns, e, rfl⟩ := e
    obtain ⟨v, rfl, r⟩ := rs.one
    rw [Rep] at r; obtain ⟨a, vs, rfl, ha, ra⟩ := r
    have z := ra.ints e; subst z
    exact cr_sum hc _ _ _ _ _ _ _ I rv ⟨a, ns, rfl, SqL.of (sr.sub _ _ ha), p.fin sr (by rw [Rep])⟩
  · rw [Option.map_eq_some_iff] at e
    obtain ⟨ns, e, rfl⟩ := e
    obtain ⟨v, rfl, r⟩ := rs.one
    rw [Rep] at r; obtain ⟨a, vs, rfl, ha, ra⟩ := r
    have z := ra.bls e; subst z
    exact cr_all hc _ _ _ _ _ _ _ I rv ⟨a, ns, rfl, SqL.of (sr.sub _ _ ha), p.fin sr (by rw [Rep])⟩
  · rw [Option.map_eq_some_iff] at e
    obtain ⟨ns, e, rfl⟩ := e
    obtain ⟨v, rfl, r⟩ := rs.one
    rw [Rep] at r; obtain ⟨a, vs, rfl, ha, ra⟩ := r
    have z := ra.bls e; subst z
    exact cr_any hc _ _ _ _ _ _ _ I rv ⟨a, ns, rfl, SqL.of (sr.sub _ _ ha), p.fin sr (by rw [Rep])⟩
  · cases e
    obtain ⟨v, u, rfl, r1, r2⟩ := rs.two
    rw [Rep] at r1 r2; subst r1 r2
    exact call_max2 hc _ _ _ _ _ _ _ I rv ⟨_, _, rfl, p.fin sr (by rw [Rep])⟩
  · cases e
    obtain ⟨v, u, rfl, r1, r2⟩ := rs.two
    rw [Rep] at r1 r2; subst r1 r2
    exact call_min2 hc _ _ _ _ _ _ _ I rv ⟨_, _, rfl, p.fin sr (by rw [Rep])⟩
  · rw [Option.bind_eq_some_iff] at e
    obtain ⟨ns, e, e2⟩ := e
    obtain ⟨v, rfl, r⟩ := rs.one
    rw [Rep] at r; obtain ⟨a, vs, rfl, ha, ra⟩ := r
    have z := ra.ints e; subst z
    cases ns with
    | nil => cases e2
    | cons n r =>
      cases e2
      refine cr_max hc _ _ _ _ _ _ _ I rv ⟨a, n :: r, rfl, SqL.of (sr.sub _ _ ha), by simp, fun m hm hle => ?_⟩
      have z := maxI_spec r n
      have : m = maxI n r := by have := hle _ z.1; have := z.2 _ hm; omega
      rw [this]; exact p.fin sr (by rw [Rep])
  · rw [Option.bind_eq_some_iff] at e
    obtain ⟨ns, e, e2⟩ := e
    obtain ⟨v, rfl, r⟩ := rs.one
    rw [Rep] at r; obtain ⟨a, vs, rfl, ha, ra⟩ := r
    have z := ra.ints e; subst z
    cases ns with
    | nil => cases e2
    | cons n r =>
      cases e2
      refine cr_min hc _ _ _ _ _ _ _ I rv ⟨a, n :: r, rfl, SqL.of (sr.sub _ _ ha), by simp, fun m hm hle => ?_⟩
      have z := minI_spec r n
      have : m = minI n r := by have := hle _ z.1; have := z.2 _ hm; omega
      rw [this]; exact p.fin sr (by rw [Rep])
  · cases e
    obtain ⟨v, rfl, r⟩ := rs.one
    rw [Rep] at r; subst r
    exact call_abs _ _ _ _ _ _ _ I rv ⟨_, rfl, p.fin sr (by rw [Rep])⟩
  · exact absurd rfl hb.1
  · exact absurd rfl hb.1
  · exact absurd rfl hb.2.1
  · exact absurd rfl hb.2.1
  · exact absurd rfl hb.2.2
  · exact absurd rfl hb.2.2
  · exact absurd rfl hb.2.2
  · exact absurd rfl hb.2.2
  · cases e
    obtain ⟨v, rfl, r⟩ := rs.one
    rw [Rep] at r; subst r
    obtain ⟨u, rfl, ru⟩ := rv.one
    cases ru
    exact PySem.P.repr_of_none ⟨.str _, H, I.tok _, ⟨_, rfl⟩, p.fin sr (by rw [Rep]; exact ⟨rfl, by decide +kernel, by decide +kernel⟩)⟩
  · cases e
    obtain ⟨v, rfl, r⟩ := rs.one
    rw [Rep] at r; subst r
    obtain ⟨u, rfl, ru⟩ := rv.one
    cases ru
    exact PySem.P.repr_of_bool ⟨.str _, H, I.tok _, ⟨_, rfl⟩, p.fin sr (by rw [Rep]; exact ⟨rfl, sOk_tf _⟩)⟩
  · split at e
    · rename_i x _ _ hz
      cases e
      obtain ⟨v, rfl, r⟩ := rs.one
      rw [Rep] at r; obtain ⟨rfl, _⟩ := r
      obtain ⟨u, rfl, ru⟩ := rv.one
      obtain ⟨t, rfl⟩ := ru
      exact PySem.P.repr_of_str ⟨.str _, H, I.tok _, ⟨_, rfl⟩, p.fin sr (by rw [Rep]; exact ⟨rfl, hz⟩)⟩ hz.2
    · cases e
  · split at e
    · rename_i hz
      cases e
      obtain ⟨v, rfl, r⟩ := rs.one
      rw [Rep] at r; subst r
      exact SkE.call_repr_int _ _ _ _ _ _ _ I rv ⟨_, rfl, hz, p.fin sr (by rw [Rep]; exact ⟨rfl, sOk_num hz⟩)⟩
    · cases e
  · obtain ⟨v, rfl, r⟩ := rs.one
    obtain ⟨u, rfl, ru⟩ := rv.one
    have r' := r
    rw [Rep] at r'
    obtain ⟨a, _, rfl, _⟩ := r'
    rename Pst _ _ _ _ _ _ _ _ (ret _ _) => p2
    exact repr_ok hg hu I sr r ru e p2
  · obtain ⟨v, rfl, r⟩ := rs.one
    obtain ⟨u, rfl, ru⟩ := rv.one
    have r' := r
    rw [Rep] at r'
    obtain ⟨a, _, rfl, _⟩ := r'
    rename Pst _ _ _ _ _ _ _ _ (ret _ _) => p2
    exact repr_ok hg hu I sr r ru e p2
  · cases e
end
end Z
set_option Elab.async false
set_option linter.all false
set_option maxRecDepth 100000
namespace Z
open PySem PySem.Spec PyProof.Rows L2 TL

section
variable {X : Cx}
theorem atI_rep {K : PySem.W.Frag} {W : Wd} {ds : List D} {vs : List V} {i : Int} {d : D} (h : Reps K W ds vs) (e : atI ds i = some d) : ∃ v, atI vs i = some v ∧ Rep K W d v := by
  unfold atI at e ⊢
  rw [Option.bind_eq_some_iff] at e
  obtain ⟨j, e1, e2⟩ := e
  obtain ⟨v, e3, r⟩ := h.get e2
  exact ⟨v, by rw [← h.length, e1]; exact e3, r⟩
theorem sOk_sgn {x : Str} {c : Nat} (h : sOk x) (hc : c ∈ x.cps.toList) : sOk ⟨#[c]⟩ := by
  refine ⟨strOk_mem.mpr fun d hd => ?_, by show 1 ≤ sizeLine; decide⟩
  simp at hd; subst hd
  exact strOk_mem.mp h.1 _ hc
theorem atI_mem {α : Type} {xs : List α} {i : Int} {c : α} (h : atI xs i = some c) : c ∈ xs := by
  unfold atI at h
  rw [Option.bind_eq_some_iff] at h
  obtain ⟨j, _, e⟩ := h
  exact List.mem_of_getElem? e
/-- a subscript by values -/
def rIxD (X : Cx) : R2 := fun v u H Q => ∃ x y W F st, SR W F H st ∧ Rep X.K W x v ∧ Rep X.K W y u ∧ ∃ Wx σ, Pst X.K X.mg Wx σ W F H Q (ofO (ixD x y) st)
theorem ixOk (hu : X.A.units + 1 < cLine) : IxR X (rIxD X) := by
  intro value slice pins s σ0 H v u ov uv Q I rv ru h hs
  obtain ⟨x, y, W, F, st, sr, rx, ry, Wx, σ, p⟩ := h
  obtain ⟨d, e, pf⟩ := p.finO
  clear p
  unfold ixD at e
  split at e
  · rw [Rep] at rx; rw [Rep] at ry
    obtain ⟨a, vs, rfl, ha, ra⟩ := rx
    subst ry
    obtain ⟨w, e2, rw'⟩ := atI_rep ra e
    exact ix_list value slice _ _ _ _ _ _ _ _ _ I rv ru ⟨a, vs, _, w, rfl, rfl, SqL.of (sr.sub _ _ ha), e2, pf.fin sr rw'⟩ hs
  · rw [Rep] at rx; rw [Rep] at ry
    obtain ⟨a, vs, rfl, ha, ra⟩ := rx
    subst ry
    obtain ⟨w, e2, rw'⟩ := atI_rep ra e
    exact ix_tup value slice _ _ _ _ _ _ _ _ _ I rv ru ⟨a, vs, _, w, rfl, rfl, sr.tup ha, e2, pf.fin sr rw'⟩ hs
  · rw [Rep] at rx; rw [Rep] at ry
    obtain ⟨rfl, k⟩ := rx
    subst ry
    rw [Option.map_eq_some_iff] at e
    obtain ⟨c, e, rfl⟩ := e
    exact ix_str value slice _ _ _ _ _ _ _ _ _ I rv ru ⟨_, _, c, rfl, rfl, k.2, e, pf.fin sr (by unfold sgn; rw [Rep]; exact ⟨rfl, sOk_sgn k (atI_mem e)⟩)⟩ hs
  · rw [Option.bind_eq_some_iff] at e
    obtain ⟨k, e1, e2⟩ := e
    have ek := keyOf_rep e1 ry
    rw [Rep] at rx
    obtain ⟨a, vs, rfl, ha, ra⟩ := rx
    rcases RepKs.look k ra with ⟨z, _⟩ | ⟨d', w, z, zv, rw'⟩
    · rw [z] at e2; cases e2
    · rw [z] at e2; cases e2
      obtain rfl : ov = Value.ref a := rv
      have g : DGet H a u (some w) := .inl ⟨vs, k, .inl (sr.sub _ _ ha), ek, zv.symm⟩
      exact tail_any (ops := [.ref a, uv]) (dict_typeIs I g) PySem.F.slot_dict_getitem.lookup (d_getItem hu I g ru fun w' s' I' r' => ⟨w, H, I', r', pf.fin sr rw'⟩) hs
  · cases e
/-- a slice by values -/
def rSlD (X : Cx) : V → Option Int → Option Int → Hp → VK → Prop := fun v l h H Q => ∃ x W F st, SR W F H st ∧ Rep X.K W x v ∧ ∃ Wx σ, Pst X.K X.mg Wx σ W F H Q (ofO (slD x l h) st)
theorem Reps.cut {K : PySem.W.Frag} {W : Wd} {ds : List D} {vs : List V} (l h : Option Int) (r : Reps K W ds vs) : Reps K W (cutD ds l h) (cutV vs l h) := by
  unfold cutD cutV
  rw [← r.length]
  exact (r.drop _).take _
theorem sOk_cut {z : Str} (l h : Option Int) (k : sOk z) : sOk (cutS z l h) := by
  refine ⟨strOk_mem.mpr fun c hc => ?_, ?_⟩
  · unfold cutS at hc
    rw [List.toList_toArray] at hc
    exact strOk_mem.mp k.1 c (List.mem_of_mem_drop (List.mem_of_mem_take hc))
  · refine Nat.le_trans ?_ k.2
    show (cutS z l h).cps.size ≤ z.cps.size
    unfold cutS
    simp only [List.size_toArray, List.length_take, List.length_drop, Array.length_toList]
    omega
theorem cutD_all {ds : List D} {n : Nat} {lo hi : Option Int} (e : ds.length = n) (hw : HT.sIx n 0 lo = 0 ∧ HT.sIx n n hi = n) : cutD ds lo hi = ds := by
  subst e
  unfold cutD
  rw [hw.1, hw.2, List.drop_zero, Nat.sub_zero, List.take_length]
theorem slOk : SlR X (rSlD X) := by
  intro pins s σ0 H v ov vl vu lo hi sl Q I rv hs pl pu h
  obtain ⟨x, W, F, st, sr, rx, Wx, σ, p⟩ := h
  obtain ⟨d, e, pf⟩ := p.finO
  clear p
  unfold slD at e
  split at e
  · cases e
    rw [Rep] at rx
    obtain ⟨a, vs, rfl, ha, ra⟩ := rx
    have hl := sr.len a vs (.inl (sr.sub _ _ ha))
    exact sl_list _ _ _ _ _ _ _ _ _ _ _ _ I rv hs pl pu ⟨a, vs, rfl, SqL.of (sr.sub _ _ ha), fun q hq => newL sr pf (ra.cut lo hi) (Nat.le_trans (cutV_length ..) hl) hq⟩
  · cases e
    have rx' := rx
    rw [Rep] at rx
    obtain ⟨a, vs, rfl, ha, ra⟩ := rx
    have hl := (I.tuple (sr.tup ha)).choose_spec.2.2
    refine sl_tupA _ _ _ _ _ _ _ _ _ _ _ _ I rv hs pl pu ⟨a, vs, rfl, sr.tup ha, fun hw => ?_, fun _ q hq => newT sr pf (ra.cut lo hi) (Nat.le_trans (cutV_length ..) hl) hq⟩
    rw [cutD_all ra.length hw] at pf
    exact pf.fin sr rx'
  · cases e
    rw [Rep] at rx
    obtain ⟨rfl, k⟩ := rx
    exact sl_str _ _ _ _ _ _ _ _ _ _ _ _ I rv hs pl pu ⟨_, rfl, k.2, pf.fin sr (by rw [Rep]; exact ⟨rfl, sOk_cut lo hi k⟩)⟩
  · cases e
/-- types -/
def tyName : Ty → String
  | .int => "int" | .bool => "bool" | .str => "str" | .tuple => "tuple" | .list => "list" | .dict => "dict"
theorem isOk : CallR X (.builtin "isinstance") (fun xs H Q => ∃ v t x W F st b, xs = [v, .ty (tyName t)] ∧ SR W F H st ∧ Rep X.K W x v ∧ isD t x = some b ∧ Q (.bl b) H) := by
  intro pins s σ0 H vs us Q I rv h
  obtain ⟨v, t, x, W, F, st, b, rfl, sr, rx, e, q⟩ := h
  have go : ∀ n, TyX X.K H v (.type n) → kitB n (tyName t) = some b → wpAny (model X.prog X.w) X.A (call (.builtin "isinstance") us) (EP X pins σ0 Q) X.xe s := fun n ty k =>
    call_isi _ _ _ _ _ _ _ I rv ⟨v, _, _, _, b, rfl, .ty _, ty, kit_ty k, q⟩
  cases x with
  | non =>
    rw [Rep] at rx; subst rx
    refine go "NoneType" (.base .non) ?_
    cases t <;> cases e <;> decide
  | bl y =>
    rw [Rep] at rx; subst rx
    refine go "bool" (.base (.bl y)) ?_
    cases t <;> cases e <;> decide
  | int y =>
    rw [Rep] at rx; subst rx
    refine go "int" (.base (.int y)) ?_
    cases t <;> cases e <;> decide
  | str y =>
    rw [Rep] at rx; obtain ⟨rfl, _⟩ := rx
    refine go "str" (.base (.str y)) ?_
    cases t <;> cases e <;> decide
  | tup ds =>
    rw [Rep] at rx; obtain ⟨a, vs, rfl, ha, _⟩ := rx
    refine go "tuple" ?_ (by cases t <;> cases e <;> decide)
    rcases sr.tup ha with (h | ⟨o, h⟩) | ⟨o, its, n, h, hc, _⟩
    · exact .base (.tup h)
    · exact .fTuple h
    · exact .kTuple h hc
  | lst ds =>
    rw [Rep] at rx; obtain ⟨a, vs, rfl, ha, _⟩ := rx
    refine go "list" (.base (.lst (sr.sub _ _ ha))) ?_
    cases t <;> cases e <;> decide
  | dct ds =>
    rw [Rep] at rx; obtain ⟨a, vs, rfl, ha, _⟩ := rx
    refine go "dict" (.base (.dK (sr.sub _ _ ha))) ?_
    cases t <;> cases e <;> decide
  | scr ns => cases t <;> cases e
  | obj n => cases t <;> cases e
  | exn c fs => cases t <;> cases e
end
end Z
set_option Elab.async false
set_option linter.all false
set_option maxRecDepth 100000
namespace Z
open PySem PySem.Spec PyProof.Rows L2 TL

/-! ### from the program's text to the mini language -/
structure Cc where
  N : List Str
  gl : List (Str × D)
  fns : List Str
  nfs : List Str := []
  xcs : List Str := []
def idx (x : Str) : List Str → Option Nat
  | [] => none
  | y :: r => if y = x then some 0 else (idx x r).map (· + 1)
theorem idx_ok {x : Str} : ∀ {N : List Str} {i : Nat}, idx x N = some i → N[i]? = some x
  | [], _, h => by cases h
  | y :: r, i, h => by
    unfold idx at h
    by_cases e : y = x
    · rw [if_pos e] at h; cases h; simp [e]
    · rw [if_neg e, Option.map_eq_some_iff] at h
      obtain ⟨j, h, rfl⟩ := h
      simpa using idx_ok h
def visB (sc : Scope) (x : Str) : Bool := match sc.names.lookup x with
  | some .local => true | some .cell => true | some .free => true | _ => false
def gloB (sc : Scope) (x : Str) : Bool := match sc.names.lookup x with
  | some .globalImplicit => true | _ => false
def okName (x : Str) : Bool := !(x == ("__debug__" : Str)) && !(x == ("__classdict__" : Str)) && !(x == ("__name__" : Str))
def bopOf : Operator → Option Bop
  | .Add => some .add | .Sub => some .sub | .Mult => some .mul | .FloorDiv => some .fdiv | .Mod => some .mod | .Pow => some .pow | _ => none
def copOf : CmpOp → Cop
  | .Eq => .eq | .NotEq => .ne | .Lt => .lt | .LtE => .le | .Gt => .gt | .GtE => .ge | .Is => .is | .IsNot => .isnot | .In => .isin | .NotIn => .notin
theorem bopOf_ok {o : Operator} {b : Bop} (h : bopOf o = some b) : pyB b = o := by cases o <;> cases h <;> rfl
theorem copOf_ok (o : CmpOp) : pyC (copOf o) = o := by cases o <;> rfl
def biTab : List (Str × Bi) := [("len", .len), ("int", .int), ("str", .str), ("list", .list), ("tuple", .tuple), ("sum", .sum), ("all", .all), ("any", .any), ("min", .min), ("max", .max), ("repr", .repr), ("abs", .abs), ("sorted", .sorted)]
def biOf (x : Str) : Option Bi := biTab.lookup x
theorem lookup_mem' {β : Type} {x : Str} {b : β} : ∀ {l : List (Str × β)}, l.lookup x = some b → (x, b) ∈ l
  | [], h => by cases h
  | (y, c) :: r, h => by
    rw [List.lookup_cons] at h
    by_cases e : x == y
    · rw [e] at h
      cases h
      rw [eq_of_beq e]; exact List.mem_cons_self ..
    · rw [Bool.not_eq_true] at e
      rw [e] at h
      exact List.mem_cons_of_mem _ (lookup_mem' h)
theorem biTab_ok : ∀ p ∈ biTab, bootBuiltins p.1 = some (biVal p.2) := by decide +kernel
theorem biTab_no : ∀ p ∈ biTab, p.2 ≠ .range ∧ p.2 ≠ .enumerate ∧ p.2 ≠ .zip := by decide +kernel
theorem biOf_ok {x : Str} {b : Bi} (h : biOf x = some b) : bootBuiltins x = some (biVal b) ∧ b ≠ .range ∧ b ≠ .enumerate ∧ b ≠ .zip :=
  ⟨biTab_ok _ (lookup_mem' h), biTab_no _ (lookup_mem' h)⟩
def tyTab : List (Str × Ty) := [("int", .int), ("bool", .bool), ("str", .str), ("tuple", .tuple), ("list", .list), ("dict", .dict)]
def tyOf (x : Str) : Option Ty := tyTab.lookup x
theorem tyTab_ok : ∀ p ∈ tyTab, bootBuiltins p.1 = some (.type (tyName p.2)) := by decide +kernel
theorem tyOf_ok {x : Str} {t : Ty} (h : tyOf x = some t) : bootBuiltins x = some (.type (tyName t)) := tyTab_ok _ (lookup_mem' h)
/-- the built-in names that are used -/
def bNames : List Str := ["len", "int", "str", "list", "tuple", "sum", "all", "any", "min", "max", "repr", "abs", "range", "enumerate", "zip", "isinstance", "bool", "dict", "sorted", "set", "ValueError"]
def notStar : Expr → Bool
  | .Starred _ _ => false
  | _ => true
def notSl : Expr → Bool
  | .Slice _ _ _ _ => false
  | _ => true
def notCallN : Expr → Bool
  | .Call (.Name _ _) [] [] _ => false
  | _ => true
def notSet : Expr → Bool
  | .Set _ _ _ => false
  | _ => true
def andL : List E → Option E
  | [] => none
  | [m] => some m
  | m :: r => (andL r).map (.and m)
def orL : List E → Option E
  | [] => none
  | [m] => some m
  | m :: r => (orL r).map (.or m)
mutual
def compTg (k : Cc) (sc : Scope) (cl : Bool) : Nat → Expr → Option Tg
  | 0, _ => none
  | n + 1, .Name x _ => match sc.names.lookup x with
    | some .local => (idx x k.N).map .nm
    | some .cell => if cl then (idx x k.N).map .nm else none
    | _ => none
  | n + 1, .Tuple es _ _ => (compTgs k sc cl n es).map .tp
  | _ + 1, _ => none
def compTgs (k : Cc) (sc : Scope) (cl : Bool) : Nat → List Expr → Option (List Tg)
  | 0, _ => none
  | _ + 1, [] => some []
  | n + 1, e :: es => (compTg k sc cl n e).bind fun t => (compTgs k sc cl n es).map (t :: ·)
end
mutual
def tgs : Tg → List Nat
  | .nm i => [i]
  | .tp ts => tgss ts
def tgss : List Tg → List Nat
  | [] => []
  | t :: ts => tgs t ++ tgss ts
end
def ownOf (N : List Str) (scope : Scope) : List (Str × Nat) :=
  scope.names.filterMap fun y => match y.2 with
    | .local => (idx y.1 N).map fun i => (y.1, i)
    | .cell => (idx y.1 N).map fun i => (y.1, i)
    | _ => none
def slotsOf (N : List Str) (scope : Scope) : List Nat := (ownOf N scope).map fun p => p.2
def mapO {α β : Type} (f : α → Option β) : List α → Option (List β)
  | [] => some []
  | a :: r => (f a).bind fun b => (mapO f r).map (b :: ·)
def isTup : Expr → Bool
  | .Tuple _ _ _ => true
  | _ => false
/-- what is walked -/
def compI (cf : Expr → Option E) (sc : Scope) (tg e : Expr) : Option E := match e with
  | .Call (.Name f _) [a] [] _ => if f = "range" then (if gloB sc f && notStar a then (cf a).map fun x => .bi .range [x] else none) else
      if f = "enumerate" then (if gloB sc f && notStar a && isTup tg then (cf a).map fun x => .bi .enumerate [x] else none) else cf e
  | .Call (.Name f _) [a, b] [] _ => if f = "range" then (if gloB sc f && notStar a && notStar b then (cf a).bind fun x => (cf b).map fun y => .bi .range [x, y] else none) else
      if f = "zip" then (if gloB sc f && notStar a && notStar b && isTup tg then (cf a).bind fun x => (cf b).map fun y => .bi .zip [x, y] else none) else cf e
  | _ => cf e
/-- list(range(..)) -/
def isRng : List Expr → Bool
  | [.Call (.Name g _) _ [] _] => decide (g = "range")
  | _ => false
def lRng (cf : Expr → Option E) (sc : Scope) : List Expr → Option E
  | [.Call (.Name g _) [a] [] _] => if g = "range" && gloB sc g && notStar a then (cf a).map fun x => .bi .range [x] else none
  | [.Call (.Name g _) [a, b] [] _] => if g = "range" && gloB sc g && notStar a && notStar b then (cf a).bind fun x => (cf b).map fun y => .bi .range [x, y] else none
  | _ => none
def keyE : Option Expr → Option Key
  | some (.Constant (.str x) _ _) => some (.inr x)
  | some (.Constant (.int i) _ _) => some (.inl i)
  | _ => none
def comp (k : Cc) : Nat → Scope → Expr → Option E
  | 0, _, _ => none
  | n + 1, sc, e => match e with
    | .Constant (.int i) _ _ => some (.c (.int i))
    | .Constant (.bool i) _ _ => some (.c (.bl i))
    | .Constant .none _ _ => some (.c .non)
    | .Constant (.str x) _ _ => if PyData.strOk x && decide (x.length ≤ sizeLine) then some (.c (.str x)) else none
    | .Name x _ => if okName x then (match idx x k.N with
        | some i => if visB sc x then some (.v i) else none
        | none => if gloB sc x then (k.gl.lookup x).map .c else none) else none
    | .BinOp a o b _ => (bopOf o).bind fun o' => (comp k n sc a).bind fun x => (comp k n sc b).map fun y => .bin o' x y
    | .UnaryOp .USub a _ => (comp k n sc a).map .neg
    | .UnaryOp .Not a _ => (comp k n sc a).map .not
    | .Compare a [o] [b] _ => if notSet b then (comp k n sc a).bind fun x => (comp k n sc b).map fun y => .cmp (copOf o) x y else none
    | .Compare a [o, p] [b, d] _ => if notSet b && notSet d then (comp k n sc a).bind fun x => (comp k n sc b).bind fun y => (comp k n sc d).map fun z => .chn (copOf o) (copOf p) x y z else none
    | .BoolOp .And es _ => (mapO (comp k n sc) es).bind andL
    | .BoolOp .Or es _ => (mapO (comp k n sc) es).bind orL
    | .IfExp t a b _ => (comp k n sc t).bind fun x => (comp k n sc a).bind fun y => (comp k n sc b).map fun z => .ite x y z
    | .Subscript a (.Slice none none (some (.UnaryOp .USub (.Constant (.int 1) _ _) _)) _) _ => (comp k n sc a).map .rev
    | .Subscript a (.Slice none none none _) _ => (comp k n sc a).map fun x => .sl x false false (.c .non) (.c .non)
    | .Subscript a (.Slice (some l) none none _) _ => (comp k n sc a).bind fun x => (comp k n sc l).map fun y => .sl x true false y (.c .non)
    | .Subscript a (.Slice none (some h) none _) _ => (comp k n sc a).bind fun x => (comp k n sc h).map fun z => .sl x false true (.c .non) z
    | .Subscript a (.Slice (some l) (some h) none _) _ => (comp k n sc a).bind fun x => (comp k n sc l).bind fun y => (comp k n sc h).map fun z => .sl x true true y z
    | .Subscript a i _ => if notSl i then (comp k n sc a).bind fun x => (comp k n sc i).map fun y => .ix x y else none
    | .Tuple es _ _ => if es.length ≤ 1000 then (mapO (comp k n sc) es).map .tup else none
    | .List es _ => if es.length ≤ 1000 then (mapO (comp k n sc) es).map .lst else none
    | .Call (.Name f _) args [] _ => if okName f && gloB sc f && args.all notStar then
        (if f = "isinstance" then (match args with
          | [a, .Name T _] => if okName T && gloB sc T then (if k.xcs.contains T || (!k.xcs.isEmpty && decide (T = "ValueError")) then (comp k n sc a).map fun x => .isc x T k.xcs else (tyOf T).bind fun t => (comp k n sc a).map fun x => .isi x t) else none
          | _ => none)
        else match biOf f with
          | some b => if args.isEmpty then none else if f = "list" && isRng args then lRng (comp k n sc) sc args else (mapO (comp k n sc) args).map (.bi b)
          | none => if k.fns.contains f then (mapO (comp k n sc) args).map (.call f) else if k.xcs.contains f && !args.isEmpty && decide (args.length ≤ 1000) then (mapO (comp k n sc) args).map (.mk f) else none) else none
    | .Attribute o f _ => if notCallN o && !k.xcs.isEmpty then (comp k n sc o).map fun x => .fld x f k.xcs else none
    | .Call (.Attribute o m apos) args [] pos => if notCallN o && args.all notStar && (apos.endLine == pos.line) then
        (match args with
        | [a] => if m = "join" then (comp k n sc o).bind fun x => (comp k n sc a).map fun y => .me .join x [y]
          else if m = "split" then (comp k n sc o).bind fun x => (comp k n sc a).map fun y => .me .split x [y]
          else if m = "lstrip" then (comp k n sc o).bind fun x => (comp k n sc a).map fun y => .me .lstrip x [y]
          else if m = "index" then (comp k n sc o).bind fun x => (comp k n sc a).map fun y => .me .index x [y]
          else if m = "get" then (comp k n sc o).bind fun x => (comp k n sc a).map fun y => .get x y (.c .non) else none
        | [a, b] => if m = "get" then (comp k n sc o).bind fun x => (comp k n sc a).bind fun y => (comp k n sc b).map fun z => .get x y z else none
        | _ => none) else none
    | .Dict keys values _ => if keys.isEmpty && values.isEmpty then some (.dct [] []) else
        (mapO keyE keys).bind fun ks => if decide (keys.length = values.length) && decide (keys.length ≤ 15) && decide ks.Nodup && !keys.isEmpty then (mapO (comp k n sc) values).map fun ms => .dct ks ms else none
    | .ListComp elt [⟨tg, iter, ifs, 0⟩] scope _ =>
        if blkC k.N sc scope (ownOf k.N scope) && notSet iter then
          (compTg k (relS scope sc) false n tg).bind fun t => if ((tgs t).all fun i => (slotsOf k.N scope).contains i) then
            (compI (comp k n sc) sc tg iter).bind fun it => (match ifs with
              | [] => some (E.c (.bl true))
              | [c] => comp k n (relS scope sc) c
              | _ => none).bind fun cnd => (comp k n (relS scope sc) elt).map fun x => E.lc t (slotsOf k.N scope) it cnd x else none
        else none
    | _ => none
end Z
set_option Elab.async false
set_option linter.all false
set_option maxRecDepth 100000
namespace Z
open PySem PySem.Spec PyProof.Rows L2 TL

/-! ### the slots that an expression reads -/
mutual
def vars : E → List Nat
  | .c _ => []
  | .v i => [i]
  | .bin _ a b => vars a ++ vars b
  | .neg a => vars a
  | .not a => vars a
  | .cmp _ a b => vars a ++ vars b
  | .chn _ _ a b d => vars a ++ (vars b ++ vars d)
  | .and a b => vars a ++ vars b
  | .or a b => vars a ++ vars b
  | .ite t a b => vars t ++ (vars a ++ vars b)
  | .ix a b => vars a ++ vars b
  | .sl a _ _ l h => vars a ++ (vars l ++ vars h)
  | .rev a => vars a
  | .tup es => varss es
  | .lst es => varss es
  | .dct _ vs => varss vs
  | .call _ es => varss es
  | .bi _ es => varss es
  | .isi a _ => vars a
  | .me _ o es => vars o ++ varss es
  | .get o k d => vars o ++ (vars k ++ vars d)
  | .lc _ _ it cnd elt => vars it ++ (vars cnd ++ vars elt)
  | .mk _ es => varss es
  | .isc a _ _ => vars a
  | .fld a _ _ => vars a
def varss : List E → List Nat
  | [] => []
  | e :: es => vars e ++ varss es
end
section
variable {K : PySem.W.Frag} {W : Wd} {vs ws : List Nat} {σ : L2.St} {r : Ev}
theorem RelE.fst (h : RelE K W (vs ++ ws) σ r) : RelE K W vs σ r := h.sub fun _ q => List.mem_append_left _ q
theorem RelE.snd (h : RelE K W (vs ++ ws) σ r) : RelE K W ws σ r := h.sub fun _ q => List.mem_append_right _ q
end

section
variable {X : Cx} {Wx : WX} {a b d e : Expr} {va vb vd : List Nat} {ma mb md : Ev → M D} {pos : Pos} {es : List Expr}
theorem s_c {x : D} {v : V} (h : PE X e (tC v)) (r : ∀ W, Rep X.K W x v) : PE X e (tz X.K X.mg Wx [] fun _ => ret x) := PE.imp h fun σ H Q ⟨W, F, st, _, sr, _, p⟩ => p.fin sr (r W)
theorem s_v {i : Nat} {x : Str} (hN : X.N[i]? = some x) (hv : Vis X.env.scope x) (hd : (x == ("__debug__" : Str)) = false) (hcd : (x == ("__classdict__" : Str)) = false) :
    PE X (.Name x pos) (tz X.K X.mg Wx [i] fun r => ofO (getS r i)) := PE.imp (pe_var hN hv hd hcd) fun σ H Q ⟨W, F, st, r, sr, re, p⟩ => by
  obtain ⟨y, e, p⟩ := p.finO
  obtain ⟨v, e1, r1⟩ := re i (by simp) y e
  exact ⟨v, e1, p.fin sr r1⟩
theorem s_bin (o : Bop) (ha : PE X a (tz X.K X.mg Wx va ma)) (hb : PE X b (tz X.K X.mg Wx vb mb)) :
    PE X (.BinOp a (pyB o) b pos) (tz X.K X.mg Wx (va ++ vb) fun r => bnd (ma r) fun x => bnd (mb r) fun y => ofO (binD o x y)) :=
  PE.imp (pe_op (opB o) ha hb) fun σ H Q ⟨W, F, st, r, sr, re, p⟩ =>
    tz_use sr re.fst p fun x s1 v W1 F1 H1 sr1 e1 rx p1 => tz_use sr1 (re.snd.mono e1.le) p1 fun y s2 u W2 F2 H2 sr2 e2 ry p2 =>
      ⟨x, y, W2, F2, s2, sr2, rx.mono e2.le, ry, Wx, σ, p2⟩
theorem s_neg (ha : PE X a (tz X.K X.mg Wx va ma)) : PE X (.UnaryOp .USub a pos) (tz X.K X.mg Wx va fun r => bnd (ma r) fun x => match x with | .int i => ret (.int (-i)) | _ => stk) :=
  PE.imp (pe_un un_neg ha) fun σ H Q ⟨W, F, st, r, sr, re, p⟩ =>
    tz_use sr re p fun x s1 v W1 F1 H1 sr1 e1 rx p1 => by
      cases x <;> first | exact False.elim p1 | skip
      rw [Rep] at rx; subst rx
      exact ⟨_, rfl, p1.fin sr1 (by rw [Rep])⟩
theorem s_not (ha : PE X a (tz X.K X.mg Wx va ma)) : PE X (.UnaryOp .Not a pos) (tz X.K X.mg Wx va fun r => bnd (ma r) fun x => match x with | .bl i => ret (.bl (!i)) | _ => stk) :=
  PE.imp (pe_not ha) fun σ H Q ⟨W, F, st, r, sr, re, p⟩ =>
    tz_use sr re p fun x s1 v W1 F1 H1 sr1 e1 rx p1 => by
      cases x <;> first | exact False.elim p1 | skip
      rw [Rep] at rx; subst rx
      exact ⟨_, rfl, p1.fin sr1 (by rw [Rep])⟩
theorem cmpM_use {o : Cop} {x y : D} {f : Bool → M D} {W : Wd} {F : Addr → Prop} {H : Hp} {Q : VK} {σ : L2.St} {st : Sto} (p : Pst X.K X.mg Wx σ W F H Q (bnd (cmpM o x y) f st)) : ∃ t, cmpD o x y = some t ∧ Pst X.K X.mg Wx σ W F H Q (f t st) := by
  unfold bnd cmpM at p
  cases q : cmpD o x y with
  | none => rw [q] at p; exact False.elim p
  | some t => rw [q] at p; exact ⟨t, rfl, p⟩
theorem s_cmp (hu : X.A.units + 64 < cLine) (o : Cop) (hm : behindInMarks (pyC o) b = false) (ha : PE X a (tz X.K X.mg Wx va ma)) (hb : PE X b (tz X.K X.mg Wx vb mb)) :
    PE X (.Compare a [pyC o] [b] pos) (tz X.K X.mg Wx (va ++ vb) fun r => bnd (ma r) fun x => bnd (mb r) fun y => bnd (cmpM o x y) fun t => ret (.bl t)) :=
  PE.imp (pe_cmpR (opC hu o) ha hb hm) fun σ H Q ⟨W, F, st, r, sr, re, p⟩ =>
    tz_use sr re.fst p fun x s1 v W1 F1 H1 sr1 e1 rx p1 => tz_use sr1 (re.snd.mono e1.le) p1 fun y s2 u W2 F2 H2 sr2 e2 ry p2 => by
      obtain ⟨t, e, p3⟩ := cmpM_use p2
      exact ⟨x, y, W2, F2, s2, t, sr2, rx.mono e2.le, ry, e, p3.fin sr2 (by rw [Rep])⟩
theorem s_chn (hu : X.A.units + 64 < cLine) (o o' : Cop) (hm : lastMarks [pyC o, pyC o'] [b, d] = false) (ha : PE X a (tz X.K X.mg Wx va ma)) (hb : PE X b (tz X.K X.mg Wx vb mb)) (hd : PE X d (tz X.K X.mg Wx vd md)) :
    PE X (.Compare a [pyC o, pyC o'] [b, d] pos) (tz X.K X.mg Wx (va ++ (vb ++ vd)) fun r => bnd (ma r) fun x => bnd (mb r) fun y => bnd (cmpM o x y) fun t =>
      if t then bnd (md r) fun z => bnd (cmpM o' y z) fun t' => ret (.bl t') else ret (.bl false)) :=
  PE.imp (pe_chain (opC hu o) (opC hu o') ha hb hd hm) fun σ H Q ⟨W, F, st, r, sr, re, p⟩ =>
    tz_use sr re.fst p fun x s1 v W1 F1 H1 sr1 e1 rx p1 => tz_use sr1 (re.snd.fst.mono e1.le) p1 fun y s2 u W2 F2 H2 sr2 e2 ry p2 => by
      obtain ⟨t, e, p3⟩ := cmpM_use p2
      refine ⟨x, y, W2, F2, s2, t, sr2, rx.mono e2.le, ry, e, t, rfl, ?_⟩
      cases t with
      | true =>
        refine tz_use sr2 (re.snd.snd.mono (e1.le.trans e2.le)) p3 fun z s3 w W3 F3 H3 sr3 e3 rz p4 => ?_
        obtain ⟨t', e', p5⟩ := cmpM_use p4
        exact ⟨y, z, W3, F3, s3, t', sr3, ry.mono e3.le, rz, e', p5.fin sr3 (by rw [Rep])⟩
      | false => exact p3.fin sr2 (by rw [Rep])
theorem s_and (ha : PE X a (tz X.K X.mg Wx va ma)) (hb : PE X (.BoolOp .And (b :: es) pos) (tz X.K X.mg Wx vb mb)) :
    PE X (.BoolOp .And (a :: b :: es) pos) (tz X.K X.mg Wx (va ++ vb) fun r => bnd (ma r) fun x => match x with | .bl true => mb r | .bl false => ret (.bl false) | _ => stk) :=
  PE.imp (pe_and ha hb) fun σ H Q ⟨W, F, st, r, sr, re, p⟩ =>
    tz_use sr re.fst p fun x s1 v W1 F1 H1 sr1 e1 rx p1 => by
      cases x <;> first | exact False.elim p1 | skip
      rename_i t
      rw [Rep] at rx; subst rx
      refine ⟨t, rfl, ?_⟩
      cases t with
      | true => exact ⟨W1, F1, s1, r, sr1, re.snd.mono e1.le, p1⟩
      | false => exact p1.fin sr1 (by rw [Rep])
theorem s_or (ha : PE X a (tz X.K X.mg Wx va ma)) (hb : PE X (.BoolOp .Or (b :: es) pos) (tz X.K X.mg Wx vb mb)) :
    PE X (.BoolOp .Or (a :: b :: es) pos) (tz X.K X.mg Wx (va ++ vb) fun r => bnd (ma r) fun x => match x with | .bl true => ret (.bl true) | .bl false => mb r | _ => stk) :=
  PE.imp (pe_or ha hb) fun σ H Q ⟨W, F, st, r, sr, re, p⟩ =>
    tz_use sr re.fst p fun x s1 v W1 F1 H1 sr1 e1 rx p1 => by
      cases x <;> first | exact False.elim p1 | skip
      rename_i t
      rw [Rep] at rx; subst rx
      refine ⟨t, rfl, ?_⟩
      cases t with
      | false => exact ⟨W1, F1, s1, r, sr1, re.snd.mono e1.le, p1⟩
      | true => exact p1.fin sr1 (by rw [Rep])
/-- a test -/
def tzT (X : Cx) (Wx : WX) (vs : List Nat) (m : Ev → M D) : TT := fun σ H Q => tz X.K X.mg Wx vs m σ H fun v H' => ∃ c, v = .bl c ∧ Q c H'
theorem s_ite (ht : PT X d (tzT X Wx vd md)) (ha : PE X a (tz X.K X.mg Wx va ma)) (hb : PE X b (tz X.K X.mg Wx vb mb)) :
    PE X (.IfExp d a b pos) (tz X.K X.mg Wx (vd ++ (va ++ vb)) fun r => bnd (md r) fun x => match x with | .bl true => ma r | .bl false => mb r | _ => stk) :=
  PE.imp (pe_ifExp ht ha hb) fun σ H Q ⟨W, F, st, r, sr, re, p⟩ =>
    tz_use sr re.fst p fun x s1 v W1 F1 H1 sr1 e1 rx p1 => by
      cases x <;> first | exact False.elim p1 | skip
      rename_i t
      rw [Rep] at rx; subst rx
      refine ⟨t, rfl, ?_⟩
      cases t with
      | true => exact ⟨W1, F1, s1, r, sr1, re.snd.fst.mono e1.le, p1⟩
      | false => exact ⟨W1, F1, s1, r, sr1, re.snd.snd.mono e1.le, p1⟩
theorem notSl_ok {i : Expr} (h : notSl i = true) : PlainIx i := by
  intro o j
  cases i <;> first | rfl | cases h
theorem s_ix (hu : X.A.units + 1 < cLine) (hs : notSl b = true) (ha : PE X a (tz X.K X.mg Wx va ma)) (hb : PE X b (tz X.K X.mg Wx vb mb)) :
    PE X (.Subscript a b pos) (tz X.K X.mg Wx (va ++ vb) fun r => bnd (ma r) fun x => bnd (mb r) fun y => ofO (ixD x y)) :=
  PE.imp (pe_ix (ixOk hu) ha hb (notSl_ok hs)) fun σ H Q ⟨W, F, st, r, sr, re, p⟩ =>
    tz_use sr re.fst p fun x s1 v W1 F1 H1 sr1 e1 rx p1 => tz_use sr1 (re.snd.mono e1.le) p1 fun y s2 u W2 F2 H2 sr2 e2 ry p2 =>
      ⟨x, y, W2, F2, s2, sr2, rx.mono e2.le, ry, Wx, σ, p2⟩
theorem s_rev {k : Nat} {p1 p2 p3 : Pos} (ha : PE X a (tz X.K X.mg Wx va ma)) : PE X (.Subscript a (.Slice none none (some (.UnaryOp .USub (.Constant (.int 1) k p1) p2)) p3) pos)
    (tz X.K X.mg Wx va fun r => bnd (ma r) fun x => match x with | .lst xs => ret (.lst xs.reverse) | _ => stk) :=
  PE.imp (pe_revL ha) fun σ H Q ⟨W, F, st, r, sr, re, p⟩ =>
    tz_use sr re p fun x s1 v W1 F1 H1 sr1 e1 rx p1 => by
      cases x <;> first | exact False.elim p1 | skip
      rw [Rep] at rx
      obtain ⟨l, vs, rfl, hl, rl⟩ := rx
      have hz := sr1.len l vs (.inl (sr1.sub _ _ hl))
      exact ⟨l, vs, rfl, SqL.of (sr1.sub _ _ hl), fun q hq => newL sr1 p1 rl.reverse (by simpa using hz) hq⟩
theorem intM_use {α : Type} {f : Option Int → M α} {P : Res α → Prop} (hs : ¬ P .stk) {y : D} {st : Sto} (p : P (bnd (intM y) f st)) : ∃ i, y = .int i ∧ P (f (some i) st) := by
  cases y <;> first | exact absurd p hs | skip
  exact ⟨_, rfl, p⟩
theorem bnd_assoc {α β γ : Type} (m : M α) (f : α → M β) (g : β → M γ) : bnd (bnd m f) g = bnd m fun x => bnd (f x) g := by
  funext s
  unfold bnd
  cases m s <;> rfl
theorem s_sl00 {p2 : Pos} (ha : PE X a (tz X.K X.mg Wx va ma)) : PE X (.Subscript a (.Slice none none none p2) pos)
    (tz X.K X.mg Wx (va ++ ([] ++ [])) fun r => bnd (ma r) fun x => bnd (ret none) fun l' => bnd (ret none) fun h' => ofO (slD x l' h')) :=
  PE.imp (pe_slice slOk ha po_none po_none) fun σ H Q ⟨W, F, st, r, sr, re, p⟩ =>
    tz_use sr re.fst p fun x s1 v W1 F1 H1 sr1 e1 rx p1 => ⟨x, W1, F1, s1, sr1, rx, Wx, σ, p1⟩
theorem s_sl10 {p2 : Pos} (ha : PE X a (tz X.K X.mg Wx va ma)) (hb : PE X b (tz X.K X.mg Wx vb mb)) : PE X (.Subscript a (.Slice (some b) none none p2) pos)
    (tz X.K X.mg Wx (va ++ (vb ++ [])) fun r => bnd (ma r) fun x => bnd (bnd (mb r) intM) fun l' => bnd (ret none) fun h' => ofO (slD x l' h')) :=
  PE.imp (pe_slice slOk ha (po_some hb) po_none) fun σ H Q ⟨W, F, st, r, sr, re, p⟩ =>
    tz_use sr re.fst p fun x s1 v W1 F1 H1 sr1 e1 rx p1 => by
      rw [bnd_assoc] at p1
      refine tz_use sr1 (re.snd.fst.mono e1.le) p1 fun y s2 u W2 F2 H2 sr2 e2 ry p2 => ?_
      obtain ⟨i, rfl, p3⟩ := intM_use (P := Pst X.K X.mg Wx σ W2 F2 H2 Q) (fun z => z) p2
      rw [Rep] at ry; subst ry
      exact ⟨i, rfl, x, W2, F2, s2, sr2, rx.mono e2.le, Wx, σ, p3⟩
theorem s_sl01 {p2 : Pos} (ha : PE X a (tz X.K X.mg Wx va ma)) (hd : PE X d (tz X.K X.mg Wx vd md)) : PE X (.Subscript a (.Slice none (some d) none p2) pos)
    (tz X.K X.mg Wx (va ++ ([] ++ vd)) fun r => bnd (ma r) fun x => bnd (ret none) fun l' => bnd (bnd (md r) intM) fun h' => ofO (slD x l' h')) :=
  PE.imp (pe_slice slOk ha po_none (po_some hd)) fun σ H Q ⟨W, F, st, r, sr, re, p⟩ =>
    tz_use sr re.fst p fun x s1 v W1 F1 H1 sr1 e1 rx p1 => by
      have p1' : Pst X.K X.mg Wx σ W1 F1 H1 Q (bnd (bnd (md r) intM) (fun h' => ofO (slD x none h')) s1) := p1
      rw [bnd_assoc] at p1'
      refine tz_use sr1 (re.snd.snd.mono e1.le) p1' fun y s2 u W2 F2 H2 sr2 e2 ry p2 => ?_
      obtain ⟨i, rfl, p3⟩ := intM_use (P := Pst X.K X.mg Wx σ W2 F2 H2 Q) (fun z => z) p2
      rw [Rep] at ry; subst ry
      exact ⟨i, rfl, x, W2, F2, s2, sr2, rx.mono e2.le, Wx, σ, p3⟩
theorem s_sl11 {p2 : Pos} (ha : PE X a (tz X.K X.mg Wx va ma)) (hb : PE X b (tz X.K X.mg Wx vb mb)) (hd : PE X d (tz X.K X.mg Wx vd md)) : PE X (.Subscript a (.Slice (some b) (some d) none p2) pos)
    (tz X.K X.mg Wx (va ++ (vb ++ vd)) fun r => bnd (ma r) fun x => bnd (bnd (mb r) intM) fun l' => bnd (bnd (md r) intM) fun h' => ofO (slD x l' h')) :=
  PE.imp (pe_slice slOk ha (po_some hb) (po_some hd)) fun σ H Q ⟨W, F, st, r, sr, re, p⟩ =>
    tz_use sr re.fst p fun x s1 v W1 F1 H1 sr1 e1 rx p1 => by
      rw [bnd_assoc] at p1
      refine tz_use sr1 (re.snd.fst.mono e1.le) p1 fun y s2 u W2 F2 H2 sr2 e2 ry p2 => ?_
      obtain ⟨i, rfl, p3⟩ := intM_use (P := Pst X.K X.mg Wx σ W2 F2 H2 Q) (fun z => z) p2
      rw [Rep] at ry; subst ry
      refine ⟨i, rfl, ?_⟩
      rw [bnd_assoc] at p3
      refine tz_use sr2 (re.snd.snd.mono (e1.le.trans e2.le)) p3 fun z s3 w W3 F3 H3 sr3 e3 rz p4 => ?_
      obtain ⟨j, rfl, p5⟩ := intM_use (P := Pst X.K X.mg Wx σ W3 F3 H3 Q) (fun z => z) p4
      rw [Rep] at rz; subst rz
      exact ⟨j, rfl, x, W3, F3, s3, sr3, rx.mono (e2.le.trans e3.le), Wx, σ, p5⟩
end
end Z
set_option Elab.async false
set_option linter.all false
set_option maxRecDepth 100000
namespace Z
open PySem PySem.Spec PyProof.Rows L2 TL

theorem star_ok {e : Expr} {es : List Expr} {env : Env} (h : notStar e = true) : starEach (e :: es) env = (false, eval e env) :: starEach es env := by
  cases e <;> first | rfl | cases h
theorem star_any {es : List Expr} {env : Env} {pos : Pos} (h : es.all notStar = true) : (backTo pos (starEach es env)).any (·.1) = false := by
  have key : ∀ es : List Expr, es.all notStar = true → (starEach es env).any (·.1) = false := by
    intro es
    induction es with
    | nil => intro _; rfl
    | cons e es ih =>
      intro h
      rw [List.all_cons, Bool.and_eq_true] at h
      rw [star_ok h.1, List.any_cons, ih h.2]; rfl
  have := key es h
  unfold backTo
  first
    | exact this
    | (rw [List.any_map]; exact this)
    | simpa using this
theorem base_ok {o : Expr} {m : Str} {env : Env} {w : Sem Value} (h : notCallN o = true) : attributeBase o m env w = w := by
  unfold attributeBase
  split
  · cases h
  · rfl
section
variable {X : Cx} {Wx : WX} {a b d e : Expr} {va vb vd : List Nat} {ma mb md : Ev → M D} {ms : Ev → M (List D)} {vs : List Nat} {pos : Pos} {es : List Expr}
theorem s_nil : PA X [] (tzs X.K X.mg Wx [] fun _ => ret []) := PA.imp pa_nil fun σ H Q ⟨W, F, st, r, sr, re, p⟩ => p [] W F H sr .refl (by rw [Reps])
theorem s_cons (hn : notStar e = true) (he : PE X e (tz X.K X.mg Wx va ma)) (hs : PA X es (tzs X.K X.mg Wx vs ms)) :
    PA X (e :: es) (tzs X.K X.mg Wx (va ++ vs) fun r => bnd (ma r) fun d => bnd (ms r) fun ds => ret (d :: ds)) :=
  PA.imp (pa_cons he hs (star_ok hn)) fun σ H Q ⟨W, F, st, r, sr, re, p⟩ =>
    tz_useS sr re.fst p fun x s1 v W1 F1 H1 sr1 e1 rx p1 => tzs_useS sr1 (re.snd.mono e1.le) p1 fun y s2 u W2 F2 H2 sr2 e2 ry p2 =>
      p2 _ W2 F2 H2 sr2 .refl (by rw [Reps]; exact ⟨v, u, rfl, rx.mono e2.le, ry⟩)
theorem s_tup {k : Nat} (hs : PA X es (tzs X.K X.mg Wx vs ms)) (hl : ∀ r st ds st', ms r st = .ok ds st' → ds.length ≤ sizeLine) : PE X (.Tuple es k pos) (tz X.K X.mg Wx vs fun r => bnd (ms r) fun ds => ret (.tup ds)) :=
  PE.imp (pe_tup hs) fun σ H Q ⟨W, F, st, r, sr, re, p⟩ =>
    tzs_useE sr re p fun ds s1 v W1 F1 H1 q sr1 x rp p1 => by
      have hz : v.length ≤ sizeLine := by rw [← rp.length]; exact hl r st ds s1 q
      exact ⟨hz, fun p' hp => newT (X := X) sr1 p1 rp hz hp⟩
theorem s_lst (hs : PA X es (tzs X.K X.mg Wx vs ms)) (hl : ∀ r st ds st', ms r st = .ok ds st' → ds.length ≤ sizeLine) : PE X (.List es pos) (tz X.K X.mg Wx vs fun r => bnd (ms r) fun ds => ret (.lst ds)) :=
  PE.imp (pe_lst hs) fun σ H Q ⟨W, F, st, r, sr, re, p⟩ =>
    tzs_useE sr re p fun ds s1 v W1 F1 H1 q sr1 x rp p1 => by
      have hz : v.length ≤ sizeLine := by rw [← rp.length]; exact hl r st ds s1 q
      exact ⟨hz, fun p' hp => newL (X := X) sr1 p1 rp hz hp⟩
theorem s_callB {f : Str} {p : Pos} {b : Bi} (hc : X.calm = true) (hgd : X.A.guards = some []) (hu : X.A.units + 64 < cLine) (hg : Gl X f) (hm : X.mg f = none) (hb : biOf f = some b) (ho : okName f = true) (hall : (e :: es).all notStar = true) (hs : PA X (e :: es) (tzs X.K X.mg Wx vs ms)) :
    PE X (.Call (.Name f p) (e :: es) [] pos) (tz X.K X.mg Wx vs fun r => bnd (ms r) fun ds => ofO (biD b ds)) := by
  obtain ⟨h1, h2⟩ := biOf_ok hb
  rw [List.all_cons, Bool.and_eq_true] at hall
  unfold okName at ho
  simp only [Bool.and_eq_true, Bool.not_eq_true'] at ho
  have hn : f ≠ "__name__" := fun z => by rw [z] at ho; exact absurd ho.2 (by decide)
  have key : ∀ σ H Q, tz X.K X.mg Wx vs (fun r => bnd (ms r) fun ds => ofO (biD b ds)) σ H Q → tCB (rBi X b) (tzs X.K X.mg Wx vs ms) σ H Q := fun σ H Q ⟨W, F, st, r, sr, re, p⟩ =>
    tzs_use sr re p fun x s1 v W1 F1 H1 sr1 e1 rx p1 => ⟨x, W1, F1, s1, sr1, rx, Wx, σ, p1⟩
  have go := biOk hc hgd hu b h2
  cases b <;> first
    | exact PE.imp (pe_callB go hg hm h1 hs hn ho.1.1 (star_ok hall.1) (star_any hall.2)) key
    | exact PE.imp (pe_callTy go hg hm h1 hs hn ho.1.1 (star_ok hall.1) (star_any hall.2)) key
theorem s_isi {p q : Pos} {T : Str} {t : Ty} (hg : Gl X "isinstance") (hm : X.mg "isinstance" = none) (hgT : Gl X T) (hmT : X.mg T = none) (hT : tyOf T = some t) (hoT : okName T = true) (hn : notStar a = true) (ha : PE X a (tz X.K X.mg Wx va ma)) :
    PE X (.Call (.Name "isinstance" p) [a, .Name T q] [] pos) (tz X.K X.mg Wx va fun r => bnd (ma r) fun x => bnd (ofO (isD t x)) fun b => ret (.bl b)) := by
  unfold okName at hoT
  simp only [Bool.and_eq_true, Bool.not_eq_true'] at hoT
  have hn' : T ≠ "__name__" := fun z => by rw [z] at hoT; exact absurd hoT.2 (by decide)
  refine PE.imp (pe_callB isOk hg hm (by decide +kernel) (pa_cons ha (pa_cons (pe_bltn (v := .ty (tyName t)) hgT hmT (tyOf_ok hT) rfl hn' hoT.1.1) pa_nil) (star_ok hn)) (by decide) (by decide) (star_ok hn)) fun σ H Q ⟨W, F, st, r, sr, re, p⟩ => ?_
  refine tz_use sr re p fun x s1 v W1 F1 H1 sr1 e1 rx p1 => ?_
  cases z : isD t x with
  | none => rw [z] at p1; exact False.elim p1
  | some b =>
    rw [z] at p1
    exact ⟨v, t, x, W1, F1, s1, b, rfl, sr1, rx, z, Pst.fin (d := .bl b) sr1 p1 (by rw [Rep])⟩
/-! ### methods of texts -/
theorem sOk_join {z : Str} {ys : List Str} (hz : sOk z) (h : ∀ y ∈ ys, sOk y) (hs : (ys.map (·.length)).sum + ys.length * z.length ≤ 16777216) : sOk (Txt.join z ys) := by
  rw [join_eq]
  refine ⟨strOk_mem.mpr ?_, Nat.le_trans (StrLaws.join_length_le z ys) (Nat.le_trans hs (by decide))⟩
  have key : ∀ ys : List Str, (∀ y ∈ ys, sOk y) → ∀ c ∈ (Str.join z ys).cps.toList, c < 0x110000 := by
    intro ys
    induction ys with
    | nil => intro _ c hc; cases hc
    | cons y r ih =>
      intro h c hc
      cases r with
      | nil => exact strOk_mem.mp (h y (by simp)).1 c hc
      | cons y2 r =>
        have hc' : c ∈ (y.cps ++ z.cps ++ (Str.join z (y2 :: r)).cps).toList := hc
        rw [Array.toList_append, Array.toList_append] at hc'
        rcases List.mem_append.mp hc' with hc' | hc'
        · rcases List.mem_append.mp hc' with hc' | hc'
          · exact strOk_mem.mp (h y (by simp)).1 c hc'
          · exact strOk_mem.mp hz.1 c hc'
        · exact ih (fun y hy => h y (List.mem_cons_of_mem _ hy)) c hc'
  exact key ys h
theorem evs1 {mb : Ev → M D} {r : Ev} {f : List D → M D} : bnd (bnd (mb r) fun d => bnd (ret []) fun ds => ret (d :: ds)) f = bnd (mb r) fun d => f [d] := by
  rw [bnd_assoc]; rfl
theorem s_join {apos : Pos} (hb : notCallN a = true) (hl : (apos.endLine == pos.line) = true) (hn : notStar b = true) (ha : PE X a (tz X.K X.mg Wx va ma)) (hb2 : PE X b (tz X.K X.mg Wx vb mb)) :
    PE X (.Call (.Attribute a "join" apos) [b] [] pos) (tz X.K X.mg Wx (va ++ (vb ++ [])) fun r => bnd (ma r) fun x => if meT .join x then bnd (bnd (mb r) fun d => bnd (ret []) fun ds => ret (d :: ds)) fun ds => ofO (meD .join x ds) else stk) :=
  PE.imp (pe_join ha hb2 (star_ok hn) (base_ok hb) hl) fun σ H Q ⟨W, F, st, r, sr, re, p⟩ =>
    tz_use sr re.fst p fun x s1 v W1 F1 H1 sr1 e1 rx p1 => by
      cases x <;> first | exact False.elim p1 | skip
      rename_i z
      rw [Rep] at rx; obtain ⟨rfl, k⟩ := rx
      have p1 : Pst X.K X.mg Wx σ W1 F1 H1 Q (bnd (bnd (mb r) fun d => bnd (ret []) fun ds => ret (d :: ds)) (fun ds => ofO (meD .join (.str z) ds)) s1) := p1
      rw [evs1] at p1
      refine ⟨⟨z, rfl⟩, tz_use sr1 (re.snd.fst.mono e1.le) p1 fun y s2 u W2 F2 H2 sr2 e2 ry p2 => ?_⟩
      obtain ⟨d, e, pf⟩ := p2.finO
      unfold meD at e
      split at e
      · rename_i heq1 heq2 heq3
        cases heq1; cases heq2
        rw [Option.bind_eq_some_iff] at e
        obtain ⟨ys, e, e3⟩ := e
        split at e3
        · rename_i hz
          cases e3
          cases heq3
          rw [Rep] at ry; obtain ⟨l, vs, rfl, hl, rl⟩ := ry
          obtain ⟨rfl, ks⟩ := rl.strs e
          exact ⟨_, l, ys, rfl, rfl, .inl (SqL.of (sr2.sub _ _ hl)), hz, pf.fin sr2 (by rw [Rep]; exact ⟨rfl, sOk_join k ks hz⟩)⟩
        · cases e3
      · rename_i heq1 heq2 heq3
        cases heq1; cases heq2
        rw [Option.bind_eq_some_iff] at e
        obtain ⟨ys, e, e3⟩ := e
        split at e3
        · rename_i hz
          cases e3
          cases heq3
          rw [Rep] at ry; obtain ⟨l, vs, rfl, hl, rl⟩ := ry
          obtain ⟨rfl, ks⟩ := rl.strs e
          exact ⟨_, l, ys, rfl, rfl, .inr (sr2.tup hl), hz, pf.fin sr2 (by rw [Rep]; exact ⟨rfl, sOk_join k ks hz⟩)⟩
        · cases e3
      all_goals first
        | contradiction
        | (cases e; done)
        | (rename_i heq1 heq2 heq3; cases heq1; done)
end
end Z
set_option Elab.async false
set_option linter.all false
set_option maxRecDepth 100000
namespace Z
open PySem PySem.Spec PyProof.Rows L2 TL

/-- an iterator that yields the items ds -/
structure Wks (K : PySem.W.Frag) (J : It) (W : Wd) (ds : List D) : Prop where
  go : ∀ i H, Same W.hf H → i < ds.length → J.go i H
  stop : ∀ i H, Same W.hf H → ds.length ≤ i → J.stop i H
  len : ds.length ≤ sizeLine
  yld : ∀ i H x H' d, Same W.hf H → ds[i]? = some d → J.yld i H x H' → (H' = H ∧ Rep K W d x) ∨
    (∃ T d1 d2 x1 x2, d = .tup [d1, d2] ∧ x = .ref T ∧ H T = none ∧ H' = upd H T (.tup [x1, x2]) ∧ Rep K W d1 x1 ∧ Rep K W d2 x2)
/-- what may be wanted of an answer -/
structure Good {β : Type} (K : PySem.W.Frag) (mg : Str → Option Value) (Wx : WX) (σ : L2.St) (P : Wd → (Addr → Prop) → Hp → Res β → Prop) : Prop where
  ext : ∀ {W F H W1 F1 H1 r}, Ext W F H W1 F1 H1 → P W F H r → P W1 F1 H1 r
  exc : ∀ {W F H e st}, P W F H (.exc e st) → ∀ cls dx W' F' H', SR W' F' H' st → Ext W F H W' F' H' → XR K mg W' H' e cls dx → Wx cls dx σ H'
  stk : ∀ {W F H}, ¬ P W F H .stk
section
variable {K : PySem.W.Frag} {mg : Str → Option Value} {Wx : WX} {σ : L2.St} {W : Wd} {F : Addr → Prop} {H : Hp} {st : Sto} {vs : List Nat} {r : Ev} {β : Type} {P : Wd → (Addr → Prop) → Hp → Res β → Prop}
theorem gen_use {m : Ev → M D} {f : D → M β} {Q1 : VK} (g : Good K mg Wx σ P) (s : SR W F H st) (re : RelE K W vs σ r) (p : P W F H (bnd (m r) f st))
    (k : ∀ d s1 v W1 F1 H1, SR W1 F1 H1 s1 → Ext W F H W1 F1 H1 → Rep K W1 d v → P W1 F1 H1 (f d s1) → Q1 v H1) : tz K mg Wx vs m σ H Q1 := by
  refine ⟨W, F, st, r, s, re, ?_⟩
  unfold bnd at p
  cases q : m r st with
  | ok d s1 =>
    rw [q] at p
    intro v W1 F1 H1 s' x rp
    exact k d s1 v W1 F1 H1 s' x rp (g.ext x p)
  | exc e s1 => rw [q] at p; exact g.exc p
  | stk => rw [q] at p; exact (g.stk p).elim
theorem gens_use {m : Ev → M (List D)} {f : List D → M β} {Q1 : List V → Hp → Prop} (g : Good K mg Wx σ P) (s : SR W F H st) (re : RelE K W vs σ r) (p : P W F H (bnd (m r) f st))
    (k : ∀ d s1 v W1 F1 H1, SR W1 F1 H1 s1 → Ext W F H W1 F1 H1 → Reps K W1 d v → P W1 F1 H1 (f d s1) → Q1 v H1) : tzs K mg Wx vs m σ H Q1 := by
  refine ⟨W, F, st, r, s, re, ?_⟩
  unfold bnd at p
  cases q : m r st with
  | ok d s1 =>
    rw [q] at p
    intro v W1 F1 H1 s' x rp
    exact k d s1 v W1 F1 H1 s' x rp (g.ext x p)
  | exc e s1 => rw [q] at p; exact g.exc p
  | stk => rw [q] at p; exact (g.stk p).elim
end
theorem good_pst {K : PySem.W.Frag} {mg : Str → Option Value} {Wx : WX} {σ : L2.St} {Q : VK} : Good K mg Wx σ (fun W F H => Pst K mg Wx σ W F H Q) := ⟨fun x p => p.ext x, fun p => p, fun p => p⟩
/-- walked things: their items -/
def Psi (K : PySem.W.Frag) (mg : Str → Option Value) (Wx : WX) (σ : L2.St) (R : It → Hp → Prop) (W : Wd) (F : Addr → Prop) (H : Hp) : Res D → Prop
  | .ok d st' => ∃ ds, itD d = some ds ∧ ∀ J W' F' H', SR W' F' H' st' → Ext W F H W' F' H' → Wks K J W' ds → R J H'
  | .exc e st' => ∀ cls dx W' F' H', SR W' F' H' st' → Ext W F H W' F' H' → XR K mg W' H' e cls dx → Wx cls dx σ H'
  | .stk => False
theorem good_psi {K : PySem.W.Frag} {mg : Str → Option Value} {Wx : WX} {σ : L2.St} {R : It → Hp → Prop} : Good K mg Wx σ (Psi K mg Wx σ R) :=
  ⟨fun {W F H W1 F1 H1 r} x p => by
    cases r with
    | ok d st => obtain ⟨ds, e, k⟩ := p; exact ⟨ds, e, fun J W' F' H' s y => k J W' F' H' s (x.trans y)⟩
    | exc e st => exact fun c d W' F' H' s y => p c d W' F' H' s (x.trans y)
    | stk => exact p, fun p => p, fun p => p⟩
def tzi (K : PySem.W.Frag) (mg : Str → Option Value) (Wx : WX) (vs : List Nat) (m : Ev → M D) : TI := fun σ H R =>
  ∃ W F st r, SR W F H st ∧ RelE K W vs σ r ∧ Psi K mg Wx σ R W F H (m r st)
section
variable {X : Cx} {Wx : WX} {tg e : Expr} {va : List Nat} {ma : Ev → M D} {pos : Pos}
theorem list_uniq {K : PySem.W.Frag} {H : Hp} {a : Addr} {xs : List V} (h : H a = some (.lst xs)) : True := trivial
theorem wks_list {K : PySem.W.Frag} {W : Wd} {a : Addr} {vs : List V} {ds : List D} (hl : W.hf a = some (.lst vs)) (r : Reps K W ds vs) (hz : vs.length ≤ sizeLine) : Wks K (Itl K a) W ds where
  len := by rw [r.length]; exact hz
  go := fun i H s hi => ⟨vs, vs[i]'(by rw [← r.length]; exact hi), SqL.of (s _ _ hl), by simp⟩
  stop := fun i H s hi => ⟨vs, SqL.of (s _ _ hl), by rw [← r.length]; exact hi⟩
  yld := fun i H x H' d s hd y => by
    obtain ⟨e, y⟩ := y
    obtain ⟨v, e2, rv⟩ := r.get hd
    have := y vs (SqL.of (s _ _ hl))
    rw [e2] at this; cases this
    exact .inl ⟨e, rv⟩
theorem wks_tup {K : PySem.W.Frag} {W : Wd} {a : Addr} {vs : List V} {ds : List D} (hl : SqT K W.hf a vs) (r : Reps K W ds vs) (hz : vs.length ≤ sizeLine) : Wks K (Itt K a) W ds where
  len := by rw [r.length]; exact hz
  go := fun i H s hi => ⟨vs, vs[i]'(by rw [← r.length]; exact hi), SqT.mono s hl, by simp⟩
  stop := fun i H s hi => ⟨vs, SqT.mono s hl, by rw [← r.length]; exact hi⟩
  yld := fun i H x H' d s hd y => by
    obtain ⟨e, y⟩ := y
    obtain ⟨v, e2, rv⟩ := r.get hd
    have := y vs (SqT.mono s hl)
    rw [e2] at this; cases this
    exact .inl ⟨e, rv⟩
theorem wks_str {K : PySem.W.Frag} {W : Wd} {x : Str} (k : sOk x) : Wks K (Its x) W (x.cps.toList.map sgn) where
  len := by simp only [List.length_map, Array.length_toList]; exact k.2
  go := fun i H s hi => by simpa [Its] using hi
  stop := fun i H s hi => by simpa [Its] using hi
  yld := fun i H v H' d s hd y => by
    obtain ⟨e, c, e2, rfl⟩ := y
    rw [List.getElem?_map, Array.getElem?_toList, e2] at hd
    cases hd
    refine .inl ⟨e, ?_⟩
    unfold sgn
    rw [Rep]
    exact ⟨rfl, sOk_sgn k (by rw [Array.mem_toList_iff]; exact Array.mem_of_getElem? e2)⟩
theorem reps_ints {K : PySem.W.Frag} {W : Wd} : ∀ ns : List Int, Reps K W (ns.map D.int) (ns.map V.int)
  | [] => by rw [List.map_nil, List.map_nil, Reps]
  | n :: ns => by
    rw [List.map_cons, List.map_cons, Reps]
    exact ⟨_, _, rfl, by rw [Rep], reps_ints ns⟩
theorem wks_frz {K : PySem.W.Frag} {W : Wd} {a : Addr} {ns : List Int} (hl : SqL K W.hf a (ns.map V.int)) (hz : ns.length ≤ sizeLine) : Wks K (Itl K a) W (ns.map D.int) where
  len := by simpa using hz
  go := fun i H s hi => ⟨ns.map V.int, (ns.map V.int)[i]'(by simpa using hi), Same.seq s hl, by simp⟩
  stop := fun i H s hi => ⟨ns.map V.int, Same.seq s hl, by simpa using hi⟩
  yld := fun i H x H' d s hd y => by
    obtain ⟨e, y⟩ := y
    obtain ⟨v, e2, rv⟩ := (reps_ints (K := K) (W := W) ns).get hd
    have := y _ (Same.seq s hl)
    rw [e2] at this; cases this
    exact .inl ⟨e, rv⟩
theorem rngD_length (a : Int) (n : Nat) : (rngD a n).length = n := by simp [rngD]
theorem wks_rng {K : PySem.W.Frag} {W : Wd} {a : Int} {n : Nat} (hz : n ≤ sizeLine) : Wks K (Itr a n) W (rngD a n) where
  len := by rw [rngD_length]; exact hz
  go := fun i H s hi => by rw [rngD_length] at hi; exact hi
  stop := fun i H s hi => by rw [rngD_length] at hi; exact hi
  yld := fun i H x H' d s hd y => by
    obtain ⟨e, rfl⟩ := y
    have hi : i < n := by
      have := (List.getElem?_eq_some_iff.mp hd).1
      rwa [rngD_length] at this
    unfold rngD at hd
    rw [List.getElem?_map, List.getElem?_range hi] at hd
    cases hd
    exact .inl ⟨e, by rw [Rep]⟩
/-- an iterable by its value -/
theorem i_val (he : PE X e (tz X.K X.mg Wx va ma)) : PI X tg e (tzi X.K X.mg Wx va ma) := by
  refine ⟨fun pins s σ H R I h => ?_⟩
  obtain ⟨W, F, st, r, sr, re, h⟩ := h
  refine thn (he.run pins s σ H (fun x H1 => ∃ d ds W1 F1 s1, itD d = some ds ∧ SR W1 F1 H1 s1 ∧ Rep X.K W1 d x ∧ ∀ J, Wks X.K J W1 ds → R J H1) I ⟨W, F, st, r, sr, re, ?_⟩) fun v s1 ⟨x, H1, I1, r1, d, ds, W1, F1, st1, ei, sr1, rx, q⟩ => ?_
  · cases q : ma r st with
    | ok d st' =>
      rw [q] at h
      obtain ⟨ds, ei, k⟩ := h
      intro v W1 F1 H1 sr1 x1 rx
      exact ⟨d, ds, W1, F1, st', ei, sr1, rx, fun J wk => k J W1 F1 H1 sr1 x1 wk⟩
    | exc ee st' => rw [q] at h; exact h
    | stk => rw [q] at h; exact h.elim
  · unfold itD at ei
    split at ei
    · cases ei
      rw [Rep] at rx
      obtain ⟨a, vs, rfl, ha, ra⟩ := rx
      cases r1
      obtain ⟨its, rv, p, hz⟩ := I1.list (SqL.of (K := X.K) (sr1.sub _ _ ha))
      refine wpAny_pyIter_list p.isList ?_
      refine ⟨s1.heap.objs.size, [s1.heap.objs.size], _, _, H1, rfl, I1.kept (t' := s1.toks) fun b o e => Heap.get?_push_of_some _ e, turn_list a _, ⟨_, Heap.get?_push_size _ rfl, rfl, rfl⟩, fun b hb => ?_, q _ (wks_list ha ra hz)⟩
      have e : b = s1.heap.objs.size := by simpa using hb
      subst e
      exact I1.fpOk (Nat.le_refl _) (I1.hok.fresh (Nat.le_refl _))
    · cases ei
      rw [Rep] at rx
      obtain ⟨a, vs, rfl, ha, ra⟩ := rx
      cases r1
      obtain ⟨its, rv, p, hz⟩ := I1.tuple (sr1.tup ha)
      refine wpAny_pyIter_tuple (show s1.heap.IsTuple a its.toArray from p) ?_
      refine ⟨s1.heap.objs.size, [s1.heap.objs.size], _, _, H1, rfl, I1.kept (t' := s1.toks) fun b o e => Heap.get?_push_of_some _ e, turn_tuple a _, ⟨_, Heap.get?_push_size _ rfl, rfl, rfl⟩, fun b hb => ?_, q _ (wks_tup ha ra hz)⟩
      have e : b = s1.heap.objs.size := by simpa using hb
      subst e
      exact I1.fpOk (Nat.le_refl _) (I1.hok.fresh (Nat.le_refl _))
    · cases ei
      rw [Rep] at rx
      obtain ⟨rfl, k⟩ := rx
      rename_i y
      obtain ⟨t, rfl⟩ := r1
      cases ha : y.cps.all (· < 128)
      · exact wpAny_pyIter_wide ha (pi_one (tk := s1.toks) I1 _ (turn_str _ y t "str_iterator" (.inr rfl)) ⟨_, Heap.get?_push_size _ rfl, rfl, rfl⟩ (q _ (wks_str k)))
      · exact wpAny_pyIter_ascii ha (pi_one (tk := s1.toks) I1 _ (turn_str _ y t "str_ascii_iterator" (.inl rfl)) ⟨_, Heap.get?_push_size _ rfl, rfl, rfl⟩ (q _ (wks_str k)))
    · cases ei
      rw [Rep] at rx
      obtain ⟨a, rfl, ha⟩ := rx
      cases r1
      obtain ⟨its, rv, p, hz⟩ := I1.list (Same.seq sr1.sub ha)
      refine wpAny_pyIter_list p.isList ?_
      refine ⟨s1.heap.objs.size, [s1.heap.objs.size], _, _, H1, rfl, I1.kept (t' := s1.toks) fun b o e => Heap.get?_push_of_some _ e, turn_list a _, ⟨_, Heap.get?_push_size _ rfl, rfl, rfl⟩, fun b hb => ?_, q _ (wks_frz ha (by simpa using hz))⟩
      have e : b = s1.heap.objs.size := by simpa using hb
      subst e
      exact I1.fpOk (Nat.le_refl _) (I1.hok.fresh (Nat.le_refl _))
    · cases ei
theorem biD_rng1 (n : Int) : biD .range [.int n] = if -1000000 ≤ n ∧ n ≤ 1000000 then some (.lst (rngD 0 n.toNat)) else none := rfl
theorem biD_rng2 (a b : Int) : biD .range [.int a, .int b] = if -1000000 ≤ a ∧ a ≤ 1000000 ∧ -1000000 ≤ b ∧ b ≤ 1000000 then some (.lst (rngD a (b - a).toNat)) else none := rfl
theorem i_rng1 {a : Expr} {p : Pos} (hg : Gl X "range") (hm : X.mg "range" = none) (hn : notStar a = true) (ha : PE X a (tz X.K X.mg Wx va ma)) :
    PI X tg (.Call (.Name "range" p) [a] [] pos) (tzi X.K X.mg Wx (va ++ []) fun r => bnd (bnd (ma r) fun d => bnd (ret []) fun ds => ret (d :: ds)) fun ds => ofO (biD .range ds)) := by
  refine PI.imp (pi_range1 hg hm (pa_cons ha pa_nil (star_ok hn)) (star_ok hn)) fun σ H R ⟨W, F, st, r, sr, re, p⟩ => ?_
  have p : Psi X.K X.mg Wx σ R W F H (bnd (bnd (ma r) fun d => bnd (ret []) fun ds => ret (d :: ds)) (fun ds => ofO (biD .range ds)) st) := p
  rw [evs1] at p
  refine gen_use good_psi sr re.fst p fun d s1 v W1 F1 H1 sr1 x rx p => ?_
  cases d <;> first | exact False.elim p | skip
  rename_i n
  rw [Rep] at rx; subst rx
  rw [biD_rng1] at p
  by_cases hz : -1000000 ≤ n ∧ n ≤ 1000000
  · rw [if_pos hz] at p
    obtain ⟨ds, e, k⟩ := p
    cases e
    exact ⟨n, rfl, by omega, by omega, k _ W1 F1 H1 sr1 .refl (wks_rng (Nat.le_trans (by omega : n.toNat ≤ 2000000) (by decide)))⟩
  · rw [if_neg hz] at p; exact p.elim
theorem i_rng2 {a b : Expr} {p : Pos} {vb : List Nat} {mb : Ev → M D} (hg : Gl X "range") (hm : X.mg "range" = none) (hn : notStar a = true) (hnb : notStar b = true) (ha : PE X a (tz X.K X.mg Wx va ma)) (hb : PE X b (tz X.K X.mg Wx vb mb)) :
    PI X tg (.Call (.Name "range" p) [a, b] [] pos) (tzi X.K X.mg Wx (va ++ (vb ++ [])) fun r => bnd (bnd (ma r) fun d => bnd (bnd (mb r) fun d => bnd (ret []) fun ds => ret (d :: ds)) fun ds => ret (d :: ds)) fun ds => ofO (biD .range ds)) := by
  refine PI.imp (pi_range2 hg hm (pa_cons ha (pa_cons hb pa_nil (star_ok hnb)) (star_ok hn)) (by rw [star_ok hn, star_ok hnb]; rfl) (by rw [star_ok hnb]; rfl)) fun σ H R ⟨W, F, st, r, sr, re, p⟩ => ?_
  have p : Psi X.K X.mg Wx σ R W F H (bnd (ma r) (fun d => bnd (mb r) fun d' => ofO (biD .range [d, d'])) st) := by
    have e : (bnd (bnd (ma r) fun d => bnd (bnd (mb r) fun d => bnd (ret []) fun ds => ret (d :: ds)) fun ds => ret (d :: ds)) fun ds => ofO (biD .range ds)) = bnd (ma r) (fun d => bnd (mb r) fun d' => ofO (biD .range [d, d'])) := by
      rw [bnd_assoc]
      congr 1
      funext d
      rw [bnd_assoc, bnd_assoc]
      rfl
    rw [← e]; exact p
  refine gen_use good_psi sr re.fst p fun d s1 v W1 F1 H1 sr1 x rx p => ?_
  refine gen_use good_psi sr1 (re.snd.fst.mono x.le) p fun d2 s2 v2 W2 F2 H2 sr2 x2 rx2 p' => ?_
  clear p
  have p := p'
  clear p'
  cases d <;> cases d2 <;> first | exact False.elim p | skip
  rename_i i j
  rw [Rep] at rx rx2; subst rx rx2
  rw [biD_rng2] at p
  by_cases hz : -1000000 ≤ i ∧ i ≤ 1000000 ∧ -1000000 ≤ j ∧ j ≤ 1000000
  · rw [if_pos hz] at p
    obtain ⟨ds, e, k⟩ := p
    cases e
    exact ⟨i, j, rfl, ⟨by omega, by omega, by omega, by omega⟩, k _ W2 F2 H2 sr2 .refl (wks_rng (Nat.le_trans (by omega : (j - i).toNat ≤ 2000000) (by decide)))⟩
  · rw [if_neg hz] at p; exact p.elim
end
end Z
set_option Elab.async false
set_option linter.all false
set_option maxRecDepth 100000
namespace Z
open PySem PySem.Spec PyProof.Rows L2 TL

/-! ### unfrozen objects -/
section
variable {W W0 : Wd} {F F0 : Addr → Prop} {H H0 : Hp} {st st0 : Sto} {p : Addr} {o : HO}
theorem SR.nofoot (s : SR W F H st) (hp : H p = none) : ¬ F p := fun z => by
  have t := s.sto
  cases st with
  | none => exact t.2 p z
  | some m =>
    obtain ⟨a, c, l, _, ha, hc, hl, _, hF⟩ := t
    rcases (hF p).mp z with rfl | rfl | rfl
    · rw [hp] at ha; cases ha
    · rw [hp] at hc; cases hc
    · rw [hp] at hl; cases hl
theorem SR.nohf (s : SR W F H st) (hp : H p = none) : W.hf p = none := by
  cases q : W.hf p with
  | none => rfl
  | some x => rw [s.sub p x q] at hp; cases hp
/-- an object that is neither frozen nor the store's is written -/
theorem SR.write (s : SR W F H st) (hf : W.hf p = none) (hF : ¬ F p) (ho : ∀ xs, (o = .lst xs ∨ o = .tup xs) → xs.length ≤ sizeLine) : SR W F (upd H p o) st := by
  refine ⟨fun q x h => ?_, s.fh, s.len.upd ho, ?_⟩
  · rw [upd_ne (fun e => by subst e; rw [hf] at h; cases h)]; exact s.sub q x h
  · have t := s.sto
    cases st with
    | none => exact t
    | some m =>
      obtain ⟨a, c, l, h0, ha, hc, hl, hne, hF'⟩ := t
      have na : a ≠ p := fun e => hF ((hF' p).mpr (.inl e.symm))
      have nc : c ≠ p := fun e => hF ((hF' p).mpr (.inr (.inl e.symm)))
      have nl : l ≠ p := fun e => hF ((hF' p).mpr (.inr (.inr e.symm)))
      exact ⟨a, c, l, h0, by rw [upd_ne na]; exact ha, by rw [upd_ne nc]; exact hc, by rw [upd_ne nl]; exact hl, hne, hF'⟩
/-- .. seen from where it was not yet -/
theorem Ext.write (x : Ext W0 F0 H0 W F H) (h0 : H0 p = none) : Ext W0 F0 H0 W F (upd H p o) where
  le := x.le
  keep := fun q y h hf => by rw [upd_ne (fun e => by subst e; rw [h0] at h; cases h)]; exact x.keep q y h hf
  there := fun q h => by
    by_cases e : q = p
    · subst e; exact h0
    · rw [upd_ne e] at h; exact x.there q h
  foot := x.foot
  newf := x.newf
  fz := x.fz
/-- an object becomes frozen -/
theorem SR.freeze (s : SR W F H st) (hp : H p = some o) (hF : ¬ F p) : SR (W.put p o) F H st := by
  refine ⟨fun q x h => ?_, fun q z => ?_, s.len, ?_⟩
  · by_cases e : q = p
    · subst e
      have h' : upd W.hf q o q = some x := h
      rw [upd_same] at h'
      rw [hp]; exact h'
    · have h' : upd W.hf p o q = some x := h
      rw [upd_ne e] at h'
      exact s.sub q x h'
  · show upd W.hf p o q = none
    rw [upd_ne (fun e : q = p => hF (by subst e; exact z))]; exact s.fh q z
  · have t := s.sto
    cases st <;> exact t
theorem Ext.freeze (x : Ext W0 F0 H0 W F H) (hf : W.hf p = none) (h0 : H0 p = none) : Ext W0 F0 H0 (W.put p o) F H where
  le := ⟨x.le.ob, fun q y h => by
    show upd W.hf p o q = some y
    have h' := x.le.hf q y h
    rw [upd_ne (fun e => by subst e; rw [hf] at h'; cases h')]; exact h'⟩
  keep := x.keep
  there := x.there
  foot := x.foot
  newf := x.newf
  fz := fun q y h => by
    by_cases e : q = p
    · subst e; exact .inr h0
    · have h' : upd W.hf p o q = some y := h
      rw [upd_ne e] at h'
      exact x.fz q y h'
theorem Wd.put_le (hf : W.hf p = none) : W.Le (W.put p o) := ⟨fun _ _ h => h, fun q y h => by
  show upd W.hf p o q = some y
  rw [upd_ne (fun e => by subst e; rw [hf] at h; cases h)]; exact h⟩
end

/-! ### wiping, targets -/
theorem wipe_get {σ : L2.St} {i : Nat} : ∀ {vs : List Nat}, i ∉ vs → (wipe σ vs)[i]? = σ[i]? := fun h => wipe_out h
theorem getS_set {r : Ev} {i j : Nat} {o : Option D} (h : i ≠ j) : getS (r.set j o) i = getS r i := by
  unfold getS; rw [List.getElem?_set_ne (Ne.symm h)]
theorem getS_self {r : Ev} {i : Nat} {o : Option D} {d : D} (h : getS (r.set i o) i = some d) : o = some d := by
  unfold getS at h
  by_cases z : i < r.length
  · rw [List.getElem?_set_self z] at h; simpa using h
  · rw [List.getElem?_eq_none (by simpa using z)] at h; cases h
theorem wipeE_get {r : Ev} {i : Nat} {d : D} : ∀ {vs : List Nat}, getS (wipeE r vs) i = some d → getS r i = some d ∧ i ∉ vs
  | [], h => ⟨h, by simp⟩
  | v :: vs, h => by
    unfold wipeE at h
    by_cases e : i = v
    · subst e
      have := getS_self h
      cases this
    · rw [getS_set e] at h
      obtain ⟨h1, h2⟩ := wipeE_get h
      exact ⟨h1, by simp [e, h2]⟩
theorem RelE.wipe {K : PySem.W.Frag} {W : Wd} {vs : List Nat} {σ : L2.St} {r : Ev} (w : List Nat) (h : RelE K W vs σ r) : RelE K W vs (wipe σ w) (wipeE r w) := fun i hi d e => by
  obtain ⟨e1, e2⟩ := wipeE_get e
  obtain ⟨v, e3, rv⟩ := h i hi d e1
  exact ⟨v, by rw [wipe_out e2]; exact e3, rv⟩
theorem RelE.set {K : PySem.W.Frag} {W : Wd} {vs : List Nat} {σ : L2.St} {r : Ev} {i : Nat} {d : D} {v : V} (h : RelE K W vs σ r) (hi : i < σ.length) (rv : Rep K W d v) : RelE K W vs (σ.set i (some v)) (r.set i (some d)) := fun j hj y e => by
  by_cases z : j = i
  · subst z
    have := getS_self e
    cases this
    exact ⟨v, by rw [List.getElem?_set_self hi], rv⟩
  · rw [getS_set z] at e
    obtain ⟨u, e1, ru⟩ := h j hj y e
    exact ⟨u, by rw [List.getElem?_set_ne (Ne.symm z)]; exact e1, ru⟩
/-- the reading of a target -/
def gz (K : PySem.W.Frag) (t : Tg) : TG := fun v σ H Q => ∃ W F st r d r', SR W F H st ∧ Rep K W d v ∧ asg t d r = some r' ∧ (∀ i ∈ tgs t, i < σ.length) ∧
  ∀ σ', σ'.length = σ.length → (∀ vs, RelE K W vs σ r → RelE K W vs σ' r') → (∀ ws : List Nat, (∀ i ∈ tgs t, i ∈ ws) → wipe σ' ws = wipe σ ws) → (∀ i, i ∉ tgs t → σ'[i]? = σ[i]?) → Q σ' H
def gzs (K : PySem.W.Frag) (ts : List Tg) : TGs := fun vs' σ H Q => ∃ W F st r ds r', SR W F H st ∧ Reps K W ds vs' ∧ asgs ts ds r = some r' ∧ (∀ i ∈ tgss ts, i < σ.length) ∧
  ∀ σ', σ'.length = σ.length → (∀ vs, RelE K W vs σ r → RelE K W vs σ' r') → (∀ ws : List Nat, (∀ i ∈ tgss ts, i ∈ ws) → wipe σ' ws = wipe σ ws) → (∀ i, i ∉ tgss ts → σ'[i]? = σ[i]?) → Q σ' H
theorem PG.imp {X : Cx} {e : Expr} {t t' : TG} (h : PG X e t) (i : ∀ v σ H Q, t' v σ H Q → t v σ H Q) : PG X e t' := ⟨fun pins s σ H v u Q I r q => h.run pins s σ H v u Q I r (i _ _ _ _ q)⟩
theorem PGs.imp {X : Cx} {e : List Expr} {t t' : TGs} (h : PGs X e t) (i : ∀ v σ H Q, t' v σ H Q → t v σ H Q) : PGs X e t' := ⟨fun pins s σ H v u Q I r q => h.run pins s σ H v u Q I r (i _ _ _ _ q)⟩
theorem wipe_set {σ : L2.St} {i : Nat} {x : Option V} : ∀ {ws : List Nat}, i ∈ ws → wipe (σ.set i x) ws = wipe σ ws
  | w :: ws, h => by
    unfold wipe
    by_cases e : i ∈ ws
    · rw [wipe_set e]
    · have : i = w := by rcases List.mem_cons.mp h with h | h; exact h; exact absurd h e
      subst this
      have key : ∀ ws : List Nat, i ∉ ws → (wipe (σ.set i x) ws) = (wipe σ ws).set i x := by
        intro ws
        induction ws with
        | nil => intro _; rfl
        | cons v vs ih =>
          intro hv
          have h1 : i ≠ v := fun e => hv (by simp [e])
          have h2 : i ∉ vs := fun e => hv (List.mem_cons_of_mem _ e)
          show (wipe (σ.set i x) vs).set v none = ((wipe σ vs).set v none).set i x
          rw [ih h2, List.set_comm _ _ h1]
      rw [key ws e, List.set_set]
theorem tg_name {X : Cx} {i : Nat} {x : Str} {pos : Pos} (hN : X.N.Nodup) (hi : X.N[i]? = some x) (hx : Loc X.env.scope x) (hf : X.fn x = true ∨ X.env.scope.names.lookup x = some .local) : PG X (.Name x pos) (gz X.K (.nm i)) :=
  PG.imp (pg_name hN hi hx hf) fun v σ H Q ⟨W, F, st, r, d, r', sr, rv, e, hlt, k⟩ => by
    rw [asg] at e
    cases e
    have hi' : i < σ.length := hlt i (by simp [tgs])
    exact k _ (by simp) (fun vs re => re.set hi' rv) (fun ws h => wipe_set (h i (by simp [tgs]))) fun j hj => List.getElem?_set_ne (by simp [tgs] at hj; exact Ne.symm hj)
theorem tgs_nil {X : Cx} : PGs X [] (gzs X.K []) := PGs.imp pgs_nil fun v σ H Q ⟨W, F, st, r, ds, r', sr, rv, e, hlt, k⟩ => by
  cases ds with
  | nil =>
    rw [asgs] at e; cases e
    rw [Reps] at rv
    exact ⟨rv, k σ rfl (fun vs re => re) (fun _ _ => rfl) fun _ _ => rfl⟩
  | cons d ds => rw [asgs] at e <;> first | cases e | (intros; simp_all)
theorem tgs_cons {X : Cx} {e : Expr} {es : List Expr} {t : Tg} {ts : List Tg} (h1 : PG X e (gz X.K t)) (h2 : PGs X es (gzs X.K ts))
    (hs : (assignEach (e :: es) X.env).map (·.2) = assign e X.env :: (assignEach es X.env).map (·.2)) : PGs X (e :: es) (gzs X.K (t :: ts)) :=
  PGs.imp (pgs_cons h1 h2 hs) fun v σ H Q ⟨W, F, st, r, ds, r', sr, rv, e, hlt, k⟩ => by
    cases ds with
    | nil => rw [asgs] at e <;> first | cases e | (intros; simp_all)
    | cons d ds =>
      rw [asgs, Option.bind_eq_some_iff] at e
      obtain ⟨r1, e1, e2⟩ := e
      rw [Reps] at rv
      obtain ⟨x, xs, rfl, rx, rxs⟩ := rv
      have l1 : ∀ i ∈ tgs t, i < σ.length := fun i hi => hlt i (by rw [tgss]; exact List.mem_append_left _ hi)
      have l2 : ∀ i ∈ tgss ts, i < σ.length := fun i hi => hlt i (by rw [tgss]; exact List.mem_append_right _ hi)
      refine ⟨x, xs, rfl, W, F, st, r, d, r1, sr, rx, e1, l1, fun σ1 n1 k1 w1 o1 => ⟨W, F, st, r1, ds, r', sr, rxs, e2, fun i hi => by rw [n1]; exact l2 i hi, fun σ2 n2 k2 w2 o2 => ?_⟩⟩
      refine k σ2 (n2.trans n1) (fun vs re => k2 vs (k1 vs re)) (fun ws h => ?_) fun i hi => ?_
      · rw [w2 ws fun i hi => h i (by rw [tgss]; exact List.mem_append_right _ hi), w1 ws fun i hi => h i (by rw [tgss]; exact List.mem_append_left _ hi)]
      · rw [tgss, List.mem_append, not_or] at hi
        rw [o2 i hi.2, o1 i hi.1]
theorem asgs_len : ∀ {ts : List Tg} {ds : List D} {r r' : Ev}, asgs ts ds r = some r' → ts.length = ds.length
  | [], [], _, _, _ => rfl
  | [], _ :: _, _, _, h => by rw [asgs] at h <;> first | cases h | (intros; simp_all)
  | _ :: _, [], _, _, h => by rw [asgs] at h <;> first | cases h | (intros; simp_all)
  | t :: ts, d :: ds, _, _, h => by
    rw [asgs, Option.bind_eq_some_iff] at h
    obtain ⟨_, _, h⟩ := h
    simp [asgs_len h]
theorem tg_tup {X : Cx} {es : List Expr} {k : Nat} {ts : List Tg} {pos : Pos} (hc : X.calm = true) (h : PGs X es (gzs X.K ts)) (hl : es.length = ts.length)
    (hn : (assignEach es X.env).length = es.length) (hst : (assignEach es X.env).findIdx? (·.1) = none) : PG X (.Tuple es k pos) (gz X.K (.tp ts)) :=
  PG.imp (pg_tup hc h hn hst) fun v σ H Q ⟨W, F, st, r, d, r', sr, rv, e, hlt, k⟩ => by
    cases d <;> (try rw [asg] at e) <;> first | (cases e; done) | skip
    case tup ds =>
      rw [Rep] at rv
      obtain ⟨a, vs, rfl, ha, ra⟩ := rv
      exact ⟨a, vs, rfl, sr.tup ha, by rw [hl, asgs_len e, ra.length], W, F, st, r, ds, r', sr, ra, e, fun i hi => hlt i (by rw [tgs]; exact hi), fun σ' n1 k1 w1 o1 => k σ' n1 k1 (fun ws h => w1 ws fun i hi => h i (by rw [tgs]; exact hi)) fun i hi => o1 i (by rw [tgs] at hi; exact hi)⟩
    all_goals (exact absurd e (by simp))
end Z
set_option Elab.async false
set_option linter.all false
set_option maxRecDepth 100000
namespace Z
open PySem PySem.Spec PyProof.Rows L2 TL

abbrev Wn : WX := fun _ _ _ _ => False
theorem PE.impI {X : Cx} {e : Expr} {t t' : TE} (h : PE X e t) (i : ∀ σ H Q, σ.length = X.N.length → t' σ H Q → t σ H Q) : PE X e t' := ⟨fun pins s σ H Q I q => h.run pins s σ H Q I (i _ _ _ I.len q)⟩
/-- an answer wanted from where one stood, no exception -/
theorem anch_use {K : PySem.W.Frag} {mg : Str → Option Value} {σ : L2.St} {W : Wd} {F : Addr → Prop} {H : Hp} {st : Sto} {vs : List Nat} {r : Ev} {β : Type} {P : Res β → Prop} {m : Ev → M D} {f : D → M β} {Q1 : VK} (hP : ¬ P .stk) (s : SR W F H st) (re : RelE K W vs σ r) (p : P (bnd (nox (m r)) f st))
    (k : ∀ d s1 v W1 F1 H1, SR W1 F1 H1 s1 → Ext W F H W1 F1 H1 → Rep K W1 d v → P (f d s1) → Q1 v H1) : tz K mg Wn vs m σ H Q1 := by
  refine ⟨W, F, st, r, s, re, ?_⟩
  unfold bnd nox at p
  cases q : m r st with
  | ok d s1 =>
    rw [q] at p
    intro v W1 F1 H1 s' x rp
    exact k d s1 v W1 F1 H1 s' x rp p
  | exc e s1 => rw [q] at p; exact absurd p hP
  | stk => rw [q] at p; exact absurd p hP
/-- one turn of a comprehension -/
def lcF (t : Tg) (w : List Nat) (r : Ev) (mc me : Ev → M D) (d : D) : M (Option D) := match asg t d (wipeE r w) with
  | none => stk
  | some r' => bnd (nox (mc r')) fun b => match b with
    | .bl true => bnd (nox (me r')) fun y => ret (some y)
    | .bl false => ret none
    | _ => stk
def lcM (t : Tg) (w : List Nat) (mi mc me : Ev → M D) (r : Ev) : M D := bnd (mi r) fun x => match itD x with
  | none => stk
  | some ds => bnd (lcL (lcF t w r mc me) ds) fun ys => ret (.lst ys)
def accO (acc : List D) : Option D → List D
  | some y => acc ++ [y]
  | none => acc
theorem lcL_cons (f : D → M (Option D)) (d : D) (ds : List D) : lcL f (d :: ds) = bnd (f d) fun o => bnd (lcL f ds) fun r => ret (match o with | some y => y :: r | none => r) := rfl
theorem ret_bnd {α β : Type} (a : α) (f : α → M β) : bnd (ret a) f = f a := rfl
theorem lc_step (f : D → M (Option D)) (d : D) (ds acc : List D) : (bnd (lcL f (d :: ds)) fun ys => ret (D.lst (acc ++ ys))) = bnd (f d) fun o => bnd (lcL f ds) fun ys => ret (.lst (accO acc o ++ ys)) := by
  rw [lcL_cons, bnd_assoc]
  congr 1
  funext o
  rw [bnd_assoc]
  congr 1
  funext ys
  rw [ret_bnd]
  cases o with
  | none => rfl
  | some y => show ret (D.lst (acc ++ y :: ys)) = ret (D.lst (acc ++ [y] ++ ys)); rw [List.append_assoc]; rfl
section
variable {X : Cx} {Wx : WX} {elt tg iter : Expr} {ifs : List Expr} {scope : Scope} {own : List (Str × Nat)} {pos : Pos} {vi vc ve : List Nat} {mi mc me : Ev → M D} {t : Tg}
/-- the reading of a comprehension -/
theorem lc_read {σ : L2.St} {H : Hp} {Q : VK} {w : List Nat} (hw : ∀ i ∈ tgs t, i ∈ w) (hlt : ∀ i ∈ tgs t, i < σ.length) (hlen : (wipe σ w).length = σ.length)
    (h : tz X.K X.mg Wx (vi ++ (vc ++ ve)) (lcM t w mi mc me) σ H Q) :
    tLc (tzi X.K X.mg Wx vi mi) (gz X.K t) (tzT X Wn vc mc) (tz X.K X.mg Wn ve me) w σ H Q := by
  obtain ⟨W, F, st, r, sr, re, p⟩ := h
  refine ⟨W, F, st, r, sr, re.fst, ?_⟩
  unfold lcM bnd at p
  cases q : mi r st with
  | stk => rw [q] at p; exact p
  | exc e s1 => rw [q] at p; exact p
  | ok x s1 =>
    rw [q] at p
    have p : Pst X.K X.mg Wx σ W F H Q ((match itD x with
      | none => stk
      | some ds => bnd (lcL (lcF t w r mc me) ds) fun ys => ret (Z.D.lst ys)) s1) := p
    cases e : itD x with
    | none => rw [e] at p; exact p.elim
    | some ds =>
      rw [e] at p
      refine ⟨ds, e, fun J W1 F1 H1 sr1 x1 wk D hD => ?_⟩
      have p1 : Pst X.K X.mg Wx σ W1 F1 H1 Q ((bnd (lcL (lcF t w r mc me) ds) fun ys => ret (Z.D.lst ([] ++ ys))) s1) := p.ext x1
      have rel0 : RelE X.K W1 (vc ++ ve) σ r := re.snd.mono x1.le
      have hf1 := sr1.nohf hD
      have hF1 := sr1.nofoot hD
      refine ⟨fun i m H => m = ds.length - i ∧ i ≤ ds.length ∧ ∃ Wi Fi si aD aV, SR Wi Fi H si ∧ Ext W1 F1 H1 Wi Fi H ∧ Wi.hf D = none ∧ ¬ Fi D ∧ H D = some (.lst aV) ∧ Reps X.K Wi aD aV ∧ aV.length ≤ i ∧
        Pst X.K X.mg Wx σ W1 F1 H1 Q ((bnd (lcL (lcF t w r mc me) (ds.drop i)) fun ys => ret (Z.D.lst (aD ++ ys))) si), ⟨ds.length, by simp, Nat.zero_le _, W1, F1, s1, [], [],
        sr1.write hf1 hF1 (fun xs z => by rcases z with z | z <;> cases z; exact Nat.zero_le _), Ext.refl.write hD, hf1, hF1, upd_same, by rw [Reps], Nat.le_refl _, by rw [List.drop_zero]; exact p1⟩, ?_⟩
      rintro i m Hi ⟨rfl, hi, Wi, Fi, si, aD, aV, sri, xi, hfi, hFi, hDi, ra, hal, pi⟩
      have same : Same W1.hf Hi := fun b o h => sri.sub _ _ (xi.le.hf _ _ h)
      by_cases hlt' : i < ds.length
      · refine .inr ⟨wk.go i Hi same hlt', fun H' => i + 1 ≤ ds.length ∧ ∃ Wi Fi si aD aV, SR Wi Fi H' si ∧ Ext W1 F1 H1 Wi Fi H' ∧ Wi.hf D = none ∧ ¬ Fi D ∧ H' D = some (.lst aV) ∧ Reps X.K Wi aD aV ∧ aV.length ≤ i + 1 ∧
          Pst X.K X.mg Wx σ W1 F1 H1 Q ((bnd (lcL (lcF t w r mc me) (ds.drop (i + 1))) fun ys => ret (Z.D.lst (aD ++ ys))) si), fun H' h' => ⟨ds.length - (i + 1), by omega, rfl, h'⟩, fun v H' y => ?_⟩
        have hd : ds[i]? = some ds[i] := by simp [hlt']
        generalize hdd : ds[i] = d at hd
        have hdrop : ds.drop i = d :: ds.drop (i + 1) := by rw [← hdd]; exact List.drop_eq_getElem_cons hlt'
        rw [hdrop, lc_step] at pi
        -- the item
        obtain ⟨W2, F2, sr2, x2, rd, hf2, hF2, hD2⟩ : ∃ W2 F2, SR W2 F2 H' si ∧ Ext Wi Fi Hi W2 F2 H' ∧ Rep X.K W2 d v ∧ W2.hf D = none ∧ ¬ F2 D ∧ H' D = some (.lst aV) := by
          rcases wk.yld i Hi v H' d same hd y with ⟨rfl, rd⟩ | ⟨T, d1, d2, y1, y2, rfl, rfl, hT, rfl, r1, r2⟩
          · exact ⟨Wi, Fi, sri, .refl, rd.mono xi.le, hfi, hFi, hDi⟩
          · have hz2 : ∀ zs, (HO.tup [y1, y2] = .lst zs ∨ HO.tup [y1, y2] = .tup zs) → zs.length ≤ sizeLine := fun zs z => by
              rcases z with z | z
              · cases z
              · cases z; show 2 ≤ sizeLine; decide
            obtain ⟨a1, a2⟩ := sri.laid hT hz2
            have nT : D ≠ T := fun e => by rw [e, hT] at hDi; cases hDi
            refine ⟨Wi.put T (.tup [y1, y2]), Fi, a1, a2, ?_, ?_, hFi, ?_⟩
            · rw [Rep]
              refine ⟨T, _, rfl, SqT.of (Wi.put_at _ _), ?_⟩
              have l := xi.le.trans a2.le
              rw [Reps]
              refine ⟨y1, [y2], rfl, r1.mono l, ?_⟩
              rw [Reps]
              exact ⟨y2, [], rfl, r2.mono l, by rw [Reps]⟩
            · show upd Wi.hf T _ D = none
              rw [upd_ne nT]; exact hfi
            · rw [upd_ne nT]; exact hDi
        -- the target
        unfold lcF at pi
        cases ea : asg t d (wipeE r w) with
        | none => rw [ea] at pi; exact pi.elim
        | some r' =>
          rw [ea] at pi
          have rel2 : RelE X.K W2 (vc ++ ve) (wipe σ w) (wipeE r w) := (rel0.mono (xi.le.trans x2.le)).wipe w
          refine ⟨W2, F2, si, wipeE r w, d, r', sr2, rd, ea, fun j hj => by rw [hlen]; exact hlt j hj, fun σ' n1 k1 w1 _ => ⟨?_, ?_⟩⟩
          · rw [w1 w hw]
            have key : ∀ ws : List Nat, wipe (wipe σ ws) ws = wipe σ ws := by
              intro ws
              refine List.ext_getElem? fun j => ?_
              by_cases hj : j ∈ ws
              · cases z : (wipe (wipe σ ws) ws)[j]? with
                | none =>
                  have l1 := List.getElem?_eq_none_iff.mp z
                  rw [wipe_length, wipe_length] at l1
                  rw [List.getElem?_eq_none (by rw [wipe_length]; exact l1)]
                | some o =>
                  cases o with
                  | some u => exact absurd hj (wipe_some z).2
                  | none =>
                    have l1 : j < σ.length := by
                      have := (List.getElem?_eq_some_iff.mp z).1
                      rwa [wipe_length, wipe_length] at this
                    cases z2 : (wipe σ ws)[j]? with
                    | none => rw [List.getElem?_eq_none_iff, wipe_length] at z2; omega
                    | some o2 =>
                      cases o2 with
                      | none => rfl
                      | some u => exact absurd hj (wipe_some z2).2
              · rw [wipe_out hj]
            exact key w
          · rw [bnd_assoc] at pi
            have rel3 := k1 _ rel2
            refine anch_use (P := Pst X.K X.mg Wx σ W1 F1 H1 Q) (fun z => z) sr2 rel3.fst pi fun b s3 u W3 F3 H3 sr3 x3 rb p3 => ?_
            have hD3 : H3 D = some (.lst aV) := x3.keep D _ hD2 hF2
            have hf3 : W3.hf D = none := by
              cases z : W3.hf D with
              | none => rfl
              | some o =>
                rcases x3.fz D o z with z | z
                · rw [hf2] at z; cases z
                · rw [hD2] at z; cases z
            have hF3 : ¬ F3 D := fun z => (x3.newf D z).elim hF2 fun z => by rw [hD2] at z; cases z
            cases b <;> first | exact False.elim p3 | skip
            rename_i bb
            rw [Rep] at rb; subst rb
            refine ⟨bb, rfl, ?_⟩
            cases bb with
            | false =>
              exact ⟨by omega, W3, F3, s3, aD, aV, sr3, (xi.trans x2).trans x3, hf3, hF3, hD3, ra.mono (x2.le.trans x3.le), by omega, p3⟩
            | true =>
              have p3 : Pst X.K X.mg Wx σ W1 F1 H1 Q (bnd (bnd (nox (me r')) fun y => ret (some y)) (fun o => bnd (lcL (lcF t w r mc me) (ds.drop (i + 1))) fun ys => ret (Z.D.lst (accO aD o ++ ys))) s3) := p3
              rw [bnd_assoc] at p3
              refine anch_use (P := Pst X.K X.mg Wx σ W1 F1 H1 Q) (fun z => z) sr3 (rel3.snd.mono x3.le) p3 fun y s4 u W4 F4 H4 sr4 x4 ry p4 => ?_
              have hD4 : H4 D = some (.lst aV) := x4.keep D _ hD3 hF3
              have hf4 : W4.hf D = none := by
                cases z : W4.hf D with
                | none => rfl
                | some o =>
                  rcases x4.fz D o z with z | z
                  · rw [hf3] at z; cases z
                  · rw [hD3] at z; cases z
              have hF4 : ¬ F4 D := fun z => (x4.newf D z).elim hF3 fun z => by rw [hD3] at z; cases z
              have hlen' := wk.len
              have hal' : aV.length < sizeLine := by omega
              refine ⟨aV, hD4, hal', by omega, W4, F4, s4, aD ++ [y], aV ++ [u], sr4.write hf4 hF4 (fun xs z => ?_), (((xi.trans x2).trans x3).trans x4).write hD, hf4, hF4, upd_same, ?_, by rw [List.length_append]; simp; omega, p4⟩
              · rcases z with z | z
                · cases z; rw [List.length_append]; exact hal'
                · cases z
              · exact (ra.mono ((x2.le.trans x3.le).trans x4.le)).append (by rw [Reps]; exact ⟨u, [], rfl, ry, by rw [Reps]⟩)
      · have ei : i = ds.length := by omega
        subst ei
        refine .inl ⟨wk.stop _ Hi same (Nat.le_refl _), ?_⟩
        rw [List.drop_length] at pi
        have pi : Pst X.K X.mg Wx σ W1 F1 H1 Q (ret (Z.D.lst (aD ++ [])) si) := pi
        rw [List.append_nil] at pi
        refine pi (.ref D) (Wi.put D (.lst aV)) Fi Hi (sri.freeze hDi hFi) (xi.freeze hfi hD) ?_
        rw [Rep]
        exact ⟨D, aV, rfl, Wi.put_at _ _, ra.mono (Wd.put_le hfi)⟩
theorem s_lc (hc : X.calm = true) (hN : X.N.Nodup) (ok : BlkOk X.N X.env.scope scope own) (hi : PI X tg iter (tzi X.K X.mg Wx vi mi))
    (hg : ∀ (s : Shared) (H : Hp) (C : Addr) (cl : List (Str × Addr)) (fp : List Addr), PG (X.blk s H scope (compEnvC scope cl C X.env) fp) tg (gz X.K t))
    (ht : ∀ (s : Shared) (H : Hp) (C : Addr) (cl : List (Str × Addr)) (fp : List Addr), PTs (X.blk s H scope (compEnvC scope cl C X.env) fp) ifs (tzT X Wn vc mc))
    (he : ∀ (s : Shared) (H : Hp) (C : Addr) (cl : List (Str × Addr)) (fp : List Addr), PE (X.blk s H scope (compEnvC scope cl C X.env) fp) elt (tz X.K X.mg Wn ve me))
    (hs : ∀ x, foldedSetIterable iter X.env x = pure x) (hw : ∀ i ∈ tgs t, i ∈ own.map (·.2)) (hlt : ∀ i ∈ tgs t, i < X.N.length) :
    PE X (.ListComp elt [⟨tg, iter, ifs, 0⟩] scope pos) (tz X.K X.mg Wx (vi ++ (vc ++ ve)) (lcM t (own.map (·.2)) mi mc me)) :=
  PE.impI (pe_lc hc hN hi ok hg ht he hs) fun σ H Q hl h => lc_read hw (fun i hi => by rw [hl]; exact hlt i hi) (wipe_length _ _) h
end
end Z
set_option Elab.async false
set_option linter.all false
set_option maxRecDepth 100000
set_option maxHeartbeats 2000000
namespace Z
open PySem PySem.Spec PyProof.Rows L2 TL

/-! ### defs that are called while nothing is being shown (a list's repr asks that) -/
structure Rg (k : Nat) (A : Around) : Prop where
  room : Room k A
  none : A.guards = some []
theorem Rg.mono {j k : Nat} {A : Around} (r : Rg k A) (h : j ≤ k) : Rg j A := ⟨r.room.mono h, r.none⟩
theorem Rg.deeper {k : Nat} {A : Around} (r : Rg (k + 1) A) (env : Env) : Rg k (A.deeper env) := ⟨r.room.deeper env, r.none⟩
structure FnG (P : Program) (w : World) (K : PySem.W.Frag) (mg : Str → Option Value) (base : Heap) (CX : CXT) (k : Nat) (f : Addr) (fd : FuncData) (ps : List Str) (sp : Sp) : Prop where
  len : ∀ vs H Q E, sp vs H Q E → vs.length = ps.length
  go : ∀ (A : Around) (outer : List Env) (s : Shared) (H : Hp) (args : Args) (us : List Value) (vs : List V) (Q : VK) (E : XK), Rg k A → Env0 P w K mg base A outer s H → BindsTo s fd args (ps.zip us) → Vals vs us → sp vs H Q E →
    codeAny (model P w) A (.call (.ref f) args) (CR CX outer P w H s Q E) s
theorem FnG.mono {P : Program} {w : World} {K : PySem.W.Frag} {mg : Str → Option Value} {base : Heap} {CX : CXT} {j k : Nat} {f : Addr} {fd : FuncData} {ps : List Str} {sp : Sp} (F : FnG P w K mg base CX j f fd ps sp) (h : j ≤ k) : FnG P w K mg base CX k f fd ps sp :=
  ⟨F.len, fun A outer s H args us vs Q E hr => F.go A outer s H args us vs Q E (hr.mono h)⟩
theorem FnG.imp {P : Program} {w : World} {K : PySem.W.Frag} {mg : Str → Option Value} {base : Heap} {CX : CXT} {k : Nat} {f : Addr} {fd : FuncData} {ps : List Str} {sp sp' : Sp} (F : FnG P w K mg base CX k f fd ps sp) (h : ∀ vs H Q E, sp' vs H Q E → sp vs H Q E) : FnG P w K mg base CX k f fd ps sp' :=
  ⟨fun vs H Q E q => F.len vs H Q E (h _ _ _ _ q), fun A outer s H args us vs Q E hr he hb hv hs => F.go A outer s H args us vs Q E hr he hb hv (h _ _ _ _ hs)⟩
/-- a call of such a def, from a body that is called so itself -/
theorem run_g {X : Cx} {CX : CXT} {k : Nat} {f : Addr} {fd : FuncData} {ps : List Str} {sp : Sp} {E : L2.St → XK} {pins : List (Addr × Obj)} {σ : L2.St} {H : Hp} {s : Shared} {Q : VK} {us : List Value} {vs : List V} (F : FnG X.prog X.w X.K X.mg X.base CX k f fd ps sp)
    (hr : Rg k X.A) (hb : Binds X.K fd ps []) (hx : PassesAt CX X σ (E σ)) (I : Inv X pins σ H s) (r : Vals vs us) (h : sp vs H Q (E σ)) : wpAny (model X.prog X.w) X.A (call (.ref f) us) (EP X pins σ Q) X.xe s := by
  have hl : (us ++ []).length = ps.length := by rw [List.append_nil, ← r.length]; exact F.len _ _ _ _ h
  have b := hb s us I.kIn hl
  rw [List.append_nil] at b
  refine wpAny_call (codeAny_mono (F.go X.A X.stack s H ⟨us, []⟩ us vs Q (E σ) hr I.env0 b r h) fun r s' hq => ?_)
  rcases r with e | fl
  · exact hx pins H s e s' I hq
  · cases fl <;> first | exact I.after hq | exact False.elim hq
theorem pe_g {X : Cx} {CX : CXT} {k : Nat} {f : Addr} {fd : FuncData} {ps : List Str} {sp : Sp} {E : L2.St → XK} {x : Str} {p pos : Pos} {e : Expr} {es : List Expr} {t : TA} (F : FnG X.prog X.w X.K X.mg X.base CX k f fd ps sp) (hr : Rg k X.A) (hg : Gl X x) (hm : X.mg x = some (.ref f))
    (hk : PySem.W.keepIn X.K (.ref f) = true) (hb : Binds X.K fd ps []) (hx : ∀ σ, PassesAt CX X σ (E σ)) (ha : PA X (e :: es) t) (hdb : (x == ("__debug__" : Str)) = false) (he : starEach (e :: es) X.env = (false, eval e X.env) :: starEach es X.env)
    (hpl : (backTo pos (starEach es X.env)).any (·.1) = false) : PE X (.Call (.Name x p) (e :: es) [] pos) (tCallS sp E t) := ⟨fun pins s σ H Q I h =>
  wpAny_Call_Name_kw (ld_glob I hg hm (PySem.W.callWith_K (h₀ := X.base) I.ok.mod.kin hk (thn (ha.run pos pins s σ H _ I h) fun us s1 ⟨vs, H1, I1, r, q⟩ => ⟨I1.kIn, run_g F hr hb (hx σ) I1 r q⟩) he hpl) hdb)⟩
theorem pe_g0 {X : Cx} {CX : CXT} {k : Nat} {f : Addr} {fd : FuncData} {ps : List Str} {sp : Sp} {E : L2.St → XK} {x : Str} {p pos : Pos} (F : FnG X.prog X.w X.K X.mg X.base CX k f fd ps sp) (hr : Rg k X.A) (hg : Gl X x) (hm : X.mg x = some (.ref f))
    (hk : PySem.W.keepIn X.K (.ref f) = true) (hb : Binds X.K fd ps []) (hx : ∀ σ, PassesAt CX X σ (E σ)) (hdb : (x == ("__debug__" : Str)) = false) : PE X (.Call (.Name x p) [] [] pos) (tCallS sp E tNil) := ⟨fun pins s σ H Q I h =>
  wpAny_Call_Name_kw (ld_glob I hg hm (PySem.W.callWith_K0 I.kIn hk (run_g (us := []) F hr hb (hx σ) I .nil h)) hdb)⟩
/-- a def's body -/
theorem fn_g {CX : CXT} {P : Program} {w : World} {K : PySem.W.Frag} {mg : Str → Option Value} {base : Heap} {x qual : Str} {params : Arguments} {body : List Stmt} {scope : Scope} {dvs : List V} {kws : List (Str × V)} {f : Addr} {fd : FuncData} {N ps : List Str} {k : Nat} {sp : Sp}
    (F : FunD K x qual params body scope dvs kws f fd) (S : FnScope N ps scope) (len : ∀ vs H Q E, sp vs H Q E → vs.length = ps.length)
    (hbody : ∀ (cdv : Value) (A : Around) (outer : List Env) (s : Shared) (H : Hp) (vs : List V) (Q : VK) (E : XK), Rg k (A.deeper (envOfC qual scope s.heap.objs.size f cdv)) → sp vs H Q E →
      ∃ t, PSs (cxOf CX P w K mg base N qual scope f cdv A outer s H E) body t ∧ t { nx := fun _ H' => Q .non H', rt := Q } (start N vs) H) : FnG P w K mg base CX (k + 1) f fd ps sp := by
  obtain ⟨oc, od, dV, kV, doc, pm, an, cdv, ct, osl, rfl, lk, hcd, _, _⟩ := F.ex
  refine ⟨len, fun A outer s H args us vs Q E hr e0 hb r hsp => ?_⟩
  have kept : ∀ b o, base.get? b = some o → s.heap.get? b = some o := fun b o e => (e0.bs b o e).1
  have KX : K.In s.heap := e0.mod.kin.keeps kept
  refine codeAny_call_function hr.room.depth (KX _ _ lk) rfl S.co S.gen rfl (PySem.W.codeRec_of KX hcd) (hb _ _ _ _ ?_)
  refine wpAny_newFunctionEnv_cells S.kind (fun y hy => ?_) fun env he s1 x => ?_
  · exact (S.par y.1 (List.of_mem_zip (a := y.1) (b := y.2) hy).1).imp id fun q => ⟨q, PySem.W.cellsFrom_some _ _ _ (.inl q)⟩
  · subst he
    refine ⟨(e0.mod.nolimit.keeps kept).keeps x.toInCall.keep, codeAny_func ?_⟩
    obtain ⟨t, ht, hq⟩ := hbody cdv A outer s H vs Q E (hr.deeper _) hsp
    have I := inv_start (CX := CX) (E := E) S hr.room.hd e0 (len _ _ _ _ hsp) r x
    refine wpAny_mono (ht.run [] s1 (start N vs) H _ I hq) (fun fl s' hs => ?_) fun e s' hs => hs
    have fin : ∀ {σ' : L2.St} {H' : Hp} {v : V} {u : Value}, Inv (cxOf CX P w K mg base N qual scope f cdv A outer s H E) [] σ' H' s' → RelV v u → Q v H' → CE outer P w H s Q u s' := fun {_ H' v _} J rv q => ⟨v, H', J.os, J.bare, J.base, J.hok, rv, q⟩
    cases fl with
    | ret u => obtain ⟨v, σ', H', J, rv, q⟩ := hs; exact fin J rv q
    | next => obtain ⟨σ', H', J, q⟩ := hs; exact fin (v := V.non) (u := Value.none) J rfl q
    | brk => obtain ⟨_, _, _, q⟩ := hs; exact False.elim q
    | cont => obtain ⟨_, _, _, q⟩ := hs; exact False.elim q
/-- THE LAW'S CALL: from what its def promises, the call of the script -/
theorem law_g {P : Program} {w : World} {K : PySem.W.Frag} {mg mb : Str → Option Value} {CX : CXT} {k : Nat} {fa a : Addr} {fd : FuncData} {x : Str} {sp : Sp} {t : Shared} {vs : List Value} {ns : List Int}
    (KX : K.In t.heap) (g1 : t.heap.Ns mainGlobals mg) (g2 : t.heap.Ns builtinsNs mb) (g3 : ∀ x : Str, x ≠ "__name__" → mb x = bootBuiltins x) (g4 : t.heap.NoLimit) (g5 : t.gens = #[])
    (ha : t.heap.get? a = some { cls := .type "list", data := .seq vs.toArray }) (hi : IntsAre vs ns) (hl : ns.length ≤ sizeLine) (hr : Rg k callerA)
    (F : ∀ base : Heap, K.In base → base.Ns mainGlobals mg → FnG P w K mg base CX k fa fd [x] sp) (bi : ∀ (s : Shared) (u : Value), BindsTo s fd ⟨[u], []⟩ [(x, u)])
    (hsp : ∀ H : Hp, Only H → SqL K H a (ns.map V.int) → sp [.ref a] H (fun v _ => v = .bl true) fun _ _ _ => False)
    (hx : ∀ H e s', CX [] H t (fun _ _ _ => False) e s' → False) :
    codeAny (model P w) callerA (.call (.ref fa) ⟨[.ref a], []⟩) (fun r s' => r = .ok (.ret (.bool true)) ∧ OldK t.heap s'.heap ∧ s'.os = t.os ∧ AllBare s'.gens) t := by
  have rv := vals_ints hi
  have core : ∀ H : Hp, Only H → SqL K H a (ns.map V.int) → HOk P w H t.heap → (∀ b, H b ≠ none → b = a ∧ K.lookup a = none) →
      codeAny (model P w) callerA (.call (.ref fa) ⟨[.ref a], []⟩) (fun r s' => r = .ok (.ret (.bool true)) ∧ OldK t.heap s'.heap ∧ s'.os = t.os ∧ AllBare s'.gens) t := by
    intro H hO hS hok hA
    have free : ∀ {b : Addr} {o : Obj}, t.heap.get? b = some o → o ≠ { cls := .type "list", data := .seq vs.toArray } → H b = none := fun {b o} e n =>
      Classical.byContradiction fun z => by
        obtain ⟨rfl, _⟩ := hA b z
        rw [ha] at e
        exact n (Option.some.inj e).symm
    have keepNs : ∀ {b : Addr} {m : Str → Option Value}, t.heap.Ns b m → (hidT t.heap H).Ns b m := fun {b m} ⟨o, es, ep, e, d, r⟩ =>
      ⟨o, es, ep, hidT_get e (free e fun z => by subst z; have d' : Data.seq vs.toArray _ = Data.dict es ep := d; cases d'), d, r⟩
    have kin : K.In (hidT t.heap H) := fun b o e => hidT_get (KX b o e) (Classical.byContradiction fun z => by
      obtain ⟨rfl, z⟩ := hA b z
      rw [z] at e; cases e)
    have hM : Mod K mg (hidT t.heap H) := ⟨kin, keepNs g1, ⟨mb, keepNs g2, g3⟩, by obtain ⟨mc, h1, h2⟩ := g4; exact ⟨mc, keepNs h1, h2⟩⟩
    have e0 : Env0 P w K mg (hidT t.heap H) callerA [] t H :=
      ⟨rfl, hM, fun b o e => of_hidT e, Nat.le_of_eq (hidT_size _ _), trivial, fun b hb => (List.not_mem_nil hb).elim, hok, .of_eq g5⟩
    refine codeAny_mono ((F _ kin (keepNs g1)).go callerA [] t H ⟨[.ref a], []⟩ [.ref a] [.ref a] _ _ hr e0 (bi t (.ref a)) (.cons rfl .nil) (hsp H hO hS)) fun r s' h => ?_
    rcases r with e | fl
    · exact (hx H e s' h).elim
    · cases fl <;> first | exact False.elim h | skip
      obtain ⟨v, H', os, bare, un, hok', r', q⟩ := h
      have q' : v = .bl true := q
      subst q'
      rw [show _ = Value.bool true from r']
      refine ⟨rfl, OldK.of_keep fun b o e => ?_, os, bare⟩
      rcases hO b with z | ⟨ob, xs, z⟩
      · exact un.keep b o e z (fun z => (List.not_mem_nil z).elim) (by simp)
      · have e1 := (hok b _ z).1
        rw [e] at e1; cases e1
        exact (hok' b _ (un.frzs b _ _ z)).1
  cases hk : K.lookup a with
  | some o =>
    have e := KX a o hk
    rw [ha] at e; cases e
    exact core (fun _ => none) (fun _ => .inl rfl) (.inr ⟨_, vs.toArray, _, hk, rfl, rfl, rfl, by rw [List.size_toArray, hi.length]; exact hl, by simpa using rv⟩)
      (fun b u z => by have z' : (none : Option HO) = some u := z; cases z') fun b z => (z rfl).elim
  | none =>
    have at1 : ∀ {b : Addr} {u : HO}, (if b = a then some (HO.frz { cls := .type "list", data := .seq vs.toArray } (.lst (ns.map V.int))) else none) = some u → b = a ∧ u = .frz { cls := .type "list", data := .seq vs.toArray } (.lst (ns.map V.int)) := fun {b u} z => by
      split at z
      · rename_i hb; exact ⟨hb, (Option.some.inj z).symm⟩
      · cases z
    refine core (fun b => if b = a then some (HO.frz { cls := .type "list", data := .seq vs.toArray } (.lst (ns.map V.int))) else none) (fun b => ?_) (.inl (.inr ⟨_, if_pos rfl⟩)) (fun b u z => ?_) fun b z => ?_
    · by_cases hb : b = a
      · exact .inr ⟨_, _, if_pos hb⟩
      · exact .inl (if_neg hb)
    · obtain ⟨rfl, rfl⟩ := at1 z
      exact ⟨ha, by rw [List.length_map]; exact hl, vs, _, rv, ha⟩
    · by_cases hb : b = a
      · exact ⟨hb, hk⟩
      · exact (z (if_neg hb)).elim
end Z
set_option Elab.async false
set_option linter.all false
set_option maxRecDepth 100000
namespace Z
open PySem PySem.Spec PyProof.Rows L2 TL

/-! ### calls of the text's own defs -/
def spZ (K : PySem.W.Frag) (mg : Str → Option Value) (g : List D → M D) (n : Nat) : Sp := fun vs H Q E => vs.length = n ∧ ∃ ds W F st, SR W F H st ∧ Reps K W ds vs ∧ Pst K mg (fun cls d _ H' => E cls d H') [] W F H Q (g ds st)
structure FnZ (P : Program) (w : World) (K : PySem.W.Frag) (mg : Str → Option Value) (base : Heap) (kk : Nat) (g : List D → M D) (f : Str) : Prop where
  ex : ∃ fa fd ps, mg f = some (.ref fa) ∧ PySem.W.keepIn K (.ref fa) = true ∧ Binds K fd ps [] ∧ FnG P w K mg base (L2.CX P w) kk fa fd ps (spZ K mg g ps.length) ∧ ∀ ds st, ds.length ≠ ps.length → g ds st = .stk
theorem passAt' {X : Cx} {Wx : WX} (tk : Takes X Wx) : ∀ σ, PassesAt (L2.CX X.prog X.w) X σ (WE Wx σ) := fun σ => passAt tk σ
section
variable {X : Cx} {Wx : WX} {a b d e : Expr} {va vb vd : List Nat} {ma mb md : Ev → M D} {ms : Ev → M (List D)} {vs : List Nat} {pos p : Pos} {es : List Expr} {f : Str} {kk : Nat} {g : List D → M D}
theorem call_key {n : Nat} (hn : ∀ ds st, ds.length ≠ n → g ds st = .stk) {σ : L2.St} {H : Hp} {Q : VK} (h : tz X.K X.mg Wx vs (fun r => bnd (ms r) fun ds => g ds) σ H Q) :
    tCallS (spZ X.K X.mg g n) (WE Wx) (tzs X.K X.mg Wx vs ms) σ H Q := by
  obtain ⟨W, F, st, r, sr, re, p⟩ := h
  refine tzs_use sr re p fun ds s1 v W1 F1 H1 sr1 e1 rx p1 => ?_
  have hl : v.length = n := by
    rw [← rx.length]
    by_cases z : ds.length = n
    · exact z
    · rw [hn ds s1 z] at p1; exact p1.elim
  refine ⟨hl, ds, W1, F1, s1, sr1, rx, ?_⟩
  cases q : g ds s1 with
  | ok y s2 => rw [q] at p1; exact p1
  | exc y s2 => rw [q] at p1; exact p1
  | stk => rw [q] at p1; exact p1
theorem s_call (tk : Takes X Wx) (F : FnZ X.prog X.w X.K X.mg X.base kk g f) (hr : Rg kk X.A) (hg : Gl X f) (ho : okName f = true) (hall : (e :: es).all notStar = true) (hs : PA X (e :: es) (tzs X.K X.mg Wx vs ms)) :
    PE X (.Call (.Name f p) (e :: es) [] pos) (tz X.K X.mg Wx vs fun r => bnd (ms r) fun ds => g ds) := by
  obtain ⟨fa, fd, ps, hm, hk, hb, ok, hn⟩ := F.ex
  unfold okName at ho
  simp only [Bool.and_eq_true, Bool.not_eq_true'] at ho
  rw [List.all_cons, Bool.and_eq_true] at hall
  exact PE.imp (pe_g ok hr hg hm hk hb (passAt' tk) hs ho.1.1 (star_ok hall.1) (star_any hall.2)) fun σ H Q h => call_key hn h
theorem s_call0 (tk : Takes X Wx) (F : FnZ X.prog X.w X.K X.mg X.base kk g f) (hr : Rg kk X.A) (hg : Gl X f) (ho : okName f = true) :
    PE X (.Call (.Name f p) [] [] pos) (tz X.K X.mg Wx [] fun r => bnd (ret []) fun ds => g ds) := by
  obtain ⟨fa, fd, ps, hm, hk, hb, ok, hn⟩ := F.ex
  unfold okName at ho
  simp only [Bool.and_eq_true, Bool.not_eq_true'] at ho
  refine PE.imp (t := tCallS (spZ X.K X.mg g ps.length) (WE Wx) tNil) ⟨fun pins s σ H Q I h => ?_⟩ fun σ H Q h => ?_
  · refine wpAny_Call_Name_kw (ld_glob I hg hm ?_ ho.1.1)
    exact PySem.W.callWith_K0 I.kIn hk (run_g (us := []) ok hr hb (passAt' tk σ) I .nil h)
  · have := call_key (X := X) (ms := fun _ => ret []) hn h
    obtain ⟨W, F, st, r, sr, re, p⟩ := this
    exact p [] W F H sr .refl (by rw [Reps])

/-! ### split -/
theorem spl_0 (S : List Nat) (acc : List Nat) (c : Nat) (r : List Nat) : spl S 0 acc (c :: r) = if pre S (c :: r) = true then acc :: spl S (S.length - 1) [] r else spl S 0 (acc ++ [c]) r := rfl
theorem spl_s (S : List Nat) (k : Nat) (acc : List Nat) (c : Nat) (r : List Nat) : spl S (k + 1) acc (c :: r) = spl S k acc r := rfl
theorem spl_mem {S : List Nat} : ∀ (xs : List Nat) (k : Nat) (acc : List Nat), ∀ p ∈ spl S k acc xs, (∀ c ∈ p, c ∈ acc ∨ c ∈ xs) ∧ p.length ≤ acc.length + xs.length := by
  intro xs
  induction xs with
  | nil =>
    intro k acc p hp
    have e : spl S k acc [] = [acc] := by cases k <;> rfl
    rw [e] at hp
    rw [List.mem_singleton.mp hp]
    exact ⟨fun c hc => .inl hc, by simp⟩
  | cons x xs ih =>
    intro k acc p hp
    have lift : ∀ acc' : List Nat, (∀ c ∈ acc', c ∈ acc ∨ c = x) → acc'.length ≤ acc.length + 1 → ((∀ c ∈ p, c ∈ acc' ∨ c ∈ xs) ∧ p.length ≤ acc'.length + xs.length) → (∀ c ∈ p, c ∈ acc ∨ c ∈ x :: xs) ∧ p.length ≤ acc.length + (x :: xs).length := fun acc' h1 h2 ⟨h3, h4⟩ =>
      ⟨fun c hc => by
        rcases h3 c hc with z | z
        · rcases h1 c z with z | z
          · exact .inl z
          · rw [z]; exact .inr (List.mem_cons_self ..)
        · exact .inr (List.mem_cons_of_mem _ z), by rw [List.length_cons]; omega⟩
    cases k with
    | succ k => rw [spl_s] at hp; exact lift acc (fun c h => .inl h) (by omega) (ih k acc p hp)
    | zero =>
      rw [spl_0] at hp
      split at hp
      · rcases List.mem_cons.mp hp with z | z
        · rw [z]; exact ⟨fun c hc => .inl hc, by omega⟩
        · exact lift [] (fun c h => by cases h) (by simp) (ih _ _ p z)
      · exact lift (acc ++ [x]) (fun c h => by
          rcases List.mem_append.mp h with z | z
          · exact .inl z
          · exact .inr (List.mem_singleton.mp z)) (by simp) (ih _ _ p hp)
theorem spl_length {S : List Nat} : ∀ (xs : List Nat) (k : Nat) (acc : List Nat), (spl S k acc xs).length ≤ xs.length + 1 := by
  intro xs
  induction xs with
  | nil => intro k acc; cases k <;> exact Nat.le_refl _
  | cons x xs ih =>
    intro k acc
    cases k with
    | succ k => rw [spl_s]; exact Nat.le_trans (ih _ _) (by simp)
    | zero =>
      rw [spl_0]
      split
      · rw [List.length_cons]; have := ih (S.length - 1) []; rw [List.length_cons]; omega
      · exact Nat.le_trans (ih _ _) (by simp)
theorem split_ok {x y : Str} (hx : sOk x) (hy : (y.length == 0) = false) (hz : x.length + 2 ≤ sizeLine) : (∀ p ∈ Txt.split x y, sOk p) ∧ (Txt.split x y).length ≤ sizeLine := by
  by_cases hk : Builtin.Str.strKind x < Builtin.Str.strKind y
  · have e : Txt.split x y = [x] := by
      unfold Txt.split
      rw [if_pos (by simp [hk])]
    rw [e]
    exact ⟨fun p hp => by rw [List.mem_singleton.mp hp]; exact hx, by show 1 ≤ sizeLine; decide⟩
  · have hne : tl y ≠ [] := fun e => by
      have : y.length = 0 := by rw [len_tl, e]; rfl
      rw [this] at hy; cases hy
    have e := split_spl x y hne hk
    refine ⟨fun p hp => ?_, ?_⟩
    · have hm : tl p ∈ spl (tl y) 0 [] (tl x) := by rw [← e]; exact List.mem_map_of_mem hp
      obtain ⟨h1, h2⟩ := spl_mem _ _ _ _ hm
      refine ⟨strOk_mem.mpr fun c hc => ?_, ?_⟩
      · rcases h1 c hc with z | z
        · cases z
        · exact strOk_mem.mp hx.1 c z
      · rw [← len_tl, ← len_tl] at h2
        simp at h2
        omega
    · have := spl_length (S := tl y) (tl x) 0 []
      rw [← e, List.length_map, ← len_tl] at this
      omega
theorem reps_strs {K : PySem.W.Frag} {W : Wd} : ∀ {ns : List Str}, (∀ x ∈ ns, sOk x) → Reps K W (ns.map D.str) (ns.map V.str)
  | [], _ => by rw [List.map_nil, List.map_nil, Reps]
  | n :: ns, h => by
    rw [List.map_cons, List.map_cons, Reps]
    exact ⟨_, _, rfl, by rw [Rep]; exact ⟨rfl, h n (by simp)⟩, reps_strs fun x hx => h x (List.mem_cons_of_mem _ hx)⟩
theorem sOk_lstrip {x y : Str} (h : sOk x) : sOk (Txt.lstripChars x y) := by
  unfold Txt.lstripChars Txt.stripBy
  split
  · exact h
  · refine ⟨strOk_mem.mpr fun c hc => ?_, fits_stripped _ _ _ h.2⟩
    unfold PySem.stripped Builtin.Str.strSub at hc
    refine strOk_mem.mp h.1 c ?_
    have hc : c ∈ (x.cps.extract (stripLo y.cps.contains true x) (stripHi y.cps.contains false x (stripLo y.cps.contains true x))).toList := hc
    rw [Array.toList_extract] at hc
    exact List.mem_of_mem_drop (List.mem_of_mem_take hc)
theorem s_lstrip {apos : Pos} (hb : notCallN a = true) (hl : (apos.endLine == pos.line) = true) (hn : notStar b = true) (ha : PE X a (tz X.K X.mg Wx va ma)) (hb2 : PE X b (tz X.K X.mg Wx vb mb)) :
    PE X (.Call (.Attribute a "lstrip" apos) [b] [] pos) (tz X.K X.mg Wx (va ++ (vb ++ [])) fun r => bnd (ma r) fun x => if meT .lstrip x then bnd (bnd (mb r) fun d => bnd (ret []) fun ds => ret (d :: ds)) fun ds => ofO (meD .lstrip x ds) else stk) :=
  PE.imp (pe_m1 F.slot_str_lstrip F.type_str_lstrip mt_lstripChars ha hb2 (star_ok hn) (base_ok hb) hl) fun σ H Q ⟨W, F, st, r, sr, re, p⟩ =>
    tz_use sr re.fst p fun x s1 v W1 F1 H1 sr1 e1 rx p1 => by
      cases x <;> first | exact False.elim p1 | skip
      rename_i z
      rw [Rep] at rx; obtain ⟨rfl, k⟩ := rx
      have p1 : Pst X.K X.mg Wx σ W1 F1 H1 Q (bnd (bnd (mb r) fun d => bnd (ret []) fun ds => ret (d :: ds)) (fun ds => ofO (meD .lstrip (.str z) ds)) s1) := p1
      rw [evs1] at p1
      refine ⟨⟨z, rfl⟩, tz_use sr1 (re.snd.fst.mono e1.le) p1 fun y s2 u W2 F2 H2 sr2 e2 ry p2 => ?_⟩
      obtain ⟨d, e, pf⟩ := p2.finO
      cases y <;> first | (cases e; done) | skip
      rename_i q
      rw [Rep] at ry; obtain ⟨rfl, _⟩ := ry
      have e : (if z.length ≤ sizeLine then some (D.str (Txt.lstripChars z q)) else none) = some d := e
      rw [if_pos k.2] at e
      cases e
      exact ⟨z, q, rfl, rfl, k.2, pf.fin sr2 (by rw [Rep]; exact ⟨rfl, sOk_lstrip k⟩)⟩
theorem s_index {apos : Pos} (hb : notCallN a = true) (hl : (apos.endLine == pos.line) = true) (hn : notStar b = true) (ha : PE X a (tz X.K X.mg Wx va ma)) (hb2 : PE X b (tz X.K X.mg Wx vb mb)) :
    PE X (.Call (.Attribute a "index" apos) [b] [] pos) (tz X.K X.mg Wx (va ++ (vb ++ [])) fun r => bnd (ma r) fun x => if meT .index x then bnd (bnd (mb r) fun d => bnd (ret []) fun ds => ret (d :: ds)) fun ds => ofO (meD .index x ds) else stk) :=
  PE.imp (pe_m1 F.slot_str_index F.type_str_index mt_sindex ha hb2 (star_ok hn) (base_ok hb) hl) fun σ H Q ⟨W, F, st, r, sr, re, p⟩ =>
    tz_use sr re.fst p fun x s1 v W1 F1 H1 sr1 e1 rx p1 => by
      cases x <;> first | exact False.elim p1 | skip
      rename_i z
      rw [Rep] at rx; obtain ⟨rfl, k⟩ := rx
      have p1 : Pst X.K X.mg Wx σ W1 F1 H1 Q (bnd (bnd (mb r) fun d => bnd (ret []) fun ds => ret (d :: ds)) (fun ds => ofO (meD .index (.str z) ds)) s1) := p1
      rw [evs1] at p1
      refine ⟨⟨z, rfl⟩, tz_use sr1 (re.snd.fst.mono e1.le) p1 fun y s2 u W2 F2 H2 sr2 e2 ry p2 => ?_⟩
      obtain ⟨d, e, pf⟩ := p2.finO
      cases y <;> first | (cases e; done) | skip
      rename_i q
      rw [Rep] at ry; obtain ⟨rfl, _⟩ := ry
      have e : (match Builtin.Str.occurrences z q 0 z.length 1 with
        | i :: _ => some (D.int (i : Nat))
        | [] => none) = some d := e
      split at e
      · rename_i i rest ho
        cases e
        exact ⟨z, q, i, rest, rfl, rfl, ho, pf.fin sr2 (by rw [Rep])⟩
      · cases e
theorem s_split {apos : Pos} (hb : notCallN a = true) (hl : (apos.endLine == pos.line) = true) (hn : notStar b = true) (ha : PE X a (tz X.K X.mg Wx va ma)) (hb2 : PE X b (tz X.K X.mg Wx vb mb)) :
    PE X (.Call (.Attribute a "split" apos) [b] [] pos) (tz X.K X.mg Wx (va ++ (vb ++ [])) fun r => bnd (ma r) fun x => if meT .split x then bnd (bnd (mb r) fun d => bnd (ret []) fun ds => ret (d :: ds)) fun ds => ofO (meD .split x ds) else stk) :=
  PE.imp (pe_split ha hb2 (star_ok hn) (base_ok hb) hl) fun σ H Q ⟨W, F, st, r, sr, re, p⟩ =>
    tz_use sr re.fst p fun x s1 v W1 F1 H1 sr1 e1 rx p1 => by
      cases x <;> first | exact False.elim p1 | skip
      rename_i z
      rw [Rep] at rx; obtain ⟨rfl, k⟩ := rx
      have p1 : Pst X.K X.mg Wx σ W1 F1 H1 Q (bnd (bnd (mb r) fun d => bnd (ret []) fun ds => ret (d :: ds)) (fun ds => ofO (meD .split (.str z) ds)) s1) := p1
      rw [evs1] at p1
      refine ⟨⟨z, rfl⟩, tz_use sr1 (re.snd.fst.mono e1.le) p1 fun y s2 u W2 F2 H2 sr2 e2 ry p2 => ?_⟩
      obtain ⟨d, e, pf⟩ := p2.finO
      cases y <;> first | (cases e; done) | skip
      rename_i q
      rw [Rep] at ry; obtain ⟨rfl, _⟩ := ry
      have e : (if (q.length == 0) = false ∧ z.length + 2 ≤ sizeLine then some (D.lst ((Txt.split z q).map D.str)) else none) = some d := e
      split at e
      · rename_i hz
        cases e
        obtain ⟨k1, k2⟩ := split_ok k hz.1 hz.2
        exact ⟨z, q, rfl, rfl, hz.1, hz.2, fun l hl => newL (X := X) sr2 pf (reps_strs k1) (by rw [List.length_map]; exact k2) hl⟩
      · cases e
end
end Z
set_option Elab.async false
set_option linter.all false
set_option maxRecDepth 100000
set_option maxHeartbeats 2000000
namespace Z
open PySem PySem.Spec PyProof.Rows L2 TL

/-! ### values that are one's own -/
def RepO (K : PySem.W.Frag) (W : Wd) (F : Addr → Prop) (H H0 : Hp) (d : D) (p : Addr) : Prop :=
  H0 p = none ∧ W.hf p = none ∧ ¬ F p ∧ ((∃ ds vs, d = .lst ds ∧ H p = some (.lst vs) ∧ Reps K W ds vs) ∨ (∃ kvs vs, d = .dct kvs ∧ H p = some (.dK vs) ∧ RepKs K W kvs vs))
def isMut : D → Bool
  | .lst _ => true
  | .dct _ => true
  | _ => false
def RepN (K : PySem.W.Frag) (W : Wd) (F : Addr → Prop) (H H0 : Hp) (d : D) (v : V) : Prop := if isMut d then ∃ p, v = .ref p ∧ RepO K W F H H0 d p else Rep K W d v
def PstN (K : PySem.W.Frag) (mg : Str → Option Value) (Wx : WX) (σ : L2.St) (Q : VK) (W : Wd) (F : Addr → Prop) (H : Hp) : Res D → Prop
  | .ok d st' => ∀ v W' F' H', SR W' F' H' st' → Ext W F H W' F' H' → RepN K W' F' H' H d v → Q v H'
  | .exc e st' => ∀ cls dx W' F' H', SR W' F' H' st' → Ext W F H W' F' H' → XR K mg W' H' e cls dx → Wx cls dx σ H'
  | .stk => False
theorem RepO.back {K : PySem.W.Frag} {W : Wd} {F : Addr → Prop} {H H0 H1 : Hp} {d : D} {p : Addr} (h : RepO K W F H H1 d p) (x : ∀ p, H1 p = none → H0 p = none) : RepO K W F H H0 d p := ⟨x p h.1, h.2⟩
theorem RepN.back {K : PySem.W.Frag} {W : Wd} {F : Addr → Prop} {H H0 H1 : Hp} {d : D} {v : V} (h : RepN K W F H H1 d v) (x : ∀ p, H1 p = none → H0 p = none) : RepN K W F H H0 d v := by
  unfold RepN at *
  split
  · rename_i e; rw [if_pos e] at h
    obtain ⟨p, e, h⟩ := h
    exact ⟨p, e, h.back x⟩
  · rename_i e; rw [if_neg e] at h; exact h
theorem good_pstN {K : PySem.W.Frag} {mg : Str → Option Value} {Wx : WX} {σ : L2.St} {Q : VK} : Good K mg Wx σ (PstN K mg Wx σ Q) :=
  ⟨fun {W F H W1 F1 H1 r} x p => by
    cases r with
    | ok d st => exact fun v W' F' H' s y rn => p v W' F' H' s (x.trans y) (rn.back x.there)
    | exc e st => exact fun c d W' F' H' s y => p c d W' F' H' s (x.trans y)
    | stk => exact p, fun p => p, fun p => p⟩
def tzN (K : PySem.W.Frag) (mg : Str → Option Value) (Wx : WX) (vs : List Nat) (m : Ev → M D) : TE := fun σ H Q =>
  ∃ W F st r, SR W F H st ∧ RelE K W vs σ r ∧ PstN K mg Wx σ Q W F H (m r st)
section
variable {X : Cx} {Wx : WX} {va vb vs : List Nat} {ma mb : Ev → M D} {ms : Ev → M (List D)} {a b e : Expr} {es : List Expr} {pos : Pos} {W : Wd} {F : Addr → Prop} {H : Hp} {st : Sto} {σ : L2.St} {Q : VK}
/-- a new list that stays one's own -/
theorem newN {ds : List D} {vs : List V} {p : Addr} (sr : SR W F H st) (h : PstN X.K X.mg Wx σ Q W F H (ret (.lst ds) st)) (r : Reps X.K W ds vs) (hz : vs.length ≤ sizeLine) (hp : H p = none) : Q (.ref p) (upd H p (.lst vs)) := by
  have hf := sr.nohf hp
  have hF := sr.nofoot hp
  refine h (.ref p) W F _ (sr.write hf hF (fun zs z => by rcases z with z | z <;> cases z; exact hz)) (Ext.refl.write hp) ?_
  unfold RepN
  rw [if_pos (show isMut (.lst ds) = true from rfl)]
  exact ⟨p, rfl, hp, hf, hF, .inl ⟨ds, vs, rfl, upd_same, r⟩⟩
/-- what is one's own may be frozen -/
theorem PstN.of {K : PySem.W.Frag} {mg : Str → Option Value} {m : M D} (h : Pst K mg Wx σ W F H Q (m st)) : PstN K mg Wx σ Q W F H (m st) := by
  cases q : m st with
  | stk => rw [q] at h; exact h
  | exc e s1 => rw [q] at h; exact h
  | ok d s1 =>
    rw [q] at h
    intro v W' F' H' sr x rn
    unfold RepN at rn
    split at rn
    · obtain ⟨p, rfl, h0, hf, hF, k⟩ := rn
      rcases k with ⟨ds, vs, rfl, hp, ra⟩ | ⟨ds, vs, rfl, hp, ra⟩
      · refine h _ (W'.put p (.lst vs)) F' H' (sr.freeze hp hF) (x.freeze hf h0) ?_
        rw [Rep]
        exact ⟨p, vs, rfl, W'.put_at _ _, ra.mono (Wd.put_le hf)⟩
      · refine h _ (W'.put p (.dK vs)) F' H' (sr.freeze hp hF) (x.freeze hf h0) ?_
        rw [Rep]
        exact ⟨p, vs, rfl, W'.put_at _ _, RepKs.mono (Wd.put_le hf) _ _ ra⟩
    · exact h v W' F' H' sr x rn
theorem tz_of_N (h : PE X e (tzN X.K X.mg Wx va ma)) : PE X e (tz X.K X.mg Wx va ma) := PE.imp h fun σ H Q ⟨W, F, st, r, sr, re, p⟩ => ⟨W, F, st, r, sr, re, PstN.of (m := ma r) p⟩
/-- a value that is no list, no dict -/
theorem n_of (h : PE X e (tz X.K X.mg Wx va ma)) (hn : ∀ r st d st', ma r st = .ok d st' → isMut d = false) : PE X e (tzN X.K X.mg Wx va ma) :=
  PE.imp h fun σ H Q ⟨W, F, st, r, sr, re, p⟩ => by
    refine ⟨W, F, st, r, sr, re, ?_⟩
    cases q : ma r st with
    | stk => rw [q] at p; exact p
    | exc e s1 => rw [q] at p; exact p
    | ok d s1 =>
      rw [q] at p
      intro v W' F' H' sr x rn
      refine p v W' F' H' sr x ?_
      unfold RepN
      rw [if_neg (by rw [hn r st d s1 q]; decide)]; exact rn
theorem n_lst (hs : PA X es (tzs X.K X.mg Wx vs ms)) (hl : ∀ r st ds st', ms r st = .ok ds st' → ds.length ≤ sizeLine) : PE X (.List es pos) (tzN X.K X.mg Wx vs fun r => bnd (ms r) fun ds => ret (.lst ds)) :=
  PE.imp (pe_lst hs) fun σ H Q ⟨W, F, st, r, sr, re, p⟩ => by
    refine ⟨W, F, st, r, sr, re, ?_⟩
    have p : PstN X.K X.mg Wx σ Q W F H (bnd (ms r) (fun ds => ret (D.lst ds)) st) := p
    unfold bnd at p
    cases q : ms r st with
    | ok ds s1 =>
      rw [q] at p
      intro v W1 F1 H1 sr1 x rp
      have hz : v.length ≤ sizeLine := by rw [← rp.length]; exact hl r st ds s1 q
      exact ⟨hz, fun p' hp => newN (X := X) sr1 (good_pstN.ext x p) rp hz hp⟩
    | exc e s1 => rw [q] at p; exact p
    | stk => rw [q] at p; exact p
end

/-! ### calls whose answer is one's own -/
def spN (K : PySem.W.Frag) (mg : Str → Option Value) (g : List D → M D) (n : Nat) : Sp := fun vs H Q E => vs.length = n ∧ ∃ ds W F st, SR W F H st ∧ Reps K W ds vs ∧ PstN K mg (fun cls d _ H' => E cls d H') [] Q W F H (g ds st)
structure FnN (P : Program) (w : World) (K : PySem.W.Frag) (mg : Str → Option Value) (base : Heap) (kk : Nat) (g : List D → M D) (f : Str) : Prop where
  ex : ∃ fa fd ps, mg f = some (.ref fa) ∧ PySem.W.keepIn K (.ref fa) = true ∧ Binds K fd ps [] ∧ FnG P w K mg base (L2.CX P w) kk fa fd ps (spN K mg g ps.length) ∧ ∀ ds st, ds.length ≠ ps.length → g ds st = .stk
theorem FnN.toZ {P : Program} {w : World} {K : PySem.W.Frag} {mg : Str → Option Value} {base : Heap} {kk : Nat} {g : List D → M D} {f : Str} (F : FnN P w K mg base kk g f) : FnZ P w K mg base kk g f := by
  obtain ⟨fa, fd, ps, h1, h2, h3, h4, h5⟩ := F.ex
  refine ⟨fa, fd, ps, h1, h2, h3, h4.imp fun vs H Q E h => ?_, h5⟩
  obtain ⟨hl, ds, W, F0, st, sr, rv, p⟩ := h
  exact ⟨hl, ds, W, F0, st, sr, rv, PstN.of (m := g ds) p⟩
section
variable {X : Cx} {Wx : WX} {e : Expr} {ms : Ev → M (List D)} {vs : List Nat} {pos p : Pos} {es : List Expr} {f : Str} {kk : Nat} {g : List D → M D}
theorem call_keyN {n : Nat} (hn : ∀ ds st, ds.length ≠ n → g ds st = .stk) {σ : L2.St} {H : Hp} {Q : VK} (h : tzN X.K X.mg Wx vs (fun r => bnd (ms r) fun ds => g ds) σ H Q) :
    tCallS (spN X.K X.mg g n) (WE Wx) (tzs X.K X.mg Wx vs ms) σ H Q := by
  obtain ⟨W, F, st, r, sr, re, p⟩ := h
  refine gens_use good_pstN sr re p fun ds s1 v W1 F1 H1 sr1 e1 rx p1 => ?_
  have hl : v.length = n := by
    rw [← rx.length]
    by_cases z : ds.length = n
    · exact z
    · rw [hn ds s1 z] at p1; exact p1.elim
  refine ⟨hl, ds, W1, F1, s1, sr1, rx, ?_⟩
  cases q : g ds s1 with
  | ok y s2 => rw [q] at p1; exact p1
  | exc y s2 => rw [q] at p1; exact p1
  | stk => rw [q] at p1; exact p1
theorem n_call (tk : Takes X Wx) (F : FnN X.prog X.w X.K X.mg X.base kk g f) (hr : Rg kk X.A) (hg : Gl X f) (ho : okName f = true) (hall : (e :: es).all notStar = true) (hs : PA X (e :: es) (tzs X.K X.mg Wx vs ms)) :
    PE X (.Call (.Name f p) (e :: es) [] pos) (tzN X.K X.mg Wx vs fun r => bnd (ms r) fun ds => g ds) := by
  obtain ⟨fa, fd, ps, hm, hk, hb, ok, hn⟩ := F.ex
  unfold okName at ho
  simp only [Bool.and_eq_true, Bool.not_eq_true'] at ho
  rw [List.all_cons, Bool.and_eq_true] at hall
  exact PE.imp (pe_g ok hr hg hm hk hb (passAt' tk) hs ho.1.1 (star_ok hall.1) (star_any hall.2)) fun σ H Q h => call_keyN hn h
theorem n_call0 (tk : Takes X Wx) (F : FnN X.prog X.w X.K X.mg X.base kk g f) (hr : Rg kk X.A) (hg : Gl X f) (ho : okName f = true) :
    PE X (.Call (.Name f p) [] [] pos) (tzN X.K X.mg Wx [] fun r => bnd (ret []) fun ds => g ds) := by
  obtain ⟨fa, fd, ps, hm, hk, hb, ok, hn⟩ := F.ex
  unfold okName at ho
  simp only [Bool.and_eq_true, Bool.not_eq_true'] at ho
  refine PE.imp (t := tCallS (spN X.K X.mg g ps.length) (WE Wx) tNil) ⟨fun pins s σ H Q I h => ?_⟩ fun σ H Q h => ?_
  · refine wpAny_Call_Name_kw (ld_glob I hg hm ?_ ho.1.1)
    exact PySem.W.callWith_K0 I.kIn hk (run_g (us := []) ok hr hb (passAt' tk σ) I .nil h)
  · have := call_keyN (X := X) (ms := fun _ => ret []) hn h
    obtain ⟨W, F, st, r, sr, re, p⟩ := this
    exact p [] W F H sr .refl (by rw [Reps])
/-- list(x) -/
def rNL (X : Cx) : List V → Hp → VK → Prop := fun vs H Q => ∃ ds W F st, SR W F H st ∧ Reps X.K W ds vs ∧ ∃ Wx σ, PstN X.K X.mg Wx σ Q W F H (ofO (biD .list ds) st)
theorem listOkN : CallR X (.type "list") (rNL X) := by
  intro pins s σ0 H vs us Q I rv h
  obtain ⟨ds, W, F, st, sr, rs, Wx, σ, p⟩ := h
  rcases ds with _ | ⟨d, _ | ⟨d2, r⟩⟩
  · exact False.elim p
  · obtain ⟨v, rfl, r⟩ := rs.one
    cases d <;> first | exact False.elim p | skip
    · rw [Rep] at r; obtain ⟨a, vs, rfl, ha, ra⟩ := r
      have hz := (I.tuple (sr.tup ha)).choose_spec.2.2
      exact call_list_of _ _ _ _ _ _ _ I rv ⟨a, vs, rfl, .inr (sr.tup ha), fun q hq => newN (X := X) sr p ra hz hq⟩
    · rw [Rep] at r; obtain ⟨a, vs, rfl, ha, ra⟩ := r
      exact call_list_of _ _ _ _ _ _ _ I rv ⟨a, vs, rfl, .inl (SqL.of (sr.sub _ _ ha)), fun q hq => newN (X := X) sr p ra (sr.len a vs (.inl (sr.sub _ _ ha))) hq⟩
  · cases d <;> exact False.elim p
theorem reps_rng {K : PySem.W.Frag} {W : Wd} (a : Int) : ∀ l : List Nat, Reps K W (l.map fun (k : Nat) => D.int (a + (k : Int))) (l.map fun (i : Nat) => V.int (a + (i : Nat)))
  | [] => by rw [List.map_nil, List.map_nil, Reps]
  | n :: ns => by
    rw [List.map_cons, List.map_cons, Reps]
    exact ⟨_, _, rfl, by rw [Rep], reps_rng a ns⟩
/-- list(range(..)) -/
theorem rng_new {W : Wd} {F : Addr → Prop} {H : Hp} {st : Sto} {σ : L2.St} {Q : VK} {i j : Int} (sr : SR W F H st) (h : PstN X.K X.mg Wx σ Q W F H (ret (.lst (rngD i (j - i).toNat)) st)) (hz : (j - i).toNat ≤ 2000000) {q : Addr} (hq : H q = none) : Q (.ref q) (upd H q (.lst (rgV i j))) := by
  refine newN (X := X) sr h ?_ ?_ hq
  · unfold rngD rgV; exact reps_rng i _
  · rw [rgV_length]; exact Nat.le_trans hz (by decide)
theorem n_lrng1 {a : Expr} {p p2 pos2 : Pos} {va : List Nat} {ma : Ev → M D} (hc : X.calm = true) (hg : Gl X "list") (hm : X.mg "list" = none) (hg2 : Gl X "range") (hm2 : X.mg "range" = none) (hn : notStar a = true) (ha : PE X a (tz X.K X.mg Wx va ma)) :
    PE X (.Call (.Name "list" p) [.Call (.Name "range" p2) [a] [] pos2] [] pos) (tzN X.K X.mg Wx (va ++ []) fun r => bnd (bnd (ma r) fun d => bnd (ret []) fun ds => ret (d :: ds)) fun ds => ofO (biD .range ds)) :=
  PE.imp (pe_listRg hc hg hm (prg_1 hg2 hm2 ha (star_ok hn)) (star_ok rfl)) fun σ H Q ⟨W, F, st, r, sr, re, p⟩ => by
    have p : PstN X.K X.mg Wx σ Q W F H (bnd (bnd (ma r) fun d => bnd (ret []) fun ds => ret (d :: ds)) (fun ds => ofO (biD .range ds)) st) := p
    rw [evs1] at p
    refine gen_use good_pstN sr re.fst p fun d s1 v W1 F1 H1 sr1 x rx p => ?_
    cases d <;> first | exact False.elim p | skip
    rename_i n
    rw [Rep] at rx; subst rx
    have p : PstN X.K X.mg Wx σ Q W1 F1 H1 (ofO (if -1000000 ≤ n ∧ n ≤ 1000000 then some (.lst (rngD 0 n.toNat)) else none) s1) := p
    split at p
    · rename_i hz
      refine ⟨n, rfl, ⟨by omega, by omega, by omega, by omega, by omega⟩, fun q hq => rng_new (X := X) (Wx := Wx) (σ := σ) (st := s1) sr1 ?_ (by omega) hq⟩
      rw [show n - 0 = n from by omega]; exact p
    · exact p.elim
theorem n_lrng2 {a b : Expr} {p p2 pos2 : Pos} {va vb : List Nat} {ma mb : Ev → M D} (hc : X.calm = true) (hg : Gl X "list") (hm : X.mg "list" = none) (hg2 : Gl X "range") (hm2 : X.mg "range" = none) (hn : notStar a = true) (hn2 : notStar b = true) (ha : PE X a (tz X.K X.mg Wx va ma)) (hb : PE X b (tz X.K X.mg Wx vb mb)) :
    PE X (.Call (.Name "list" p) [.Call (.Name "range" p2) [a, b] [] pos2] [] pos) (tzN X.K X.mg Wx (va ++ (vb ++ [])) fun r => bnd (bnd (ma r) fun d => bnd (bnd (mb r) fun d => bnd (ret []) fun ds => ret (d :: ds)) fun ds => ret (d :: ds)) fun ds => ofO (biD .range ds)) :=
  PE.imp (pe_listRg hc hg hm (prg_2 hg2 hm2 ha hb (star_ok hn) (star_ok hn2) (by rw [star_ok hn2]; rfl)) (star_ok rfl)) fun σ H Q ⟨W, F, st, r, sr, re, p⟩ => by
    have p : PstN X.K X.mg Wx σ Q W F H (bnd (ma r) (fun d => bnd (mb r) fun d' => ofO (biD .range [d, d'])) st) := by
      have e : (bnd (bnd (ma r) fun d => bnd (bnd (mb r) fun d => bnd (ret []) fun ds => ret (d :: ds)) fun ds => ret (d :: ds)) fun ds => ofO (biD .range ds)) = bnd (ma r) (fun d => bnd (mb r) fun d' => ofO (biD .range [d, d'])) := by
        rw [bnd_assoc]
        congr 1
        funext d
        rw [bnd_assoc, bnd_assoc]
        rfl
      rw [← e]; exact p
    refine gen_use good_pstN sr re.fst p fun d s1 v W1 F1 H1 sr1 x rx p => ?_
    refine gen_use good_pstN sr1 (re.snd.fst.mono x.le) p fun d2 s2 v2 W2 F2 H2 sr2 x2 rx2 p' => ?_
    clear p
    have p := p'
    clear p'
    cases d <;> cases d2 <;> first | exact False.elim p | skip
    rename_i i j
    rw [Rep] at rx rx2; subst rx rx2
    have p : PstN X.K X.mg Wx σ Q W2 F2 H2 (ofO (if -1000000 ≤ i ∧ i ≤ 1000000 ∧ -1000000 ≤ j ∧ j ≤ 1000000 then some (.lst (rngD i (j - i).toNat)) else none) s2) := p
    split at p
    · rename_i hz
      exact ⟨i, j, rfl, rfl, ⟨by omega, by omega, by omega, by omega, by omega⟩, fun q hq => rng_new (X := X) (Wx := Wx) (σ := σ) sr2 p (by omega) hq⟩
    · exact p.elim
theorem n_list (hg : Gl X "list") (hm : X.mg "list" = none) (hall : (e :: es).all notStar = true) (hs : PA X (e :: es) (tzs X.K X.mg Wx vs ms)) :
    PE X (.Call (.Name "list" p) (e :: es) [] pos) (tzN X.K X.mg Wx vs fun r => bnd (ms r) fun ds => ofO (biD .list ds)) := by
  rw [List.all_cons, Bool.and_eq_true] at hall
  exact PE.imp (pe_callTy listOkN hg hm (by decide +kernel) hs (by decide) (by decide) (star_ok hall.1) (star_any hall.2)) fun σ H Q ⟨W, F, st, r, sr, re, p⟩ =>
    gens_use good_pstN sr re p fun x s1 v W1 F1 H1 sr1 e1 rx p1 => ⟨x, W1, F1, s1, sr1, rx, Wx, σ, p1⟩
end
end Z
set_option Elab.async false
set_option linter.all false
set_option maxRecDepth 100000
set_option maxHeartbeats 2000000
namespace Z
open PySem PySem.Spec PyProof.Rows L2 TL

/-! ### zip over a list and a tuple, either way about (k: a list) -/
def ItA (k : Bool) (h : Heap) (i l : Addr) (n : Nat) : Prop := if k = true then h.IsListIter i l n else h.IsTupleIter i l n
def SqA (k : Bool) (h : Heap) (l : Addr) (xs : Array Value) : Prop := if k = true then h.IsList l xs else h.IsTuple l xs
section
variable {k : Bool} {h h' : Heap} {i l e : Addr} {n : Nat} {xs : Array Value}
theorem ItA.ext (x : ItA k h i l n) (s : Heap.ExtBut e h h') (ne : i ≠ e) : ItA k h' i l n := by
  cases k
  · exact Heap.IsTupleIter.extBut (h := h) (show h.IsTupleIter i l n from x) s ne
  · exact Heap.IsListIter.extBut (h := h) (show h.IsListIter i l n from x) s ne
theorem SqA.ext (x : SqA k h l xs) (s : Heap.ExtBut e h h') (ne : l ≠ e) : SqA k h' l xs := by
  cases k
  · exact Heap.IsTuple.extBut (h := h) (show h.IsTuple l xs from x) s ne
  · exact Heap.IsList.extBut (h := h) (show h.IsList l xs from x) s ne
theorem ItA.at (x : ItA k h i l n) (s : ∀ o, h.get? i = some o → h'.get? i = some o) : ItA k h' i l n := by
  cases k
  · exact Heap.IsTupleIter.at (h := h) (show h.IsTupleIter i l n from x) s
  · exact Heap.IsListIter.at (h := h) (show h.IsListIter i l n from x) s
theorem ItA.obj (x : ItA k h i l n) : ∃ o, h.get? i = some o ∧ ∀ v, o.data ≠ .cell v := by
  cases k
  · obtain ⟨o, h1, _, d⟩ := (show h.IsTupleIter i l n from x)
    exact ⟨o, h1, fun v q => by rw [d] at q; cases q⟩
  · obtain ⟨o, h1, _, d⟩ := (show h.IsListIter i l n from x)
    exact ⟨o, h1, fun v q => by rw [d] at q; cases q⟩
theorem SqA.lt (x : SqA k h l xs) : l < h.objs.size := by
  cases k
  · obtain ⟨o, h1, _⟩ := (show h.IsTuple l xs from x)
    exact Heap.lt_size h1
  · obtain ⟨o, h1, _⟩ := (show h.IsList l xs from x)
    exact Heap.lt_size h1
end
section
variable {prog : Program} {w : World} {A : Around} {E : Value → Shared → Prop} {s : Shared}
theorem nextA_item {k : Bool} {it l : Addr} {i : Nat} {xs : Array Value} {x : Value} {Q : Value → Shared → Prop} (hit : ItA k s.heap it l i) (hl : SqA k s.heap l xs) (hx : xs[i]? = some x)
    (q : ∀ h', ItA k h' it l (i + 1) → Heap.SameBut it s.heap h' → Q x { s with heap := h' }) : wpAny (model prog w) A (Builtin.SmallTypes.nextOf (.ref it)) Q E s := by
  cases k
  · exact RZ.nextOf_tuple_item (show s.heap.IsTupleIter it l i from hit) (show s.heap.IsTuple l xs from hl) hx q
  · exact wpAny_nextOf_list_item (show s.heap.IsListIter it l i from hit) (show s.heap.IsList l xs from hl) hx q
theorem nextA_end {k : Bool} {it l : Addr} {i : Nat} {xs : Array Value} {Q : Value → Shared → Prop} (hh : A.handled = none) (hit : ItA k s.heap it l i) (hl : SqA k s.heap l xs) (hx : xs[i]? = none)
    (q : ∀ h' e, Heap.ExtBut it s.heap h' → (∃ o, h'.get? e = some o ∧ o.cls = .type "StopIteration") → E (.ref e) { s with heap := h' }) : wpAny (model prog w) A (Builtin.SmallTypes.nextOf (.ref it)) Q E s := by
  cases k
  · exact RZ.nextOf_tuple_end hh (show s.heap.IsTupleIter it l i from hit) (show s.heap.IsTuple l xs from hl) hx q
  · exact wpAny_nextOf_list_end hh (show s.heap.IsListIter it l i from hit) (show s.heap.IsList l xs from hl) hx q
section
variable {a b : Bool} {z TI TO i1 i2 l1 l2 : Addr} {m n : Nat} {xs ys : Array Value} {x y u v : Value}
/-- what is kept by a turn -/
def Kept (z TO i1 i2 : Addr) (h h' : Heap) : Prop := ∀ c o, c ≠ z → c ≠ TO → c ≠ i1 → c ≠ i2 → h.get? c = some o → h'.get? c = some o
theorem zipA_item {Q : Value → Shared → Prop} (D : ZipApart z TI TO i1 i2 l1 l2) (hz : IsZip s.heap z TI TO .none) (pI : IsPair s.heap TI (.ref i1) (.ref i2)) (pO : IsPair s.heap TO u v)
    (j1 : ItA a s.heap i1 l1 m) (j2 : ItA b s.heap i2 l2 n) (q1 : SqA a s.heap l1 xs) (q2 : SqA b s.heap l2 ys) (hx : xs[m]? = some x) (hy : ys[n]? = some y)
    (q : ∀ h', IsZip h' z TI TO (rawInt s.heap.objs.size) → IsPair h' TO x y → ItA a h' i1 l1 (m + 1) → ItA b h' i2 l2 (n + 1) → IsPair h' s.heap.objs.size x y → h'.objs.size = s.heap.objs.size + 1 → Kept z TO i1 i2 s.heap h' →
      Q (.ref s.heap.objs.size) { s with heap := h' }) :
    wpAny (model prog w) A (Builtin.«zip.__next__» ⟨[.ref z], []⟩) (fun fin s' => ∃ v, fin = .done (.ret v) ∧ Q v s') E s := by
  show wpAny _ _ (field (.ref z) 2 >>= _) _ _ _
  refine wpAny_bind (wpAny_field hz rfl (x := .bool false) rfl (show wpAny _ _ (field (.ref z) 3 >>= _) _ _ _ from wpAny_bind (wpAny_field hz rfl (x := .ref TI) rfl (wpAny_bind (wpAny_seqItems pI rfl ?_)))))
  show wpAny _ _ (Builtin.SmallTypes.ownedTupleIsFree (.ref z) >>= _) _ _ _
  refine wpAny_bind ?_
  unfold Builtin.SmallTypes.ownedTupleIsFree
  refine wpAny_bind (wpAny_field hz rfl (x := .none) rfl (wpAny_pure ?_))
  simp only [if_true]
  refine wpAny_bind (wpAny_rule (wpAny_bind (wpAny_field hz rfl (x := .ref TO) rfl (wpAny_bind (wpAny_setField_rec hz (by simp) fun h1 z1 s1 => ?_)))))
  have z1 : IsZip h1 z TI TO .ellipsis := z1
  refine wpAny_bind ?_
  simp only [List.zipIdx_cons, List.zipIdx_nil, List.forIn_cons, List.forIn_nil]
  refine wpAny_bind (wpAny_bind (wpAny_onRaise (show wpAny _ _ (Builtin.SmallTypes.nextOf (.ref i1) >>= _) _ _ _ from wpAny_bind (nextA_item (j1.ext s1.extBut D.i1z) (q1.ext s1.extBut D.l1z) hx fun h2 j1' s2 => wpAny_pure ?_))))
  have pO2 : IsPair h2 TO u v := s2.extBut _ _ D.TOi1 (s1.extBut _ _ D.TOz pO)
  refine wpAny_bind (wpAny_seqItems pO2 rfl (wpAny_bind (wpAny_updateSeq_pair pO2 fun h3 pO3 s3 => ?_)))
  have pO3 : IsPair h3 TO x v := pO3
  refine wpAny_bind (wpAny_letGo (wpAny_pure (wpAny_bind (wpAny_bind (wpAny_onRaise (show wpAny _ _ (Builtin.SmallTypes.nextOf (.ref i2) >>= _) _ _ _ from wpAny_bind (nextA_item (((j2.ext s1.extBut D.i2z).ext s2.extBut D.i12.symm).ext s3.extBut D.TOi2.symm)
    (((q2.ext s1.extBut D.l2z).ext s2.extBut D.l2i1).ext s3.extBut D.l2TO) hy fun h4 j2' s4 => wpAny_pure ?_)))))))
  have pO4 : IsPair h4 TO x v := s4.extBut _ _ D.TOi2 pO3
  refine wpAny_bind (wpAny_seqItems pO4 rfl (wpAny_bind (wpAny_updateSeq_pair pO4 fun h5 pO5 s5 => ?_)))
  have pO5 : IsPair h5 TO x y := pO5
  refine wpAny_bind (wpAny_letGo (wpAny_pure (wpAny_pure (wpAny_bind (wpAny_seqItems pO5 rfl (wpAny_bind (wpAny_newTuple ?_)))))))
  have sz : h5.objs.size = s.heap.objs.size := by rw [s5.1, s4.1, s3.1, s2.1, s1.1]
  have z5 : IsZip h5 z TI TO .ellipsis := s5.extBut _ _ D.TOz.symm (s4.extBut _ _ D.i2z.symm (s3.extBut _ _ D.TOz.symm (s2.extBut _ _ D.i1z.symm z1)))
  have kp : Kept z TO i1 i2 s.heap h5 := fun c o c1 c2 c3 c4 e => s5.extBut _ _ c2 (s4.extBut _ _ c4 (s3.extBut _ _ c2 (s2.extBut _ _ c3 (s1.extBut _ _ c1 e))))
  have k1 : ItA a h5 i1 l1 (m + 1) := ((j1'.ext s3.extBut D.TOi1.symm).ext s4.extBut D.i12).ext s5.extBut D.TOi1.symm
  have k2 : ItA b h5 i2 l2 (n + 1) := j2'.ext s5.extBut D.TOi2.symm
  have zl : z < h5.objs.size := Heap.lt_size z5
  show wpAny _ _ (Builtin.SmallTypes.ownedTupleHandOut (.ref z) (.ref h5.objs.size) >>= _) _ _ _
  refine wpAny_bind ?_
  unfold Builtin.SmallTypes.ownedTupleHandOut
  have z6 : IsZip (h5.push { cls := .type "tuple", data := .seq #[x, y] }) z TI TO .ellipsis := Heap.get?_push_of_some _ z5
  refine wpAny_bind (wpAny_setField_rec z6 (by simp) fun h7 z7 s7 => ?_)
  have z7 : IsZip h7 z TI TO (rawInt h5.objs.size) := z7
  refine wpAny_setField_rec z7 (by simp) fun h8 z8 s8 => ?_
  have z8 : IsZip h8 z TI TO (rawInt h5.objs.size) := z8
  have up : ∀ c o, c ≠ z → h5.get? c = some o → h8.get? c = some o := fun c o c1 e => s8.extBut _ _ c1 (s7.extBut _ _ c1 (Heap.get?_push_of_some _ e))
  have t8 : IsPair h8 h5.objs.size x y := s8.extBut _ _ (Nat.ne_of_gt zl) (s7.extBut _ _ (Nat.ne_of_gt zl) (Heap.get?_push_size _ rfl))
  have sz8 : h8.objs.size = h5.objs.size + 1 := by rw [s8.1, s7.1, Heap.size_push]
  rw [sz] at z8 t8 sz8
  refine wpAny_pure ⟨_, rfl, ?_⟩
  show Q (.ref h5.objs.size) _
  rw [sz]
  exact q h8 z8 (up _ _ D.TOz pO5) (k1.at fun o e => up _ o D.i1z e) (k2.at fun o e => up _ o D.i2z e) t8 sz8 fun c o c1 c2 c3 c4 e => up c o c1 (kp c o c1 c2 c3 c4 e)
theorem zipA_stop {Q : PySem.Fin → Shared → Prop} (hh : A.handled = none) (D : ZipApart z TI TO i1 i2 l1 l2) (hz : IsZip s.heap z TI TO .none) (pI : IsPair s.heap TI (.ref i1) (.ref i2)) (pO : IsPair s.heap TO u v)
    (j1 : ItA a s.heap i1 l1 m) (j2 : ItA b s.heap i2 l2 n) (q1 : SqA a s.heap l1 xs) (q2 : SqA b s.heap l2 ys) (he : xs[m]? = none ∨ ys[n]? = none)
    (q : ∀ h' e, Kept z TO i1 i2 s.heap h' → (∃ o, h'.get? e = some o ∧ o.cls = .type "StopIteration") → E (.ref e) { s with heap := h' }) : wpAny (model prog w) A (Builtin.«zip.__next__» ⟨[.ref z], []⟩) Q E s := by
  show wpAny _ _ (field (.ref z) 2 >>= _) _ _ _
  refine wpAny_bind (wpAny_field hz rfl (x := .bool false) rfl (show wpAny _ _ (field (.ref z) 3 >>= _) _ _ _ from wpAny_bind (wpAny_field hz rfl (x := .ref TI) rfl (wpAny_bind (wpAny_seqItems pI rfl ?_)))))
  show wpAny _ _ (Builtin.SmallTypes.ownedTupleIsFree (.ref z) >>= _) _ _ _
  refine wpAny_bind ?_
  unfold Builtin.SmallTypes.ownedTupleIsFree
  refine wpAny_bind (wpAny_field hz rfl (x := .none) rfl (wpAny_pure ?_))
  simp only [if_true]
  refine wpAny_bind (wpAny_rule (wpAny_bind (wpAny_field hz rfl (x := .ref TO) rfl (wpAny_bind (wpAny_setField_rec hz (by simp) fun h1 z1 s1 => ?_)))))
  have z1 : IsZip h1 z TI TO .ellipsis := z1
  refine wpAny_bind ?_
  simp only [List.zipIdx_cons, List.zipIdx_nil, List.forIn_cons, List.forIn_nil]
  refine wpAny_bind (wpAny_bind (wpAny_onRaise (show wpAny _ _ (Builtin.SmallTypes.nextOf (.ref i1) >>= _) _ _ _ from ?_)))
  cases hx : xs[m]? with
  | none =>
    refine wpAny_bind (nextA_end hh (j1.ext s1.extBut D.i1z) (q1.ext s1.extBut D.l1z) hx fun h2 e s2 ⟨oe, hoe, hce⟩ => ?_)
    have z2 : IsZip h2 z TI TO .ellipsis := s2 _ _ D.i1z.symm z1
    have ne : e ≠ z := fun w => by subst w; rw [z2] at hoe; cases hoe; simp at hce
    exact wpAny_setField_rec z2 (by simp) fun h3 _ s3 => q h3 e (fun c o c1 _ c3 _ w => s3.extBut _ _ c1 (s2 _ _ c3 (s1.extBut _ _ c1 w))) ⟨oe, s3.extBut _ _ ne hoe, hce⟩
  | some x =>
    have hy : ys[n]? = none := he.resolve_left fun w => by rw [hx] at w; cases w
    refine wpAny_bind (nextA_item (j1.ext s1.extBut D.i1z) (q1.ext s1.extBut D.l1z) hx fun h2 j1' s2 => wpAny_pure ?_)
    have pO2 : IsPair h2 TO u v := s2.extBut _ _ D.TOi1 (s1.extBut _ _ D.TOz pO)
    refine wpAny_bind (wpAny_seqItems pO2 rfl (wpAny_bind (wpAny_updateSeq_pair pO2 fun h3 pO3 s3 => ?_)))
    refine wpAny_bind (wpAny_letGo (wpAny_pure (wpAny_bind (wpAny_bind (wpAny_onRaise (show wpAny _ _ (Builtin.SmallTypes.nextOf (.ref i2) >>= _) _ _ _ from wpAny_bind (nextA_end hh (((j2.ext s1.extBut D.i2z).ext s2.extBut D.i12.symm).ext s3.extBut D.TOi2.symm)
      (((q2.ext s1.extBut D.l2z).ext s2.extBut D.l2i1).ext s3.extBut D.l2TO) hy fun h4 e s4 ⟨oe, hoe, hce⟩ => ?_)))))))
    have z4 : IsZip h4 z TI TO .ellipsis := s4 _ _ D.i2z.symm (s3.extBut _ _ D.TOz.symm (s2.extBut _ _ D.i1z.symm z1))
    have ne : e ≠ z := fun w => by subst w; rw [z4] at hoe; cases hoe; simp at hce
    exact wpAny_setField_rec z4 (by simp) fun h5 _ s5 => q h5 e (fun c o c1 c2 c3 c4 w => s5.extBut _ _ c1 (s4 _ _ c4 (s3.extBut _ _ c2 (s2.extBut _ _ c3 (s1.extBut _ _ c1 w))))) ⟨oe, s5.extBut _ _ ne hoe, hce⟩
theorem pyNextA_item {Q : Option Value → Shared → Prop} (D : ZipApart z TI TO i1 i2 l1 l2) (hz : IsZip s.heap z TI TO .none) (pI : IsPair s.heap TI (.ref i1) (.ref i2)) (pO : IsPair s.heap TO u v)
    (j1 : ItA a s.heap i1 l1 m) (j2 : ItA b s.heap i2 l2 n) (q1 : SqA a s.heap l1 xs) (q2 : SqA b s.heap l2 ys) (hx : xs[m]? = some x) (hy : ys[n]? = some y)
    (q : ∀ h', IsZip h' z TI TO (rawInt s.heap.objs.size) → IsPair h' TO x y → ItA a h' i1 l1 (m + 1) → ItA b h' i2 l2 (n + 1) → IsPair h' s.heap.objs.size x y → h'.objs.size = s.heap.objs.size + 1 → Kept z TO i1 i2 s.heap h' →
      Q (some (.ref s.heap.objs.size)) { s with heap := h' }) : wpAny (model prog w) A (pyNext (.ref z)) Q E s := by
  have ty : s.TypeIs (.ref z) "zip" := ⟨_, hz, rfl⟩
  unfold pyNext
  refine wpAny_bind (wpAny_attempt (wpAny_callSpecial?_slot (name := Str.ofString "__next__") ty F.slot_zip_next (wpAny_call_entry F.slot_zip_next ty F.entry_zip_next ?_ (F.args_zip_next_1 _))))
  exact zipA_item D hz pI pO j1 j2 q1 q2 hx hy fun h' a1 a2 a3 a4 a5 a6 a7 => wpAny_pure (q h' a1 a2 a3 a4 a5 a6 a7)
theorem pyNextA_end {Q : Option Value → Shared → Prop} (hh : A.handled = none) (D : ZipApart z TI TO i1 i2 l1 l2) (hz : IsZip s.heap z TI TO .none) (pI : IsPair s.heap TI (.ref i1) (.ref i2)) (pO : IsPair s.heap TO u v)
    (j1 : ItA a s.heap i1 l1 m) (j2 : ItA b s.heap i2 l2 n) (q1 : SqA a s.heap l1 xs) (q2 : SqA b s.heap l2 ys) (he : xs[m]? = none ∨ ys[n]? = none)
    (q : ∀ h', Kept z TO i1 i2 s.heap h' → Q none { s with heap := h' }) : wpAny (model prog w) A (pyNext (.ref z)) Q E s := by
  have ty : s.TypeIs (.ref z) "zip" := ⟨_, hz, rfl⟩
  unfold pyNext
  refine wpAny_bind (wpAny_attempt (wpAny_callSpecial?_slot (name := Str.ofString "__next__") ty F.slot_zip_next (wpAny_call_entry F.slot_zip_next ty F.entry_zip_next ?_ (F.args_zip_next_1 _))))
  exact zipA_stop hh D hz pI pO j1 j2 q1 q2 he fun h' e hk ⟨o, ho, hc⟩ => wpAny_bind (wpAny_isInstance (T := "StopIteration") (b := true) ⟨o, ho, hc⟩ isSubtype_stop (wpAny_pure (q _ hk)))
end
end
/-! making it -/
def zN1 (a : Bool) (h : Heap) (l1 : Addr) : Heap := h.push { cls := .type (if a = true then "list_iterator" else "tuple_iterator"), data := .fields #[.ref l1, .int 0 0] }
def zN3 (a b : Bool) (h : Heap) (l1 l2 : Addr) : Heap := (zN1 b (zN1 a h l1) l2).push { cls := .type "tuple", data := .seq #[.ref h.objs.size, .ref (zN1 a h l1).objs.size] }
def zN4 (a b : Bool) (h : Heap) (l1 l2 : Addr) : Heap := (zN3 a b h l1 l2).push { cls := .type "tuple", data := .seq #[.none, .none] }
def zN5 (a b : Bool) (h : Heap) (l1 l2 : Addr) : Heap := (zN4 a b h l1 l2).push { cls := .type "zip", data := .fields #[.none, .bool false, .bool false, .ref (zN1 b (zN1 a h l1) l2).objs.size, .ref (zN3 a b h l1 l2).objs.size] }
theorem meets_lt (l1 l2 : Addr) (xs ys : Array Value) : Meets (Builtin.«zip.__new__» ⟨[.type "zip", .ref l1, .ref l2], []⟩) (fun _ R s => s.heap.IsList l1 xs ∧ s.heap.IsTuple l2 ys ∧
      R (.ok (.ret (.ref (zN4 true false s.heap l1 l2).objs.size))) { s with heap := zN5 true false s.heap l1 l2 }) := .of_wp fun prog w A R s h => by
  obtain ⟨hp, g, d, tk, os⟩ := s
  obtain ⟨h1, h2, h⟩ := h
  have sub := sub_zip
  have e1 : Heap.IsList (Shared.heap ⟨hp, g, d, tk, os⟩) l1 xs := h1
  have e2 : Heap.IsTuple (Shared.heap ⟨hp.push { cls := .type "list_iterator", data := .fields #[.ref l1, .int 0 0] }, g, d, tk, os⟩) l2 ys := Heap.IsTuple.push h2 _
  wp_walk using wpAny_pyIter_list e1, wpAny_pyIter_tuple e2
  exact ⟨_, rfl, h⟩
theorem meets_tl (l1 l2 : Addr) (xs ys : Array Value) : Meets (Builtin.«zip.__new__» ⟨[.type "zip", .ref l1, .ref l2], []⟩) (fun _ R s => s.heap.IsTuple l1 xs ∧ s.heap.IsList l2 ys ∧
      R (.ok (.ret (.ref (zN4 false true s.heap l1 l2).objs.size))) { s with heap := zN5 false true s.heap l1 l2 }) := .of_wp fun prog w A R s h => by
  obtain ⟨hp, g, d, tk, os⟩ := s
  obtain ⟨h1, h2, h⟩ := h
  have sub := sub_zip
  have e1 : Heap.IsTuple (Shared.heap ⟨hp, g, d, tk, os⟩) l1 xs := h1
  have e2 : Heap.IsList (Shared.heap ⟨hp.push { cls := .type "tuple_iterator", data := .fields #[.ref l1, .int 0 0] }, g, d, tk, os⟩) l2 ys := Heap.IsList.push h2 _
  wp_walk using wpAny_pyIter_tuple e1, wpAny_pyIter_list e2
  exact ⟨_, rfl, h⟩
section
variable {prog : Program} {w : World} {A : Around} {E : Value → Shared → Prop} {s : Shared}
theorem zN_at {a b : Bool} {l1 l2 : Addr} {Q : Value → Shared → Prop}
    (q : ∀ h', IsZip h' (s.heap.objs.size + 4) (s.heap.objs.size + 2) (s.heap.objs.size + 3) .none → IsPair h' (s.heap.objs.size + 2) (.ref s.heap.objs.size) (.ref (s.heap.objs.size + 1)) → IsPair h' (s.heap.objs.size + 3) .none .none →
      ItA a h' s.heap.objs.size l1 0 → ItA b h' (s.heap.objs.size + 1) l2 0 → (∀ c o, s.heap.get? c = some o → h'.get? c = some o) → Q (.ref (s.heap.objs.size + 4)) { s with heap := h' }) :
    (∃ o, (zN5 a b s.heap l1 l2).get? (zN4 a b s.heap l1 l2).objs.size = some o ∧ o.cls = .type "zip") ∧ Q (.ref (zN4 a b s.heap l1 l2).objs.size) { s with heap := zN5 a b s.heap l1 l2 } := by
  have n1 : (zN1 a s.heap l1).objs.size = s.heap.objs.size + 1 := Heap.size_push ..
  have n2 : (zN1 b (zN1 a s.heap l1) l2).objs.size = s.heap.objs.size + 2 := (Heap.size_push ..).trans (by rw [n1])
  have n3 : (zN3 a b s.heap l1 l2).objs.size = s.heap.objs.size + 3 := (Heap.size_push ..).trans (by rw [n2])
  have n4 : (zN4 a b s.heap l1 l2).objs.size = s.heap.objs.size + 4 := (Heap.size_push ..).trans (by rw [n3])
  have g5 : (zN5 a b s.heap l1 l2).get? (zN4 a b s.heap l1 l2).objs.size = some _ := Heap.get?_push_size _ rfl
  have g4 : (zN5 a b s.heap l1 l2).get? (zN3 a b s.heap l1 l2).objs.size = some _ := Heap.get?_push_of_some _ (Heap.get?_push_size _ rfl)
  have g3 : (zN5 a b s.heap l1 l2).get? (zN1 b (zN1 a s.heap l1) l2).objs.size = some _ := Heap.get?_push_of_some _ (Heap.get?_push_of_some _ (Heap.get?_push_size _ rfl))
  have g2 : (zN5 a b s.heap l1 l2).get? (zN1 a s.heap l1).objs.size = some _ := Heap.get?_push_of_some _ (Heap.get?_push_of_some _ (Heap.get?_push_of_some _ (Heap.get?_push_size _ rfl)))
  have g1 : (zN5 a b s.heap l1 l2).get? s.heap.objs.size = some _ := Heap.get?_push_of_some _ (Heap.get?_push_of_some _ (Heap.get?_push_of_some _ (Heap.get?_push_of_some _ (Heap.get?_push_size _ rfl))))
  rw [n2, n3, n4] at g5
  rw [n1, n2] at g3
  rw [n3] at g4
  rw [n1] at g2
  rw [n4]
  have i1 : ItA a (zN5 a b s.heap l1 l2) s.heap.objs.size l1 0 := by cases a <;> exact ⟨_, g1, rfl, rfl⟩
  have i2 : ItA b (zN5 a b s.heap l1 l2) (s.heap.objs.size + 1) l2 0 := by cases b <;> exact ⟨_, g2, rfl, rfl⟩
  exact ⟨⟨_, g5, rfl⟩, q _ g5 g3 g4 i1 i2 fun c o x => Heap.get?_push_of_some _ (Heap.get?_push_of_some _ (Heap.get?_push_of_some _ (Heap.get?_push_of_some _ (Heap.get?_push_of_some _ x))))⟩
theorem call_lt {l1 l2 : Addr} {xs ys : Array Value} {Q : Value → Shared → Prop} (h1 : s.heap.IsList l1 xs) (h2 : s.heap.IsTuple l2 ys)
    (q : ∀ h', IsZip h' (s.heap.objs.size + 4) (s.heap.objs.size + 2) (s.heap.objs.size + 3) .none → IsPair h' (s.heap.objs.size + 2) (.ref s.heap.objs.size) (.ref (s.heap.objs.size + 1)) → IsPair h' (s.heap.objs.size + 3) .none .none →
      ItA true h' s.heap.objs.size l1 0 → ItA false h' (s.heap.objs.size + 1) l2 0 → (∀ c o, s.heap.get? c = some o → h'.get? c = some o) → Q (.ref (s.heap.objs.size + 4)) { s with heap := h' }) :
    wpAny (model prog w) A (call (.type "zip") [.ref l1, .ref l2]) Q E s :=
  callType_new F.called_zip (by decide) (F.typeCall_zip_2 _ _) (F.newCall_zip_2 _ _) (fun obj => F.args_object_init_3 obj _ _) F.entry_zip_new (meets_lt l1 l2 xs ys) ⟨h1, h2, zN_at q⟩
theorem call_tl {l1 l2 : Addr} {xs ys : Array Value} {Q : Value → Shared → Prop} (h1 : s.heap.IsTuple l1 xs) (h2 : s.heap.IsList l2 ys)
    (q : ∀ h', IsZip h' (s.heap.objs.size + 4) (s.heap.objs.size + 2) (s.heap.objs.size + 3) .none → IsPair h' (s.heap.objs.size + 2) (.ref s.heap.objs.size) (.ref (s.heap.objs.size + 1)) → IsPair h' (s.heap.objs.size + 3) .none .none →
      ItA false h' s.heap.objs.size l1 0 → ItA true h' (s.heap.objs.size + 1) l2 0 → (∀ c o, s.heap.get? c = some o → h'.get? c = some o) → Q (.ref (s.heap.objs.size + 4)) { s with heap := h' }) :
    wpAny (model prog w) A (call (.type "zip") [.ref l1, .ref l2]) Q E s :=
  callType_new F.called_zip (by decide) (F.typeCall_zip_2 _ _) (F.newCall_zip_2 _ _) (fun obj => F.args_object_init_3 obj _ _) F.entry_zip_new (meets_tl l1 l2 xs ys) ⟨h1, h2, zN_at q⟩
end
/-! turns -/
def SqV (k : Bool) (K : PySem.W.Frag) (H : Hp) (l : Addr) (xs : List V) : Prop := if k = true then SqL K H l xs else SqT K H l xs
def ItzA (a b : Bool) (K : PySem.W.Frag) (p q : Addr) : It :=
  ⟨fun i H => ∃ (xs ys : List V) (x y : V), SqV a K H p xs ∧ SqV b K H q ys ∧ xs[i]? = some x ∧ ys[i]? = some y,
    fun i H v H' => ∃ T x y, v = .ref T ∧ H T = none ∧ H' = upd H T (.tup [x, y]) ∧ (∀ xs, SqV a K H p xs → xs[i]? = some x) ∧ ∀ ys, SqV b K H q ys → ys[i]? = some y,
    fun i H => ∃ xs ys : List V, SqV a K H p xs ∧ SqV b K H q ys ∧ (xs.length ≤ i ∨ ys.length ≤ i)⟩
theorem SqV.of {X : Cx} {pins : List (Addr × Obj)} {σ : L2.St} {H : Hp} {s : Shared} (I : Inv X pins σ H s) {k : Bool} {l : Addr} {xs : List V} (h : SqV k X.K H l xs) : ∃ its, Vals xs its ∧ SqA k s.heap l its.toArray := by
  cases k
  · obtain ⟨its, rv, p, _⟩ := I.tuple (show SqT X.K H l xs from h)
    exact ⟨its, rv, p⟩
  · obtain ⟨its, rv, p, _⟩ := I.list (show SqL X.K H l xs from h)
    exact ⟨its, rv, p.isList⟩
theorem SqV.inj {X : Cx} {pins : List (Addr × Obj)} {σ : L2.St} {H : Hp} {s : Shared} (I : Inv X pins σ H s) {k : Bool} {l : Addr} {xs ys : List V} (h : SqV k X.K H l xs) (h' : SqV k X.K H l ys) : xs = ys := by
  cases k
  · exact I.tuple_inj (show SqT X.K H l xs from h) h'
  · exact I.list_inj (show SqL X.K H l xs from h) h'
theorem turnA {P : Program} {w : World} {K : PySem.W.Frag} {elts : List Expr} {kk : Nat} {tpos : Pos} {a b : Bool} {p q z TI TO i1 i2 : Addr} (D : ZipApart z TI TO i1 i2 p q) :
    Turn P w K (.Tuple elts kk tpos) (ItzA a b K p q) [z, TI, TO, i1, i2] z (fun i h => IsZip h z TI TO .none ∧ IsPair h TI (.ref i1) (.ref i2) ∧ (∃ x y, IsPair h TO x y) ∧ ItA a h i1 p i ∧ ItA b h i2 q i) where
  mem := by simp
  obj := fun i h ⟨hz, pI, ⟨x, y, pO⟩, j1, j2⟩ c hc => by
    simp only [List.mem_cons, List.not_mem_nil, or_false] at hc
    rcases hc with rfl | rfl | rfl | rfl | rfl
    · exact ⟨_, hz, fun v w => nomatch w⟩
    · exact ⟨_, pI, fun v w => nomatch w⟩
    · exact ⟨_, pO, fun v w => nomatch w⟩
    · exact j1.obj
    · exact j2.obj
  keep := fun i h h' ⟨hz, pI, ⟨x, y, pO⟩, j1, j2⟩ k => ⟨k z (by simp) _ hz, k TI (by simp) _ pI, ⟨x, y, k TO (by simp) _ pO⟩, j1.at fun o w => k i1 (by simp) o w, j2.at fun o w => k i2 (by simp) o w⟩
  item := by
    rintro X rfl rfl rfl hc i pins s σ H E I hf ⟨hz, pI, ⟨x0, y0, pO⟩, j1, j2⟩ ⟨xs, ys, x, y, hqx, hqy, hx, hy⟩
    obtain ⟨its, rv, q1⟩ := hqx.of I
    obtain ⟨its2, rv2, q2⟩ := hqy.of I
    obtain ⟨u, hu, ru⟩ := rv.get hx
    obtain ⟨u2, hu2, ru2⟩ := rv2.get hy
    have zl : z < s.heap.objs.size := Heap.lt_size hz
    refine pyNextA_item D hz pI pO j1 j2 q1 q2 (x := u) (y := u2) (by simpa using hu) (by simpa using hu2) fun h' z' pO' j1' j2' hT hsz hk => ⟨_, rfl, wpAny_letOwnedTupleGo_zip (s := { s with heap := h' }) z' fun h'' z'' sb => ?_⟩
    have t2 : h''.get? s.heap.objs.size = some { cls := .type "tuple", data := .seq #[u, u2] } := (sb.2 _ (Nat.ne_of_gt zl)).trans hT
    have new : ObjOk X.prog X.w (upd H s.heap.objs.size (.tup [x, y])) h'' s.heap.objs.size (.tup [x, y]) := ⟨by show 2 ≤ sizeLine; decide, [u, u2], .cons ru (.cons ru2 .nil), ⟨_, t2, rfl, _, rfl⟩⟩
    have I1 : Inv X pins σ (upd H s.heap.objs.size (.tup [x, y])) { s with heap := h'' } := I.turnedNew (t' := s.toks) (ch := [z, TI, TO, i1, i2]) (fun c o hb w => by
      simp only [List.mem_cons, List.not_mem_nil, or_false, not_or] at hb
      exact (sb.2 c hb.1).trans (hk c o hb.1 hb.2.2.1 hb.2.2.2.1 hb.2.2.2.2 w)) hf (Nat.le_refl _) new
    refine ⟨.ref s.heap.objs.size, _, I1, rfl, ⟨_, x, y, rfl, I.hok.fresh (Nat.le_refl _), rfl, fun l hl => by rw [SqV.inj I hl hqx]; exact hx, fun l hl => by rw [SqV.inj I hl hqy]; exact hy⟩, ⟨z'', ?_, ⟨u, u2, ?_⟩, ?_, ?_⟩, fun c hcm => ?_⟩
    · exact (sb.2 _ D.TIz).trans (hk _ _ D.TIz D.TITO D.TIi1 D.TIi2 pI)
    · exact (sb.2 _ D.TOz).trans pO'
    · exact j1'.at fun o w => (sb.2 _ D.i1z).trans w
    · exact j2'.at fun o w => (sb.2 _ D.i2z).trans w
    · have lt : c < s.heap.objs.size := by
        have hc2 := hcm
        simp only [List.mem_cons, List.not_mem_nil, or_false] at hc2
        rcases hc2 with rfl | rfl | rfl | rfl | rfl
        · exact zl
        · exact Heap.lt_size pI
        · exact Heap.lt_size pO
        · obtain ⟨_, e, _⟩ := j1.obj; exact Heap.lt_size e
        · obtain ⟨_, e, _⟩ := j2.obj; exact Heap.lt_size e
      rw [upd_ne (Nat.ne_of_lt lt)]
      exact (hf c hcm).1
  done := by
    rintro X rfl rfl rfl hc i pins s σ H E I hf ⟨hz, pI, ⟨x0, y0, pO⟩, j1, j2⟩ ⟨xs, ys, hqx, hqy, he⟩
    obtain ⟨its, rv, q1⟩ := hqx.of I
    obtain ⟨its2, rv2, q2⟩ := hqy.of I
    have n1 := rv.length
    have n2 := rv2.length
    have he2 : its.toArray[i]? = none ∨ its2.toArray[i]? = none := he.imp (fun w => by simp; omega) fun w => by simp; omega
    refine pyNextA_end (I.ok.hd hc) D hz pI pO j1 j2 q1 q2 he2 fun h' hk => ⟨rfl, I.turnedL (t' := s.toks) (ch := [z, TI, TO, i1, i2]) (fun c o hb w => ?_) hf⟩
    simp only [List.mem_cons, List.not_mem_nil, or_false, not_or] at hb
    exact hk c o hb.1 hb.2.2.1 hb.2.2.2.1 hb.2.2.2.2 w
  self := fun A i s Q E st h => wpAny_pyIter_zip st.1 h
theorem callA {prog : Program} {w : World} {A : Around} {E : Value → Shared → Prop} {s : Shared} {a b : Bool} {l1 l2 : Addr} {xs ys : Array Value} {Q : Value → Shared → Prop} (h1 : SqA a s.heap l1 xs) (h2 : SqA b s.heap l2 ys)
    (q : ∀ h', IsZip h' (s.heap.objs.size + 4) (s.heap.objs.size + 2) (s.heap.objs.size + 3) .none → IsPair h' (s.heap.objs.size + 2) (.ref s.heap.objs.size) (.ref (s.heap.objs.size + 1)) → IsPair h' (s.heap.objs.size + 3) .none .none →
      ItA a h' s.heap.objs.size l1 0 → ItA b h' (s.heap.objs.size + 1) l2 0 → (∀ c o, s.heap.get? c = some o → h'.get? c = some o) → Q (.ref (s.heap.objs.size + 4)) { s with heap := h' }) :
    wpAny (model prog w) A (call (.type "zip") [.ref l1, .ref l2]) Q E s := by
  cases a <;> cases b
  · exact RZ.call_zipT (show s.heap.IsTuple l1 xs from h1) (show s.heap.IsTuple l2 ys from h2) fun h' a1 a2 a3 a4 a5 _ a7 => q h' a1 a2 a3 a4 a5 a7
  · exact call_tl (show s.heap.IsTuple l1 xs from h1) (show s.heap.IsList l2 ys from h2) q
  · exact call_lt (show s.heap.IsList l1 xs from h1) (show s.heap.IsTuple l2 ys from h2) q
  · exact call_zip_2 (show s.heap.IsList l1 xs from h1) (show s.heap.IsList l2 ys from h2) fun h' a1 a2 a3 a4 a5 _ a7 => q h' a1 a2 a3 a4 a5 a7
def iZipM (K : PySem.W.Frag) (ta : TA) : TI := fun σ H R => ta σ H fun vs H1 => ∃ p q a b xs ys, vs = [.ref p, .ref q] ∧ SqV a K H1 p xs ∧ SqV b K H1 q ys ∧ R (ItzA a b K p q) H1
theorem pi_zipM {X : Cx} {e e2 : Expr} {ta : TA} {p pos tpos : Pos} {elts : List Expr} {kk : Nat} (hg : Gl X "zip") (hm : X.mg "zip" = none) (ha : PA X [e, e2] ta) (hs : starEach [e, e2] X.env = (false, eval e X.env) :: starEach [e2] X.env)
    (hpl : (backTo pos (starEach [e2] X.env)).any (·.1) = false) : PI X (.Tuple elts kk tpos) (.Call (.Name "zip" p) [e, e2] [] pos) (iZipM X.K ta) := by
  refine ⟨fun pins s σ H R I h => Call_ (ld_blt I hg hm PyProof.Rows.boot_zip (PyProof.Rows.callWith_type1 (thn (ha.run pos pins s σ H _ I h) fun us s1 ⟨vs, H1, I1, r1, c, d, a, b, xs, ys, ex, hqx, hqy, q⟩ => ?_) hs hpl))⟩
  subst ex
  cases r1 with
  | cons r rr =>
    cases rr with
    | cons r' rr =>
      cases rr
      cases r
      cases r'
      obtain ⟨its, _, q1⟩ := hqx.of I1
      obtain ⟨its2, _, q2⟩ := hqy.of I1
      refine callA q1 q2 fun h' hz pI pO j1 j2 hk => wpAny_pyIter_zip hz ⟨s1.heap.objs.size + 4, [s1.heap.objs.size + 4, s1.heap.objs.size + 2, s1.heap.objs.size + 3, s1.heap.objs.size, s1.heap.objs.size + 1], _, _, H1, rfl, I1.kept (t' := s1.toks) hk,
        turnA (PySem.W.ktu_apart s1.heap.objs.size c d q1.lt q2.lt), ⟨hz, pI, ⟨_, _, pO⟩, j1, j2⟩, fun x hx => ?_, q⟩
      have le : s1.heap.objs.size ≤ x := by
        simp only [List.mem_cons, List.not_mem_nil, or_false] at hx
        rcases hx with rfl | rfl | rfl | rfl | rfl <;> first | exact Nat.le_refl _ | exact Nat.le_add_right _ _
      exact I1.fpOk le (I1.hok.fresh le)
end Z
set_option Elab.async false
set_option linter.all false
set_option maxRecDepth 100000
set_option maxHeartbeats 2000000
namespace Z
open PySem PySem.Spec PyProof.Rows L2 TL

/-! ### dicts -/
theorem putK_new {kvs : List (Key × V)} {k : Key} {v : V} (h : ∀ p ∈ kvs, p.1 ≠ k) : putK kvs k v = kvs ++ [(k, v)] := by
  unfold putK
  have : (kvs.any fun kv => decide (kv.1 = k)) = false := by
    rw [List.any_eq_false]
    intro p hp
    simpa using h p hp
  rw [if_neg (by rw [this]; decide)]
theorem mergeK_new : ∀ (more kvs : List (Key × V)), ((kvs ++ more).map (·.1)).Nodup → mergeK kvs more = kvs ++ more
  | [], kvs, _ => by rw [List.append_nil]; rfl
  | (k, v) :: r, kvs, h => by
    have hn : ∀ p ∈ kvs, p.1 ≠ k := fun p hp e => by
      rw [List.map_append, List.map_cons] at h
      exact (List.nodup_append.mp h).2.2 p.1 (List.mem_map_of_mem hp) k (List.mem_cons_self ..) e
    show mergeK (putK kvs k v) r = _
    rw [putK_new hn, mergeK_new r (kvs ++ [(k, v)]) (by simpa using h), List.append_assoc]; rfl
theorem zip_keys : ∀ {ks : List Key} {vs : List V}, vs.length = ks.length → (ks.zip vs).map (·.1) = ks
  | [], [], _ => rfl
  | [], _ :: _, h => by simp at h
  | _ :: _, [], h => by simp at h
  | k :: ks, v :: vs, h => by
    rw [List.zip_cons_cons, List.map_cons, zip_keys (by simpa using h)]
theorem RepKs.zip {K : PySem.W.Frag} {W : Wd} : ∀ {ks : List Key} {ds : List D} {vs : List V}, Reps K W ds vs → RepKs K W (ks.zip ds) (ks.zip vs)
  | [], _, _, _ => by rw [List.zip_nil_left, List.zip_nil_left, RepKs]
  | k :: ks, [], _, h => by rw [Reps] at h; subst h; rw [List.zip_nil_right, List.zip_nil_right, RepKs]
  | k :: ks, d :: ds, _, h => by
    rw [Reps] at h
    obtain ⟨v, r, rfl, h1, h2⟩ := h
    rw [List.zip_cons_cons, List.zip_cons_cons, RepKs]
    exact ⟨v, _, rfl, h1, RepKs.zip h2⟩
section
variable {X : Cx} {Wx : WX} {a b d e : Expr} {va vb vd : List Nat} {ma mb md : Ev → M D} {ms : Ev → M (List D)} {vs : List Nat} {pos : Pos}
theorem n_dct0 : PE X (.Dict [] [] pos) (tzN X.K X.mg Wx [] fun _ => ret (.dct [])) :=
  PE.imp pe_dnewK fun σ H Q ⟨W, F, st, r, sr, re, p⟩ q hq => by
    have hf := sr.nohf hq
    have hF := sr.nofoot hq
    refine p (.ref q) W F _ (sr.write hf hF (fun zs z => by rcases z with z | z <;> cases z)) (Ext.refl.write hq) ?_
    unfold RepN
    rw [if_pos (show isMut (.dct []) = true from rfl)]
    exact ⟨q, rfl, hq, hf, hF, .inr ⟨[], [], rfl, upd_same, by rw [RepKs]⟩⟩
theorem n_dct {keys : List (Option Expr)} {values : List Expr} {trs : List (TE × TE)} {ks : List Key} (hp : PPs X pos keys values trs)
    (ht : ∀ σ H Q, tzs X.K X.mg Wx vs ms σ H (fun us H2 => Q ((ks.zip us).map fun kv => (kV kv.1, kv.2)) H2) → tPairs trs σ H Q) (hall : keys.all (·.isSome) = true) (hl : keys.length = values.length) (h0 : keys ≠ []) (h15 : keys.length ≤ 15)
    (hk : ks.length = keys.length) (hnd : ks.Nodup) (hln : ∀ r st ds st', ms r st = .ok ds st' → ds.length = ks.length) : PE X (.Dict keys values pos) (tzN X.K X.mg Wx vs fun r => bnd (ms r) fun ds => ret (.dct (ks.zip ds))) :=
  PE.imp (pe_disp hp hall hl h0 h15) fun σ H Q ⟨W, F, st, r, sr, re, p⟩ q hq => by
    have hf := sr.nohf hq
    have hF := sr.nofoot hq
    have sr' : SR W F (upd H q (.dK [])) st := sr.write hf hF (fun zs z => by rcases z with z | z <;> cases z)
    have x' : Ext W F H W F (upd H q (.dK [])) := Ext.refl.write hq
    refine ht σ _ _ ⟨W, F, st, r, sr', re, ?_⟩
    dsimp only at p
    unfold bnd at p
    cases z : ms r st with
    | ok ds s1 =>
      rw [z] at p
      intro us W1 F1 H1 sr1 x1 rv
      have hq1 : H1 q = some (.dK []) := x1.keep q _ upd_same hF
      have hlen : us.length = ks.length := by rw [← rv.length]; exact hln r st ds s1 z
      have hf1 : W1.hf q = none := by
        cases z2 : W1.hf q with
        | none => rfl
        | some o =>
          rcases x1.fz q o z2 with z3 | z3
          · rw [hf] at z3; cases z3
          · rw [upd_same] at z3; cases z3
      have hF1 : ¬ F1 q := fun z2 => (x1.newf q z2).elim hF fun z3 => by rw [upd_same] at z3; cases z3
      refine ⟨hq1, ks.zip us, rfl, by rw [List.length_zip]; omega, ?_⟩
      rw [mergeK_new _ _ (by rw [List.nil_append, zip_keys hlen]; exact hnd), List.nil_append]
      refine p (.ref q) W1 F1 _ (sr1.write hf1 hF1 (fun zs z => by rcases z with z | z <;> cases z)) ((x'.trans x1).write hq) ?_
      unfold RepN
      rw [if_pos (show isMut (.dct (ks.zip ds)) = true from rfl)]
      exact ⟨q, rfl, hq, hf1, hF1, .inr ⟨_, _, rfl, upd_same, RepKs.zip rv⟩⟩
    | exc ee s1 =>
      rw [z] at p
      intro cls dx W1 F1 H1 sr1 x1 xr
      exact p cls dx W1 F1 H1 sr1 (x'.trans x1) xr
    | stk => rw [z] at p; exact p
theorem Pst.look {K : PySem.W.Frag} {mg : Str → Option Value} {σ : L2.St} {W : Wd} {F : Addr → Prop} {H : Hp} {Q : VK} {st : Sto} {kvs : List (Key × D)} {us : List (Key × V)} {k : Key} {d : D} {v : V} (sr : SR W F H st) (rk : RepKs K W kvs us) (rv : Rep K W d v)
    (p : Pst K mg Wx σ W F H Q (ret ((lookD kvs k).getD d) st)) : Q ((valV us k).getD v) H := by
  rcases RepKs.look k rk with ⟨e1, e2⟩ | ⟨d', v', e1, e2, r'⟩
  · rw [e1] at p; rw [e2]; exact p.fin sr rv
  · rw [e1] at p; rw [e2]; exact p.fin sr r'
theorem s_get1 {apos : Pos} (hu : X.A.units + 1 < cLine) (hb : notCallN a = true) (hl : (apos.endLine == pos.line) = true) (hn : notStar b = true) (ha : PE X a (tz X.K X.mg Wx va ma)) (hb2 : PE X b (tz X.K X.mg Wx vb mb)) :
    PE X (.Call (.Attribute a "get" apos) [b] [] pos) (tz X.K X.mg Wx (va ++ (vb ++ [])) fun r => bnd (ma r) fun x => if isDct x then bnd (mb r) fun y => bnd (ret .non) fun z => getM x y z else stk) :=
  PE.imp (pe_dget1 hu ha hb2 ⟨base_ok hb, by rw [star_ok hn]; rfl, hl, by rw [star_ok hn]; rfl⟩) fun σ H Q ⟨W, F, st, r, sr, re, p⟩ =>
    tz_use sr re.fst p fun x s1 v W1 F1 H1 sr1 e1 rx p1 => by
      cases x <;> first | exact False.elim p1 | skip
      rename_i kvs
      rw [Rep] at rx; obtain ⟨q, us, rfl, hq, rk⟩ := rx
      refine ⟨q, rfl, .inl ⟨us, .inl (sr1.sub _ _ hq)⟩, tz_use sr1 (re.snd.fst.mono e1.le) p1 fun y s2 u W2 F2 H2 sr2 e2 ry p2 => ?_⟩
      have p2 : Pst X.K X.mg Wx σ W2 F2 H2 Q (getM (.dct kvs) y .non s2) := p2
      unfold getM at p2
      cases hk : keyOf y with
      | none => rw [hk] at p2; exact p2.elim
      | some key =>
        rw [hk] at p2
        exact ⟨_, .inl ⟨us, key, .inl (sr2.sub _ _ (e2.le.hf _ _ hq)), keyOf_rep hk ry, rfl⟩, p2.look sr2 (RepKs.mono e2.le _ _ rk) (by rw [Rep])⟩
theorem s_get2 {apos : Pos} (hu : X.A.units + 1 < cLine) (hb : notCallN a = true) (hl : (apos.endLine == pos.line) = true) (hn : notStar b = true) (hn2 : notStar d = true) (ha : PE X a (tz X.K X.mg Wx va ma)) (hb2 : PE X b (tz X.K X.mg Wx vb mb)) (hd : PE X d (tz X.K X.mg Wx vd md)) :
    PE X (.Call (.Attribute a "get" apos) [b, d] [] pos) (tz X.K X.mg Wx (va ++ (vb ++ vd)) fun r => bnd (ma r) fun x => if isDct x then bnd (mb r) fun y => bnd (md r) fun z => getM x y z else stk) :=
  PE.imp (pe_dget2 hu ha hb2 hd ⟨base_ok hb, by rw [star_ok hn, star_ok hn2]; rfl, hl, by rw [star_ok hn, star_ok hn2]; rfl⟩) fun σ H Q ⟨W, F, st, r, sr, re, p⟩ =>
    tz_use sr re.fst p fun x s1 v W1 F1 H1 sr1 e1 rx p1 => by
      cases x <;> first | exact False.elim p1 | skip
      rename_i kvs
      rw [Rep] at rx; obtain ⟨q, us, rfl, hq, rk⟩ := rx
      refine ⟨q, rfl, .inl ⟨us, .inl (sr1.sub _ _ hq)⟩, tz_use sr1 (re.snd.fst.mono e1.le) p1 fun y s2 u W2 F2 H2 sr2 e2 ry p2 => tz_use sr2 (re.snd.snd.mono (e1.le.trans e2.le)) p2 fun z s3 u3 W3 F3 H3 sr3 e3 rz p3 => ?_⟩
      unfold getM at p3
      cases hk : keyOf y with
      | none => rw [hk] at p3; exact p3.elim
      | some key =>
        rw [hk] at p3
        exact ⟨_, .inl ⟨us, key, .inl (sr3.sub _ _ ((e2.le.trans e3.le).hf _ _ hq)), keyOf_rep hk (ry.mono e3.le), rfl⟩, p3.look sr3 (RepKs.mono (e2.le.trans e3.le) _ _ rk) rz⟩
end

/-! ### enumerate, zip -/
theorem enumD_len : ∀ (n : Nat) (ds : List D), (enumD n ds).length = ds.length
  | _, [] => rfl
  | n, d :: ds => by rw [enumD, List.length_cons, enumD_len (n + 1) ds, List.length_cons]
theorem enumD_get : ∀ (n : Nat) (ds : List D) (i : Nat) (d : D), (enumD n ds)[i]? = some d → ∃ x, ds[i]? = some x ∧ d = .tup [.int ((n + i : Nat) : Int), x]
  | _, [], i, d, h => by simp [enumD] at h
  | n, x :: ds, 0, d, h => by
    rw [enumD] at h
    cases h
    exact ⟨x, rfl, rfl⟩
  | n, x :: ds, i + 1, d, h => by
    rw [enumD] at h
    obtain ⟨y, h1, h2⟩ := enumD_get (n + 1) ds i d (by simpa using h)
    exact ⟨y, by simpa using h1, by rw [h2, show n + 1 + i = n + (i + 1) from by omega]⟩
theorem wks_enum {K : PySem.W.Frag} {W : Wd} {a : Addr} {vs : List V} {ds : List D} (hl : SqL K W.hf a vs) (mono : ∀ H, Same W.hf H → SqL K H a vs) (r : Reps K W ds vs) (hz : vs.length ≤ sizeLine) : Wks K (Ite K a) W (enumD 0 ds) where
  len := by rw [enumD_len, r.length]; exact hz
  go := fun i H s hi => ⟨vs, vs[i]'(by rw [enumD_len] at hi; rw [← r.length]; exact hi), mono H s, by simp⟩
  stop := fun i H s hi => ⟨vs, mono H s, by rw [enumD_len] at hi; rw [← r.length]; exact hi⟩
  yld := fun i H x H' d s hd y => by
    obtain ⟨T, y', rfl, hT, rfl, g⟩ := y
    obtain ⟨z, h1, rfl⟩ := enumD_get 0 ds i d hd
    obtain ⟨v, e2, rv⟩ := r.get h1
    have := g vs (mono H s)
    rw [e2] at this; cases this
    exact .inr ⟨T, _, _, .int (i : Nat), _, rfl, rfl, hT, rfl, by rw [Rep, Nat.zero_add], rv⟩
theorem zipD_len : ∀ (xs ys : List D), (zipD xs ys).length = min xs.length ys.length
  | [], _ => by simp [zipD]
  | _ :: _, [] => by simp [zipD]
  | x :: xs, y :: ys => by rw [zipD, List.length_cons, zipD_len xs ys, List.length_cons, List.length_cons]; omega
theorem zipD_get : ∀ (xs ys : List D) (i : Nat) (d : D), (zipD xs ys)[i]? = some d → ∃ x y, xs[i]? = some x ∧ ys[i]? = some y ∧ d = .tup [x, y]
  | [], _, i, d, h => by simp [zipD] at h
  | _ :: _, [], i, d, h => by simp [zipD] at h
  | x :: xs, y :: ys, 0, d, h => by
    rw [zipD] at h; cases h
    exact ⟨x, y, rfl, rfl, rfl⟩
  | x :: xs, y :: ys, i + 1, d, h => by
    rw [zipD] at h
    obtain ⟨u, v, h1, h2, h3⟩ := zipD_get xs ys i d (by simpa using h)
    exact ⟨u, v, by simpa using h1, by simpa using h2, h3⟩
theorem SqV.mono {k : Bool} {K : PySem.W.Frag} {H H' : Hp} {a : Addr} {xs : List V} (e : Same H H') (h : SqV k K H a xs) : SqV k K H' a xs := by
  cases k
  · exact SqT.mono e (show SqT K H a xs from h)
  · exact Same.seq e (show SqL K H a xs from h)
theorem wks_zipA {a b : Bool} {K : PySem.W.Frag} {W : Wd} {p q : Addr} {vs us : List V} {ds es : List D} (hl : SqV a K W.hf p vs) (hl2 : SqV b K W.hf q us) (r : Reps K W ds vs) (r2 : Reps K W es us) (hz : vs.length ≤ sizeLine) : Wks K (ItzA a b K p q) W (zipD ds es) where
  len := by rw [zipD_len, r.length]; omega
  go := fun i H s hi => by
    rw [zipD_len] at hi
    have h1 : i < vs.length := by rw [← r.length]; omega
    have h2 : i < us.length := by rw [← r2.length]; omega
    exact ⟨vs, us, vs[i], us[i], SqV.mono s hl, SqV.mono s hl2, by simp, by simp⟩
  stop := fun i H s hi => ⟨vs, us, SqV.mono s hl, SqV.mono s hl2, by rw [zipD_len] at hi; rw [← r.length, ← r2.length]; omega⟩
  yld := fun i H x H' d s hd y => by
    obtain ⟨T, x', y', rfl, hT, rfl, g, g2⟩ := y
    obtain ⟨z, z2, h1, h2, rfl⟩ := zipD_get ds es i d hd
    obtain ⟨v, e2, rv⟩ := r.get h1
    obtain ⟨u, e3, ru⟩ := r2.get h2
    have := g vs (SqV.mono s hl)
    rw [e2] at this; cases this
    have := g2 us (SqV.mono s hl2)
    rw [e3] at this; cases this
    exact .inr ⟨T, _, _, _, _, rfl, rfl, hT, rfl, rv, ru⟩
section
variable {X : Cx} {Wx : WX} {a b : Expr} {va vb : List Nat} {ma mb : Ev → M D} {elts : List Expr} {kk : Nat} {tpos p pos : Pos}
theorem PI.impI {X : Cx} {tg e : Expr} {t t' : TI} (h : PI X tg e t) (i : ∀ σ H Q, t' σ H Q → t σ H Q) : PI X tg e t' := PI.imp h i
theorem i_enum (hg : Gl X "enumerate") (hm : X.mg "enumerate" = none) (hn : notStar a = true) (ha : PE X a (tz X.K X.mg Wx va ma)) :
    PI X (.Tuple elts kk tpos) (.Call (.Name "enumerate" p) [a] [] pos) (tzi X.K X.mg Wx (va ++ []) fun r => bnd (bnd (ma r) fun d => bnd (ret []) fun ds => ret (d :: ds)) fun ds => ofO (biD .enumerate ds)) := by
  refine PI.imp (pi_enum hg hm (pa_cons ha pa_nil (star_ok hn)) (star_ok hn)) fun σ H R ⟨W, F, st, r, sr, re, p⟩ => ?_
  have p : Psi X.K X.mg Wx σ R W F H (bnd (bnd (ma r) fun d => bnd (ret []) fun ds => ret (d :: ds)) (fun ds => ofO (biD .enumerate ds)) st) := p
  rw [evs1] at p
  refine gen_use good_psi sr re.fst p fun d s1 v W1 F1 H1 sr1 x rx p => ?_
  cases d <;> first | exact False.elim p | skip
  · rw [Rep] at rx
    obtain ⟨q, vs, rfl, hq, ra⟩ := rx
    obtain ⟨ds, e, k⟩ := p
    cases e
    exact ⟨q, vs, rfl, SqL.of (sr1.sub _ _ hq), k _ W1 F1 H1 sr1 .refl (wks_enum (SqL.of hq) (fun H s => SqL.of (s _ _ hq)) ra (sr1.len q vs (.inl (sr1.sub _ _ hq))))⟩
  · rename_i ns
    rw [Rep] at rx
    obtain ⟨q, rfl, hq⟩ := rx
    rw [show biD .enumerate [.scr ns] = if ns.length ≤ 16777216 then some (.lst (enumD 0 (ns.map D.int))) else none from rfl] at p
    by_cases hz : ns.length ≤ 16777216
    · rw [if_pos hz] at p
      obtain ⟨ds, e, k⟩ := p
      cases e
      exact ⟨q, _, rfl, Same.seq sr1.sub hq, k _ W1 F1 H1 sr1 .refl (wks_enum hq (fun H s => Same.seq s hq) (reps_ints ns) (by rw [List.length_map]; exact Nat.le_trans hz (by decide)))⟩
    · rw [if_neg hz] at p; exact p.elim
theorem i_zip (hg : Gl X "zip") (hm : X.mg "zip" = none) (hn : notStar a = true) (hnb : notStar b = true) (ha : PE X a (tz X.K X.mg Wx va ma)) (hb : PE X b (tz X.K X.mg Wx vb mb)) :
    PI X (.Tuple elts kk tpos) (.Call (.Name "zip" p) [a, b] [] pos) (tzi X.K X.mg Wx (va ++ (vb ++ [])) fun r => bnd (bnd (ma r) fun d => bnd (bnd (mb r) fun d => bnd (ret []) fun ds => ret (d :: ds)) fun ds => ret (d :: ds)) fun ds => ofO (biD .zip ds)) := by
  refine PI.imp (pi_zipM hg hm (pa_cons ha (pa_cons hb pa_nil (star_ok hnb)) (star_ok hn)) (by rw [star_ok hn]) (by rw [star_ok hnb]; rfl)) fun σ H R ⟨W, F, st, r, sr, re, p⟩ => ?_
  have p : Psi X.K X.mg Wx σ R W F H (bnd (ma r) (fun d => bnd (mb r) fun d' => ofO (biD .zip [d, d'])) st) := by
    have e : (bnd (bnd (ma r) fun d => bnd (bnd (mb r) fun d => bnd (ret []) fun ds => ret (d :: ds)) fun ds => ret (d :: ds)) fun ds => ofO (biD .zip ds)) = bnd (ma r) (fun d => bnd (mb r) fun d' => ofO (biD .zip [d, d'])) := by
      rw [bnd_assoc]
      congr 1
      funext d
      rw [bnd_assoc, bnd_assoc]
      rfl
    rw [← e]; exact p
  refine gen_use good_psi sr re.fst p fun d s1 v W1 F1 H1 sr1 x rx p => ?_
  refine gen_use good_psi sr1 (re.snd.fst.mono x.le) p fun d2 s2 v2 W2 F2 H2 sr2 x2 rx2 p' => ?_
  replace rx := rx.mono x2.le
  have seq : ∀ {d : D} {v : V}, Rep X.K W2 d v → ∀ {xs : List D}, (d = .tup xs ∨ d = .lst xs) → ∃ k q vs, v = .ref q ∧ SqV k X.K W2.hf q vs ∧ Reps X.K W2 xs vs := fun {d v} rd {xs} h => by
    rcases h with rfl | rfl
    · rw [Rep] at rd
      obtain ⟨q, vs, rfl, hq, ra⟩ := rd
      exact ⟨false, q, vs, rfl, hq, ra⟩
    · rw [Rep] at rd
      obtain ⟨q, vs, rfl, hq, ra⟩ := rd
      exact ⟨true, q, vs, rfl, SqL.of hq, ra⟩
  have fin : ∀ {xs ys : List D}, (d = .tup xs ∨ d = .lst xs) → (d2 = .tup ys ∨ d2 = .lst ys) → xs.length ≤ sizeLine → Psi X.K X.mg Wx σ R W2 F2 H2 (ret (.lst (zipD xs ys)) s2) → ∃ p q a b us ws, [v, v2] = [.ref p, .ref q] ∧ SqV a X.K H2 p us ∧ SqV b X.K H2 q ws ∧ R (ItzA a b X.K p q) H2 := fun {xs ys} h1 h2 hz p => by
    obtain ⟨k1, q1, vs, rfl, hq, ra⟩ := seq rx h1
    obtain ⟨k2, q2, us, rfl, hq2, ra2⟩ := seq rx2 h2
    obtain ⟨ds, e, k⟩ := p
    cases e
    exact ⟨q1, q2, k1, k2, vs, us, rfl, SqV.mono sr2.sub hq, SqV.mono sr2.sub hq2, k _ W2 F2 H2 sr2 .refl (wks_zipA hq hq2 ra ra2 (by rw [← ra.length]; exact hz))⟩
  cases d <;> cases d2 <;> first | exact False.elim p' | skip
  · rename_i xs ys
    rw [show biD .zip [.tup xs, .tup ys] = if xs.length ≤ 16777216 then some (.lst (zipD xs ys)) else none from rfl] at p'
    by_cases hz : xs.length ≤ 16777216
    · rw [if_pos hz] at p'
      exact fin (.inl rfl) (.inl rfl) (Nat.le_trans hz (by decide)) p'
    · rw [if_neg hz] at p'; exact p'.elim
  · rename_i xs ys
    rw [show biD .zip [.tup xs, .lst ys] = if xs.length ≤ 16777216 then some (.lst (zipD xs ys)) else none from rfl] at p'
    by_cases hz : xs.length ≤ 16777216
    · rw [if_pos hz] at p'
      exact fin (.inl rfl) (.inr rfl) (Nat.le_trans hz (by decide)) p'
    · rw [if_neg hz] at p'; exact p'.elim
  · rename_i xs ys
    rw [show biD .zip [.lst xs, .tup ys] = if xs.length ≤ 16777216 then some (.lst (zipD xs ys)) else none from rfl] at p'
    by_cases hz : xs.length ≤ 16777216
    · rw [if_pos hz] at p'
      exact fin (.inr rfl) (.inl rfl) (Nat.le_trans hz (by decide)) p'
    · rw [if_neg hz] at p'; exact p'.elim
  · rename_i xs ys
    refine fin (.inr rfl) (.inr rfl) ?_ p'
    rw [Rep] at rx
    obtain ⟨q, vs, rfl, hq, ra⟩ := rx
    rw [ra.length]; exact sr2.len q vs (.inl (sr2.sub _ _ hq))
end
end Z
set_option Elab.async false
set_option linter.all false
set_option maxRecDepth 100000
set_option maxHeartbeats 2000000
namespace Z
open PySem PySem.Spec PyProof.Rows L2 TL

theorem bnd_okE {α β : Type} {m : M α} {f : α → M β} {st st' : Sto} {b : β} (h : bnd m f st = .ok b st') : ∃ a s1, m st = .ok a s1 ∧ f a s1 = .ok b st' := by
  unfold bnd at h
  split at h
  · rename_i a s1 e
    exact ⟨a, s1, e, h⟩
  · cases h
  · cases h
/-! ### refusals as values -/
section
variable {X : Cx} {pins : List (Addr × Obj)} {σ : L2.St} {H : Hp} {s : Shared}
theorem exT_ok {P : Program} {w : World} {H : Hp} {h : Heap} {a : Addr} {cls : Value} {d : Option Addr} {oe : Obj} {vs : Array Value} (e : h.get? a = some oe) (z : Zc cls d oe) (q : oe.data = .fields vs) : ObjOk P w H h a (ExT cls d a) :=
  ⟨⟨oe, vs, e, z, q⟩, ⟨oe, e⟩, fun _ _ ⟨o, v, q1, r⟩ k => ⟨o, v, k o q1, r⟩⟩
/-- an object that stands, of which nothing was told, is told from now on -/
theorem Inv.track {a : Addr} {o : HO} (I : Inv X pins σ H s) (hx : X.ex = []) (n0 : X.s_0.heap.get? a = none) (na : H a = none) (nL : a ≠ X.env.locals) (nC : ∀ x c, X.env.cells.lookup x = some c → c ≠ a) (nP : ∀ p ∈ X.pn ++ pins, p.1 ≠ a)
    (ho : ObjOk X.prog X.w (upd H a o) s.heap a o) : Inv X pins σ (upd H a o) s := by
  have ne : ∀ b u, X.s_0.heap.get? b = some u → b ≠ a := fun b u e z => by rw [z, n0] at e; cases e
  refine ⟨I.ok, I.os, I.bare, ⟨I.base.keep, I.base.slot, fun b u e n hb => ?_, I.base.there, fun b xs e => ?_, fun b u v e => ?_, fun b ps e => ?_⟩, I.loc, I.cell, ?_, fun x c e => ?_, fun p hp => ?_, fun b u e => ?_, I.len⟩
  · rw [upd_ne (ne b u e)]; exact I.base.free b u e n hb
  · have q := I.base.tups b xs e
    rw [upd_ne (ne_of_none q na)]; exact q
  · have q := I.base.frzs b u v e
    rw [upd_ne (ne_of_none q na)]; exact q
  · obtain ⟨m, q⟩ := I.base.tbls b ps e
    exact ⟨m, by rw [upd_ne (ne_of_none q na)]; exact q⟩
  · rw [upd_ne (Ne.symm nL)]; exact I.free
  · rw [upd_ne (nC x c e)]; exact I.freeC x c e
  · obtain ⟨e, n, r⟩ := I.pin p hp
    exact ⟨e, by rw [upd_ne (nP p hp)]; exact n, r⟩
  · by_cases hb : b = a
    · subst hb
      rw [upd_same] at e
      cases e
      exact ho
    · rw [upd_ne hb] at e
      exact (I.hok b u e).stay (fun c v _ q => q) (fun c q => by rw [upd_ne (ne_of_none q na)]; exact q) fun c xs q => by rw [upd_ne (ne_of_none q na)]; exact q
/-- what makes an exception, taken as a value -/
theorem pe_of_mk {e : Expr} {t : L2.St → Hp → XK → Prop} (h : PMk X e t) : PE X e (fun σ H Q => t σ H fun cls d H' => ∀ a, H' a = none → Q (.ref a) (upd H' a (ExT cls d a))) := by
  refine ⟨fun pins s σ H Q I q => wpAny_mono (h pins s σ H _ I q) (fun u s1 hu => ?_) fun _ _ x => x⟩
  obtain ⟨a, oe, vs, sI, H', cls, d, rfl, J, k, hne, ha, hz, hd, h1, na, os, ag, r, q⟩ := hu
  refine ⟨.ref a, _, J.call' (ch := []) os (Un.laidN k hne na) (J.hok.laidN k na (exT_ok ha hz hd)) ag (fun b z => absurd z (by simp)), rfl, q a na⟩
end
/-! ### isinstance, attributes -/
/-- isinstance(e, c) -/
def rIsX (K : PySem.W.Frag) : List V → Hp → VK → Prop := fun xs H Q => ∃ (a D : Addr) (d : Option Addr) (c : V) (cv : Value) (b : Bool), xs = [.ref a, c] ∧ H a = some (ExT (.ref D) d a) ∧ (d = none ∨ ∃ dx gs, d = some dx ∧ H dx = some (.xd gs)) ∧ ExcC K D ∧
  (∀ u, RelV c u → u = cv) ∧ PySem.W.kitOne K (.ref D) cv = some b ∧ Q (.bl b) H
section
variable {X : Cx}
theorem inst_of {pins : List (Addr × Obj)} {σ : L2.St} {H : Hp} {s : Shared} {a D : Addr} {d : Option Addr} (I : Inv X pins σ H s) (ha : H a = some (ExT (.ref D) d a)) (hd : d = none ∨ ∃ dx gs, d = some dx ∧ H dx = some (.xd gs)) :
    ∃ oe od, PySem.W.InstAt s.heap a oe D od := by
  have hx : ObjOk X.prog X.w H s.heap a (.ext fun h => ∃ (oe : Obj) (vs : Array Value), h.get? a = some oe ∧ Zc (.ref D) d oe ∧ oe.data = .fields vs) := I.hok a _ ha
  obtain ⟨⟨oe, vs, h1, h2, h3⟩, _⟩ := hx
  rcases hd with rfl | ⟨dx, gs, rfl, hg⟩
  · exact ⟨oe, none, h1, h2.1, by unfold PySem.W.notCls; rw [h3] <;> rfl, by rw [h2.2]; trivial⟩
  · have hx : ObjOk X.prog X.w H s.heap dx (.xd gs) := I.hok dx _ hg
    obtain ⟨mA, hns, hr⟩ := hx
    obtain ⟨od, ho, hl⟩ := lookIn_ns hns
    exact ⟨oe, some od, h1, h2.1, by unfold PySem.W.notCls; rw [h3] <;> rfl, by rw [h2.2]; exact ho⟩
theorem call_isX : CallR X (.builtin "isinstance") (rIsX X.K) := by
  intro pins s σ H xs us Q I r h
  obtain ⟨a, D, d, c, cv, b, rfl, ha, hd, C, hcv, e, q⟩ := h
  obtain ⟨u1, u2, rfl, r1, r2⟩ := vals2 r
  cases (show u1 = Value.ref a from r1)
  have ec := hcv _ r2
  subst ec
  obtain ⟨oe, od, J⟩ := inst_of I ha hd
  have hcl : (PySem.W.clsIn X.K D).isSome = true := by
    obtain ⟨cd, hc, _⟩ := PySem.W.any_some C.hd
    rw [hc]; rfl
  exact PySem.W.kia_one (PySem.W.kitx_exc hcl C.hg C.hk C.hs C.ha C.hn C.ht C.hm) I.kIn J e (fun z => nomatch z) fun tk => ⟨.bl b, H, I.tok tk, rfl, q⟩
/-- e.f -/
theorem pe_fldX {e : Expr} {te : TE} {pos : Pos} {n : Str} (he : PE X e te) (hb : attributeBase e n X.env (eval e X.env) = eval e X.env) :
    PE X (.Attribute e n pos) (fun σ H Q => te σ H fun x H1 => ∃ (a C dd : Addr) (gs : List (Str × V)) (v : V), x = .ref a ∧ H1 a = some (ExT (.ref C) (some dd) a) ∧ ExcC X.K C ∧ PySem.W.findIn X.K (.ref C) n = some none ∧ H1 dd = some (.xd gs) ∧ gs.lookup n = some v ∧ Q v H1) := by
  refine ⟨fun pins s σ H Q I h => ?_⟩
  refine attr_of hb (thn (he.run pins s σ H _ I h) fun u s1 hh => ?_)
  obtain ⟨x, H1, I1, rx, a, C, dd, gs, v, rfl, ha, T, hno, hg, l, q⟩ := hh
  obtain rfl : u = Value.ref a := rx
  have hx : ObjOk X.prog X.w H1 s1.heap a (.ext fun h => ∃ (oe : Obj) (vs : Array Value), h.get? a = some oe ∧ Zc (.ref C) (some dd) oe ∧ oe.data = .fields vs) := I1.hok a _ ha
  obtain ⟨⟨oe, vs, h1, h2, h3⟩, _⟩ := hx
  have hx : ObjOk X.prog X.w H1 s1.heap dd (.xd gs) := I1.hok dd _ hg
  obtain ⟨mA, hns, hr⟩ := hx
  obtain ⟨od, ho, hl⟩ := lookIn_ns hns
  obtain ⟨u, hu, ru⟩ := RelO.some_of (v := v) (o := mA n) (by rw [← l]; exact hr n)
  have J : PySem.W.InstAt s1.heap a oe C (some od) := ⟨h1, h2.1, by unfold PySem.W.notCls; rw [h3] <;> rfl, by rw [h2.2]; exact ho⟩
  exact HandSPX.exc_get I1.kIn J T.hg T.hk T.hs (PySem.W.findObj_own T.hd hno rfl (by rw [hl, hu])) (handed_of ru) ⟨v, H1, I1.tok _, ru, q⟩
end
/-! ### the classes -/
/-- __init__(self, f): self.f = f -/
def spI (K : PySem.W.Frag) (C : Addr) : List Str → Sp
  | [f] => fun vs H Q E => ∃ a y, vs = [.ref a, y] ∧ OexC K C ∧ PySem.W.findIn K (.ref C) f = some none ∧ H a = some (exo a C none) ∧ ∀ dx, H dx = none → dx ≠ a → Q .non (upd (upd H dx (exd dx [(f, y)])) a (exo a C (some dx)))
  | [f, g] => fun vs H Q E => ∃ a y z, vs = [.ref a, y, z] ∧ OexC K C ∧ PySem.W.findIn K (.ref C) f = some none ∧ PySem.W.findIn K (.ref C) g = some none ∧ H a = some (exo a C none) ∧
      ∀ dx, H dx = none → dx ≠ a → Q .non (upd (upd (upd H dx (exd dx [(f, y)])) a (exo a C (some dx))) dx (exd dx [(g, z), (f, y)]))
  | _ => fun _ _ _ _ => False
structure XcOk (P : Program) (w : World) (K : PySem.W.Frag) (mg : Str → Option Value) (base : Heap) (n : Str) (fs : List Str) : Prop where
  hm : mg n = some (.ref (He.ga K n))
  kp : PySem.W.keepIn K (.ref (He.ga K n)) = true
  ex : ExcC K (He.ga K n)
  ty : PySem.W.typeIn K (.ref (He.ga K n)) = some (.type "type")
  m0 : fs = [] → PySem.W.excIn K (He.ga K n) He.veBase "ValueError.__new__" = true
  mi : fs ≠ [] → ∃ fI fd ps, OexC K (He.ga K n) ∧ PySem.W.findIn K (.ref (He.ga K n)) "__init__" = some (some (.ref fI)) ∧ PySem.W.typeIn K (.ref fI) = some (.type "function") ∧ Binds K fd ps [] ∧ FnOk P w K mg base (L2.CX P w) 1 fI fd ps (spI K (He.ga K n) fs)
  no : ∀ f ∈ fs, PySem.W.findIn K (.ref (He.ga K n)) f = some none
/-- such an __init__'s text -/
def initB1 (b : List Stmt) (s f : Str) : Bool := match b with
  | [.Assign [.Attribute (.Name x _) g _] (.Name y _) _] => decide (x = s) && decide (g = f) && decide (y = f)
  | _ => false
def initB2 (b : List Stmt) (s f g : Str) : Bool := match b with
  | [.Assign [.Attribute (.Name x _) f1 _] (.Name y _) _, .Assign [.Attribute (.Name x2 _) g1 _] (.Name z _) _] => decide (x = s) && decide (f1 = f) && decide (y = f) && decide (x2 = s) && decide (g1 = g) && decide (z = g)
  | _ => false
section
variable {P : Program} {w : World} {K : PySem.W.Frag} {mg : Str → Option Value} {base : Heap} {qual x : Str} {params : Arguments} {bdy : List Stmt} {sc : Scope} {fI : Addr} {fd : FuncData} {s f g : Str} {C : Addr}
theorem init1 (F : FunD K x qual params bdy sc [] [] fI fd) (S : FnScope [s, f] [s, f] sc) (hb : initB1 bdy s f = true) (hs : okName s = true) (hf : okName f = true) : FnOk P w K mg base (L2.CX P w) 1 fI fd [s, f] (spI K C [f]) := by
  unfold initB1 at hb
  split at hb
  · simp only [Bool.and_eq_true, decide_eq_true_eq] at hb
    obtain ⟨⟨rfl, rfl⟩, rfl⟩ := hb
    unfold okName at hs hf
    simp only [Bool.and_eq_true, Bool.not_eq_true'] at hs hf
    obtain ⟨oc, od, dV, kV, doc, pm, an, cdv, ct, osl, rfl, lk, hcd, _, _⟩ := F.ex
    refine fn_of lk hcd S (fun vs H Q E h => ?_) fun A outer s0 H vs Q E hr h => ?_
    · obtain ⟨a, y, rfl, _⟩ := h; rfl
    · obtain ⟨a, y, rfl, T, hno, ha, q⟩ := h
      have hv : ∀ {z : Str}, z ∈ _ → Vis sc z := fun {z} hz => (S.par z hz).elim .inl fun k => .inr (.inl k)
      refine ⟨_, pss_one (ps_ost (pe_var (i := 0) rfl (hv (by simp)) hs.1.1 hs.1.2) (pe_var (i := 1) rfl (hv (by simp)) hf.1.1 hf.1.2)), ?_⟩
      exact ⟨y, rfl, .ref a, rfl, a, C, rfl, T, hno, .inl ⟨ha, q⟩⟩
  · cases hb
theorem init2 (F : FunD K x qual params bdy sc [] [] fI fd) (S : FnScope [s, f, g] [s, f, g] sc) (hb : initB2 bdy s f g = true) (hs : okName s = true) (hf : okName f = true) (hg : okName g = true) : FnOk P w K mg base (L2.CX P w) 1 fI fd [s, f, g] (spI K C [f, g]) := by
  unfold initB2 at hb
  split at hb
  · simp only [Bool.and_eq_true, decide_eq_true_eq] at hb
    obtain ⟨⟨⟨⟨⟨rfl, rfl⟩, rfl⟩, rfl⟩, rfl⟩, rfl⟩ := hb
    unfold okName at hs hf hg
    simp only [Bool.and_eq_true, Bool.not_eq_true'] at hs hf hg
    obtain ⟨oc, od, dV, kV, doc, pm, an, cdv, ct, osl, rfl, lk, hcd, _, _⟩ := F.ex
    refine fn_of lk hcd S (fun vs H Q E h => ?_) fun A outer s0 H vs Q E hr h => ?_
    · obtain ⟨a, y, z, rfl, _⟩ := h; rfl
    · obtain ⟨a, y, z, rfl, T, hno, hno2, ha, q⟩ := h
      have hv : ∀ {z : Str}, z ∈ _ → Vis sc z := fun {z} hz => (S.par z hz).elim .inl fun k => .inr (.inl k)
      refine ⟨_, pss_cons (ps_ost (pe_var (i := 0) rfl (hv (by simp)) hs.1.1 hs.1.2) (pe_var (i := 1) rfl (hv (by simp)) hf.1.1 hf.1.2)) (pss_one (ps_ost (pe_var (i := 0) rfl (hv (by simp)) hs.1.1 hs.1.2) (pe_var (i := 2) rfl (hv (by simp)) hg.1.1 hg.1.2))), ?_⟩
      refine ⟨y, rfl, .ref a, rfl, a, C, rfl, T, hno, .inl ⟨ha, fun dx hn hd => ?_⟩⟩
      refine ⟨z, rfl, .ref a, rfl, a, C, rfl, T, hno2, .inr ⟨dx, [(_, y)], upd_same, by rw [upd_ne hd, upd_same], by simp, q dx hn hd⟩⟩
  · cases hb
end
/-! ### a refusal made -/
def PstX (K : PySem.W.Frag) (mg : Str → Option Value) (Wx : WX) (σ : L2.St) (W : Wd) (F : Addr → Prop) (H : Hp) (Q : XK) : Res D → Prop
  | .ok (.exn c fs) st' => ∀ cls dx W' F' H', SR W' F' H' st' → Ext W F H W' F' H' → XR K mg W' H' ⟨c, fs⟩ cls dx → Q cls dx H'
  | .ok _ _ => False
  | .exc e st' => ∀ cls dx W' F' H', SR W' F' H' st' → Ext W F H W' F' H' → XR K mg W' H' e cls dx → Wx cls dx σ H'
  | .stk => False
def tzX (K : PySem.W.Frag) (mg : Str → Option Value) (Wx : WX) (vs : List Nat) (m : Ev → M D) : L2.St → Hp → XK → Prop := fun σ H Q => ∃ W F st r, SR W F H st ∧ RelE K W vs σ r ∧ PstX K mg Wx σ W F H Q (m r st)
theorem good_pstX {K : PySem.W.Frag} {mg : Str → Option Value} {Wx : WX} {σ : L2.St} {Q : XK} : Good K mg Wx σ (fun W F H => PstX K mg Wx σ W F H Q) :=
  ⟨fun {W F H W1 F1 H1 r} x p => by
    cases r with
    | ok d st => cases d <;> first | exact p | exact fun c d W' F' H' s y => p c d W' F' H' s (x.trans y)
    | exc e st => exact fun c d W' F' H' s y => p c d W' F' H' s (x.trans y)
    | stk => exact p, fun p => p, fun p => p⟩
theorem PMk.imp {X : Cx} {e : Expr} {t t' : L2.St → Hp → XK → Prop} (h : PMk X e t) (i : ∀ σ H Q, t' σ H Q → t σ H Q) : PMk X e t' := fun pins s σ H Q I q => h pins s σ H Q I (i _ _ _ q)
theorem mkD_inv {n : Str} {ds : List D} {d : D} {fs : List Str} (h : mkD n ds = some d) (hf : exTab.lookup n = some fs) : (fs = [] ∧ ds.length = 1 ∧ d = .exn n []) ∨ (∃ f x, fs = [f] ∧ ds = [x] ∧ d = .exn n [(f, x)]) ∨ (∃ f g x y, fs = [f, g] ∧ ds = [x, y] ∧ d = .exn n [(g, y), (f, x)]) := by
  unfold mkD mkX at h
  rw [hf] at h
  rw [Option.map_eq_some_iff] at h
  obtain ⟨e, h, rfl⟩ := h
  split at h
  · rename_i q; cases q; cases h; exact .inl ⟨rfl, rfl, rfl⟩
  · rename_i q; cases q; cases h; exact .inr (.inl ⟨_, _, rfl, rfl, rfl⟩)
  · rename_i q; cases q; cases h; exact .inr (.inr ⟨_, _, _, _, rfl, rfl, rfl⟩)
  · cases h
theorem xd_heap {H1 : Hp} {a C dx : Addr} {gs : List (Str × V)} {H2 : Hp} (h : ∀ b, b ≠ a → b ≠ dx → H2 b = H1 b) (ha : H1 a = none) (hd : dx ≠ a) : upd (del H2 a) dx (.xd gs) = upd H1 dx (.xd gs) := by
  funext b
  by_cases e : b = dx
  · rw [e, upd_same, upd_same]
  · rw [upd_ne e, upd_ne e]
    by_cases e2 : b = a
    · rw [e2, del_same, ha]
    · rw [del_ne e2, h b e2 e]
section
variable {X : Cx} {Wx : WX} {n : Str} {p pos : Pos} {e : Expr} {es : List Expr} {vs : List Nat} {ms : Ev → M (List D)} {fs : List Str}
theorem x_mk (Xc : XcOk X.prog X.w X.K X.mg X.base n fs) (hf : exTab.lookup n = some fs) (hr : Room 2 X.A) (hg : Gl X n) (ho : okName n = true) (hall : (e :: es).all notStar = true) (hs : PA X (e :: es) (tzs X.K X.mg Wx vs ms)) :
    PMk X (.Call (.Name n p) (e :: es) [] pos) (tzX X.K X.mg Wx vs fun r => bnd (ms r) fun ds => ofO (mkD n ds)) := by
  rw [List.all_cons, Bool.and_eq_true] at hall
  unfold okName at ho
  simp only [Bool.and_eq_true, Bool.not_eq_true'] at ho
  have hraise : Raises X (.ref (He.ga X.K n)) := raises_own Xc.ex.hs Xc.ty
  by_cases h0 : fs = []
  · subst h0
    refine PMk.imp (pmk_ownA F.excBase_ValueError (Xc.m0 rfl) Xc.hm Xc.kp hraise hg hs ho.1.1 (star_ok hall.1) (star_any hall.2)) fun σ H Q ⟨W, F, st, r, sr, re, q⟩ => ?_
    refine gens_use good_pstX sr re q fun ds s1 v W1 F1 H1 sr1 e1 rv q1 => ?_
    cases hm : mkD n ds with
    | none => rw [hm] at q1; exact q1.elim
    | some d =>
      rw [hm] at q1
      rcases mkD_inv hm hf with ⟨_, hl, rfl⟩ | ⟨_, _, z, _⟩ | ⟨_, _, _, _, z, _⟩
      · exact ⟨by rw [← rv.length, hl, sizeLine_eq]; decide, q1 _ _ W1 F1 H1 sr1 .refl ⟨rfl, .inl ⟨rfl, rfl⟩⟩⟩
      · cases z
      · cases z
  · obtain ⟨fI, fd, ps, T, iC, tI, hb, F1⟩ := Xc.mi h0
    refine PMk.imp (pmk_oex (ds := []) (dvs := []) T iC tI F1 hr hb .nil (passes_call takes0 fun _ _ _ _ z => z) hg Xc.hm hs ho.1.1 (star_ok hall.1) (star_any hall.2)) fun σ H Q ⟨W, F, st, r, sr, re, q⟩ => ?_
    refine gens_use good_pstX sr re q fun ds s1 v W1 F1 H1 sr1 e1 rv q1 => ?_
    cases hm : mkD n ds with
    | none => rw [hm] at q1; exact q1.elim
    | some d =>
      rw [hm] at q1
      have last : ∀ (d : List (Str × D)) (gs : List (Str × V)) (dx : Addr), RepFs X.K W1 d gs → H1 dx = none → (∀ cls dx W' F' H', SR W' F' H' s1 → Ext W1 F1 H1 W' F' H' → XR X.K X.mg W' H' ⟨n, d⟩ cls dx → Q cls dx H') → Q (.ref (He.ga X.K n)) (some dx) (upd H1 dx (.xd gs)) := fun d gs dx rd hn q => by
        obtain ⟨sr2, x2⟩ := sr1.laid (p := dx) (o := .xd gs) hn (fun xs z => by rcases z with z | z <;> cases z)
        exact q _ _ _ _ _ sr2 x2 ⟨rfl, .inr ⟨dx, gs, rfl, W1.put_at dx _, RepFs.mono x2.le _ _ rd⟩⟩
      rcases mkD_inv hm hf with ⟨z, _⟩ | ⟨f, x, rfl, rfl, rfl⟩ | ⟨f, g, x, y, rfl, rfl, rfl⟩
      · exact absurd z h0
      · obtain ⟨v, rfl, rx⟩ := rv.one
        refine ⟨by simp, fun a ha => ⟨a, v, rfl, T, Xc.no f (by simp), upd_same, fun dx hn hd => ⟨rfl, dx, [(f, v)], upd_same, by rw [upd_ne hd, upd_same], by rw [upd_ne hd] at hn; exact hn, ?_⟩⟩⟩
        rw [upd_ne hd] at hn
        rw [xd_heap (H1 := H1) (C := 0) (fun b h1 h2 => by rw [upd_ne h1, upd_ne h2, upd_ne h1]) ha hd]
        exact last _ _ dx (by rw [RepFs]; exact ⟨v, [], rfl, rx, by rw [RepFs]⟩) hn q1
      · obtain ⟨v, u, rfl, rx, ry⟩ := rv.two
        refine ⟨by simp, fun a ha => ⟨a, v, u, rfl, T, Xc.no f (by simp), Xc.no g (by simp), upd_same, fun dx hn hd => ⟨rfl, dx, [(g, u), (f, v)], by rw [upd_ne (Ne.symm hd), upd_same], upd_same, by rw [upd_ne hd] at hn; exact hn, ?_⟩⟩⟩
        rw [upd_ne hd] at hn
        rw [xd_heap (H1 := H1) (C := 0) (fun b h1 h2 => by rw [upd_ne h2, upd_ne h1, upd_ne h2, upd_ne h1]) ha hd]
        exact last _ _ dx (by rw [RepFs]; exact ⟨u, _, rfl, ry, by rw [RepFs]; exact ⟨v, [], rfl, rx, by rw [RepFs]⟩⟩) hn q1
theorem xr_val {K : PySem.W.Frag} {mg : Str → Option Value} {W : Wd} {F : Addr → Prop} {H : Hp} {st : Sto} {c : Str} {fs : List (Str × D)} {cls : Value} {d : Option Addr} {a : Addr} (s : SR W F H st) (x : XR K mg W H ⟨c, fs⟩ cls d) (ha : H a = none) :
    SR (W.put a (ExT cls d a)) F (upd H a (ExT cls d a)) st ∧ Ext W F H (W.put a (ExT cls d a)) F (upd H a (ExT cls d a)) ∧ Rep K (W.put a (ExT cls d a)) (.exn c fs) (.ref a) := by
  obtain ⟨s1, x1⟩ := s.laid (p := a) (o := ExT cls d a) ha (fun xs z => by unfold ExT at z; rcases z with z | z <;> cases z)
  refine ⟨s1, x1, ?_⟩
  obtain ⟨rfl, k⟩ := x
  rw [Rep]
  exact ⟨a, d, rfl, W.put_at a _, k.imp id fun ⟨dx, gs, e1, e2, r⟩ => ⟨dx, gs, e1, x1.le.hf _ _ e2, RepFs.mono x1.le _ _ r⟩⟩
theorem s_mk (h : PMk X e (tzX X.K X.mg Wx vs fun r => bnd (ms r) fun ds => ofO (mkD n ds))) : PE X e (tz X.K X.mg Wx vs fun r => bnd (ms r) fun ds => ofO (mkD n ds)) :=
  PE.imp (pe_of_mk h) fun σ H Q ⟨W, F, st, r, sr, re, p⟩ => by
    refine ⟨W, F, st, r, sr, re, ?_⟩
    dsimp only at p
    show PstX X.K X.mg Wx σ W F H _ (bnd (ms r) (fun ds => ofO (mkD n ds)) st)
    have p : Pst X.K X.mg Wx σ W F H Q (bnd (ms r) (fun ds => ofO (mkD n ds)) st) := p
    cases q : bnd (ms r) (fun ds => ofO (mkD n ds)) st with
    | ok d st' =>
      rw [q] at p
      have hd : ∃ c fs, d = .exn c fs := by
        obtain ⟨ds, s1, _, q2⟩ := bnd_okE q
        unfold mkD at q2
        cases z : mkX n ds with
        | none => rw [z] at q2; cases q2
        | some e => rw [z] at q2; cases q2; exact ⟨_, _, rfl⟩
      obtain ⟨c, fs, rfl⟩ := hd
      intro cls dx W' F' H' s1 x1 xr a ha
      obtain ⟨s2, x2, rv⟩ := xr_val s1 xr ha
      exact p (.ref a) _ _ _ s2 (x1.trans x2) rv
    | exc e st' => rw [q] at p; exact p
    | stk => rw [q] at p; exact p
end
/-! ### asked for -/
theorem RepFs.lookup {K : PySem.W.Frag} {W : Wd} {f : Str} {d : D} : ∀ {fs : List (Str × D)} {gs : List (Str × V)}, RepFs K W fs gs → fs.lookup f = some d → ∃ v, gs.lookup f = some v ∧ Rep K W d v
  | [], _, _, h => by cases h
  | (k, x) :: fs, gs, r, h => by
    rw [RepFs] at r
    obtain ⟨v, gr, rfl, r1, r2⟩ := r
    rw [List.lookup_cons] at h
    rw [List.lookup_cons]
    cases e : (f == k) with
    | true =>
      rw [e] at h
      cases h
      exact ⟨v, rfl, r1⟩
    | false => rw [e] at h; exact RepFs.lookup r2 h
section
variable {X : Cx} {Wx : WX} {a : Expr} {va : List Nat} {ma : Ev → M D} {pos p q : Pos} {T : Str} {ns : List Str}
theorem s_isc (hcls : ∀ c ∈ ns, ExcC X.K (He.ga X.K c)) {cv : Value} {v : V} (hv : PE X (.Name T q) (tC v)) (hcv : ∀ u, RelV v u → u = cv) (hk : ∀ c ∈ ns, PySem.W.kitOne X.K (.ref (He.ga X.K c)) cv = some (isub c T))
    (hg : Gl X "isinstance") (hm : X.mg "isinstance" = none) (hn : notStar a = true) (ha : PE X a (tz X.K X.mg Wx va ma)) :
    PE X (.Call (.Name "isinstance" p) [a, .Name T q] [] pos) (tz X.K X.mg Wx va fun r => bnd (ma r) fun x => ofO (iscD T ns x)) := by
  refine PE.imp (pe_callB call_isX hg hm (by decide +kernel) (pa_cons ha (pa_cons hv pa_nil) (star_ok hn)) (by decide) (by decide) (star_ok hn)) fun σ H Q ⟨W, F, st, r, sr, re, p⟩ => ?_
  refine tz_use sr re p fun x s1 w W1 F1 H1 sr1 e1 rx p1 => ?_
  cases x <;> first | exact False.elim p1 | skip
  rename_i c fs
  by_cases hc : ns.contains c = true
  · have e : iscD T ns (.exn c fs) = some (.bl (isub c T)) := if_pos hc
    rw [e] at p1
    rw [Rep] at rx
    obtain ⟨b, d, rfl, hb, hd⟩ := rx
    have hc' : c ∈ ns := by simpa using hc
    exact ⟨b, _, d, v, cv, _, rfl, sr1.sub _ _ hb, hd.imp (fun z => z.2) (fun ⟨dx, gs, z1, z2, _⟩ => ⟨dx, gs, z1, sr1.sub _ _ z2⟩), hcls c hc', hcv, hk c hc', Pst.fin (d := .bl (isub c T)) sr1 p1 (by rw [Rep])⟩
  · have e : iscD T ns (.exn c fs) = none := if_neg hc
    rw [e] at p1; exact False.elim p1
theorem s_fld {f : Str} (hcls : ∀ c ∈ ns, ExcC X.K (He.ga X.K c)) (hno : ∀ c ∈ ns, ∀ fs, exTab.lookup c = some fs → ∀ f ∈ fs, PySem.W.findIn X.K (.ref (He.ga X.K c)) f = some none) (hb : notCallN a = true) (ha : PE X a (tz X.K X.mg Wx va ma)) :
    PE X (.Attribute a f pos) (tz X.K X.mg Wx va fun r => bnd (ma r) fun x => ofO (fldD f ns x)) := by
  refine PE.imp (pe_fldX ha (base_ok hb)) fun σ H Q ⟨W, F, st, r, sr, re, p⟩ => ?_
  refine tz_use sr re p fun x s1 w W1 F1 H1 sr1 e1 rx p1 => ?_
  cases x <;> first | exact False.elim p1 | skip
  rename_i c fs
  by_cases hc : (ns.contains c && ((exTab.lookup c).getD []).contains f) = true
  · have e : fldD f ns (.exn c fs) = fs.lookup f := if_pos hc
    rw [e] at p1
    rw [Rep] at rx
    obtain ⟨b, d, rfl, hb, hd⟩ := rx
    rw [Bool.and_eq_true] at hc
    have hc' : c ∈ ns := by simpa using hc.1
    cases hl : fs.lookup f with
    | none => rw [hl] at p1; exact False.elim p1
    | some x =>
      rw [hl] at p1
      rcases hd with ⟨rfl, _⟩ | ⟨dx, gs, rfl, z2, rf⟩
      · cases hl
      · obtain ⟨u, h1, h2⟩ := rf.lookup hl
        have hf : PySem.W.findIn X.K (.ref (He.ga X.K c)) f = some none := by
          cases hx : exTab.lookup c with
          | none => rw [hx] at hc; exact absurd hc.2 (by simp)
          | some fl => rw [hx] at hc; exact hno c hc' fl hx f (by simpa using hc.2)
        exact ⟨b, _, dx, gs, u, rfl, sr1.sub _ _ hb, hcls c hc', hf, sr1.sub _ _ z2, h1, Pst.fin (d := x) sr1 p1 h2⟩
  · have e : fldD f ns (.exn c fs) = none := if_neg hc
    rw [e] at p1; exact False.elim p1
end
end Z
set_option Elab.async false
set_option linter.all false
set_option maxRecDepth 100000
set_option maxHeartbeats 2000000
namespace Z
open PySem PySem.Spec PyProof.Rows L2 TL

structure Gb (P : Program) (w : World) (K : PySem.W.Frag) (mg : Str → Option Value) (base : Heap) (A : Around) (kk : Nat) (c : Cal) (k : Cc) : Prop where
  room : Rg kk A
  bi : ∀ x ∈ bNames, mg x = none
  gl : ∀ x d, k.gl.lookup x = some d → ∃ u v, mg x = some u ∧ RelV v u ∧ ∀ W, Rep K W d v
  fn : ∀ f, k.fns.contains f = true → FnZ P w K mg base kk (c f) f
  fnN : ∀ f, k.nfs.contains f = true → FnN P w K mg base kk (c f) f
  xs : ∀ n ∈ k.xcs, ∃ fs, exTab.lookup n = some fs ∧ XcOk P w K mg base n fs
  xv : ∀ n ∈ k.xcs, PySem.W.kitOne K (.ref (He.ga K n)) (.type "ValueError") = some true
  xp : ∀ n ∈ k.xcs, ∀ m ∈ k.xcs, PySem.W.kitOne K (.ref (He.ga K n)) (.ref (He.ga K m)) = some (isub n m) ∧ PySem.W.exmOne K (.ref (He.ga K n)) (.ref (He.ga K m)) = some (isub n m)
  rx : k.xcs = [] ∨ 2 ≤ kk
structure Fz (X : Cx) (k : Cc) (sc : Scope) (Wx : WX) : Prop where
  N : X.N = k.N
  nd : X.N.Nodup
  sc : X.env.scope = sc
  calm : X.calm = true
  tk : Takes X Wx
def Ok2 (X : Cx) (Wx : WX) (c : Cal) (e : Expr) (m : E) : Prop := PE X e (tz X.K X.mg Wx (vars m) (ev c m)) ∧ PT X e (tzT X Wx (vars m) (ev c m))

theorem mapO_cons {α β : Type} {f : α → Option β} {a : α} {r : List α} {bs : List β} (h : mapO f (a :: r) = some bs) : ∃ b cs, f a = some b ∧ mapO f r = some cs ∧ bs = b :: cs := by
  unfold mapO at h
  rw [Option.bind_eq_some_iff] at h
  obtain ⟨b, e, h⟩ := h
  rw [Option.map_eq_some_iff] at h
  obtain ⟨cs, e2, rfl⟩ := h
  exact ⟨b, cs, e, e2, rfl⟩
theorem mapO_len {α β : Type} {f : α → Option β} : ∀ {l : List α} {bs : List β}, mapO f l = some bs → bs.length = l.length
  | [], _, h => by cases h; rfl
  | a :: r, _, h => by
    obtain ⟨b, cs, _, h2, rfl⟩ := mapO_cons h
    simp [mapO_len h2]
theorem comp_star {k : Cc} {n : Nat} {sc : Scope} {e : Expr} {m : E} (h : comp k n sc e = some m) : notStar e = true := by
  cases e <;> first | rfl | skip
  have e0 : ∀ n v p, comp k n sc (.Starred v p) = none := fun n v p => by cases n <;> rfl
  rw [e0] at h; cases h
theorem mapO_star {k : Cc} {n : Nat} {sc : Scope} : ∀ {es : List Expr} {ms : List E}, mapO (comp k n sc) es = some ms → es.all notStar = true
  | [], _, _ => rfl
  | e :: es, _, h => by
    obtain ⟨b, cs, h1, h2, rfl⟩ := mapO_cons h
    rw [List.all_cons, comp_star h1, mapO_star h2]; rfl
theorem bnd_ok {α β : Type} {m : M α} {f : α → M β} {st st' : Sto} {b : β} (h : bnd m f st = .ok b st') : ∃ a s1, m st = .ok a s1 ∧ f a s1 = .ok b st' := by
  unfold bnd at h
  split at h
  · rename_i a s1 e
    exact ⟨a, s1, e, h⟩
  · cases h
  · cases h
theorem evs_len {c : Cal} : ∀ {ms : List E} {r : Ev} {st st' : Sto} {ds : List D}, evs c ms r st = .ok ds st' → ds.length = ms.length
  | [], r, st, st', ds, h => by rw [evs] at h; cases h; rfl
  | m :: ms, r, st, st', ds, h => by
    rw [evs] at h
    obtain ⟨d, s1, _, h⟩ := bnd_ok h
    obtain ⟨ds', s2, h2, h⟩ := bnd_ok h
    cases h
    simp [evs_len h2]
theorem lastM {o p : CmpOp} {b d : Expr} (hd : notSet d = true) : lastMarks [o, p] [b, d] = false := by
  show behindInMarks p d = false
  cases d <;> first | rfl | cases hd
theorem markB {o : CmpOp} {b : Expr} (hd : notSet b = true) : behindInMarks o b = false := by
  cases b <;> first | rfl | cases hd
theorem vis_ok {sc : Scope} {x : Str} (h : visB sc x = true) : Vis sc x := by
  unfold visB at h
  unfold Vis
  split at h
  · rename_i e; exact .inl e
  · rename_i e; exact .inr (.inl e)
  · rename_i e; exact .inr (.inr e)
  · cases h
theorem glo_ok {sc : Scope} {x : Str} (h : gloB sc x = true) : sc.names.lookup x = some .globalImplicit := by
  unfold gloB at h
  split at h
  · rename_i e; exact e
  · cases h
section
variable {X : Cx} {Wx : WX} {c : Cal} {a b d e : Expr} {ma mb md : E} {pos : Pos} {es : List Expr} {va vb vd : List Nat} {fa fb fd : Ev → M D}
theorem pt_of (h : PE X e (tz X.K X.mg Wx va fa)) (he : ∀ whole, isTrue e X.env whole = (do let v ← whole; standAt e.pos; holding [v] (truthy v))) : PT X e (tzT X Wx va fa) := pt_val h he
theorem cmp_key {o : Cop} {σ : L2.St} {H : Hp} {Q : VK} (h : tz X.K X.mg Wx (va ++ vb) (fun r => bnd (fa r) fun x => bnd (fb r) fun y => bnd (cmpM o x y) fun t => ret (.bl t)) σ H Q) :
    tOp (rC X o) (tz X.K X.mg Wx va fa) (tz X.K X.mg Wx vb fb) σ H Q := by
  obtain ⟨W, F, st, r, sr, re, p⟩ := h
  exact tz_use sr re.fst p fun x s1 v W1 F1 H1 sr1 e1 rx p1 => tz_use sr1 (re.snd.mono e1.le) p1 fun y s2 u W2 F2 H2 sr2 e2 ry p2 => by
      obtain ⟨t, e, p3⟩ := cmpM_use p2
      exact ⟨x, y, W2, F2, s2, t, sr2, rx.mono e2.le, ry, e, p3.fin sr2 (by rw [Rep])⟩
theorem chn_key {o o' : Cop} {σ : L2.St} {H : Hp} {Q : VK} (h : tz X.K X.mg Wx (va ++ (vb ++ vd)) (fun r => bnd (fa r) fun x => bnd (fb r) fun y => bnd (cmpM o x y) fun t =>
      if t then bnd (fd r) fun z => bnd (cmpM o' y z) fun t' => ret (.bl t') else ret (.bl false)) σ H Q) :
    tChain (rC X o) (rC X o') (tz X.K X.mg Wx va fa) (tz X.K X.mg Wx vb fb) (tz X.K X.mg Wx vd fd) σ H Q := by
  obtain ⟨W, F, st, r, sr, re, p⟩ := h
  exact tz_use sr re.fst p fun x s1 v W1 F1 H1 sr1 e1 rx p1 => tz_use sr1 (re.snd.fst.mono e1.le) p1 fun y s2 u W2 F2 H2 sr2 e2 ry p2 => by
      obtain ⟨t, e, p3⟩ := cmpM_use p2
      refine ⟨x, y, W2, F2, s2, t, sr2, rx.mono e2.le, ry, e, t, rfl, ?_⟩
      cases t with
      | true =>
        refine tz_use sr2 (re.snd.snd.mono (e1.le.trans e2.le)) p3 fun z s3 w W3 F3 H3 sr3 e3 rz p4 => ?_
        obtain ⟨t', e', p5⟩ := cmpM_use p4
        exact ⟨y, z, W3, F3, s3, t', sr3, ry.mono e3.le, rz, e', p5.fin sr3 (by rw [Rep])⟩
      | false => exact p3.fin sr2 (by rw [Rep])
theorem t_cmp (hu : X.A.units + 64 < cLine) (o : Cop) (hm : behindInMarks (pyC o) b = false) (ha : PE X a (tz X.K X.mg Wx va fa)) (hb : PE X b (tz X.K X.mg Wx vb fb)) :
    PT X (.Compare a [pyC o] [b] pos) (tzT X Wx (va ++ vb) fun r => bnd (fa r) fun x => bnd (fb r) fun y => bnd (cmpM o x y) fun t => ret (.bl t)) :=
  PT.imp (pt_cmpR (opC hu o) ha hb hm) fun σ H Q h => cmp_key h
theorem t_chn (hu : X.A.units + 64 < cLine) (o o' : Cop) (hm : lastMarks [pyC o, pyC o'] [b, d] = false) (ha : PE X a (tz X.K X.mg Wx va fa)) (hb : PE X b (tz X.K X.mg Wx vb fb)) (hd : PE X d (tz X.K X.mg Wx vd fd)) :
    PT X (.Compare a [pyC o, pyC o'] [b, d] pos) (tzT X Wx (va ++ (vb ++ vd)) fun r => bnd (fa r) fun x => bnd (fb r) fun y => bnd (cmpM o x y) fun t =>
      if t then bnd (fd r) fun z => bnd (cmpM o' y z) fun t' => ret (.bl t') else ret (.bl false)) :=
  PT.imp (pt_chain (opC hu o) (opC hu o') ha hb hd hm) fun σ H Q h => chn_key h
theorem t_not (ha : PT X a (tzT X Wx va fa)) : PT X (.UnaryOp .Not a pos) (tzT X Wx va fun r => bnd (fa r) fun x => match x with | .bl i => ret (.bl (!i)) | _ => stk) :=
  PT.imp (pt_not ha) fun σ H Q ⟨W, F, st, r, sr, re, p⟩ =>
    tz_use sr re p fun x s1 v W1 F1 H1 sr1 e1 rx p1 => by
      cases x <;> first | exact False.elim p1 | skip
      rw [Rep] at rx; subst rx
      obtain ⟨cc, e, q⟩ := Pst.fin (d := .bl (!_)) sr1 p1 (by rw [Rep])
      cases e
      exact ⟨_, rfl, q⟩
theorem t_ite (ht : PT X d (tzT X Wx vd fd)) (ha : PT X a (tzT X Wx va fa)) (hb : PT X b (tzT X Wx vb fb)) :
    PT X (.IfExp d a b pos) (tzT X Wx (vd ++ (va ++ vb)) fun r => bnd (fd r) fun x => match x with | .bl true => fa r | .bl false => fb r | _ => stk) := by
  refine ⟨fun pins s σ H Q I h => ?_⟩
  obtain ⟨W, F, st, r, sr, re, p⟩ := h
  show wpAny _ _ (do if ← isTrue d X.env (eval d X.env) then isTrue a X.env (eval a X.env) else isTrue b X.env (eval b X.env)) _ _ s
  refine wpAny_bind (thn (ht.run pins s σ H (fun t H1 => if t = true then tzT X Wx va fa σ H1 Q else tzT X Wx vb fb σ H1 Q) I ?_) fun t s1 ⟨H1, I1, q⟩ => ?_)
  · refine tz_use sr re.fst p fun x s1 v W1 F1 H1 sr1 e1 rx p1 => ?_
    cases x <;> first | exact False.elim p1 | skip
    rename_i t
    rw [Rep] at rx; subst rx
    refine ⟨t, rfl, ?_⟩
    cases t with
    | true => rw [if_pos rfl]; exact ⟨W1, F1, s1, r, sr1, re.snd.fst.mono e1.le, p1⟩
    | false => rw [if_neg (by decide)]; exact ⟨W1, F1, s1, r, sr1, re.snd.snd.mono e1.le, p1⟩
  · cases t with
    | true => exact ha.run pins s1 σ H1 Q I1 q
    | false => exact hb.run pins s1 σ H1 Q I1 q
/-- and, or -/
theorem and_ok : ∀ {es : List Expr} {ms : List E} {m : E}, List.length ms = es.length → andL ms = some m → (∀ (i : Nat) e m', es[i]? = some e → ms[i]? = some m' → Ok2 X Wx c e m') →
    PE X (.BoolOp .And es pos) (tz X.K X.mg Wx (vars m) (ev c m)) ∧ PW X (.BoolOp .And es pos) (tzT X Wx (vars m) (ev c m))
  | [], ms, m, hl, h, _ => by
    cases ms with
    | nil => cases h
    | cons _ _ => simp at hl
  | [e], ms, m, hl, h, hk => by
    cases ms with
    | nil => simp at hl
    | cons m1 r =>
      cases r with
      | nil =>
        obtain rfl : m1 = m := Option.some.inj h
        obtain ⟨h1, h2⟩ := hk 0 e m1 rfl rfl
        exact ⟨pe_one h1, pw_and1 h2⟩
      | cons _ _ => simp at hl
  | e :: e2 :: r, ms, m, hl, h, hk => by
    cases ms with
    | nil => simp at hl
    | cons m1 mr =>
      cases mr with
      | nil => simp at hl
      | cons m2 mr =>
        have h : (andL (m2 :: mr)).map (E.and m1) = some m := h
        rw [Option.map_eq_some_iff] at h
        obtain ⟨m3, h3, rfl⟩ := h
        obtain ⟨h1, h2⟩ := hk 0 e m1 rfl rfl
        obtain ⟨q1, q2⟩ := and_ok (es := e2 :: r) (by simpa using hl) h3 fun i e m' a1 a2 => hk (i + 1) e m' (by simpa using a1) (by simpa using a2)
        refine ⟨?_, PW.imp (pw_and h2 q2) fun σ H Q h => ?_⟩
        · rw [vars, show ev c (.and m1 m3) = _ from by funext r; rw [ev]]
          exact s_and h1 q1
        · rw [vars, show ev c (.and m1 m3) = _ from by funext r; rw [ev]] at h
          obtain ⟨W, F, st, r, sr, re, p⟩ := h
          refine tz_use sr re.fst p fun x s1 v W1 F1 H1 sr1 e1 rx p1 => ?_
          cases x <;> first | exact False.elim p1 | skip
          rename_i t
          rw [Rep] at rx; subst rx
          refine ⟨t, rfl, ?_⟩
          cases t with
          | true => exact ⟨W1, F1, s1, r, sr1, re.snd.mono e1.le, p1⟩
          | false =>
            obtain ⟨cc, e, q⟩ := Pst.fin (d := .bl false) sr1 p1 (by rw [Rep])
            cases e
            exact q
theorem or_ok : ∀ {es : List Expr} {ms : List E} {m : E}, List.length ms = es.length → orL ms = some m → (∀ (i : Nat) e m', es[i]? = some e → ms[i]? = some m' → Ok2 X Wx c e m') →
    PE X (.BoolOp .Or es pos) (tz X.K X.mg Wx (vars m) (ev c m)) ∧ PW X (.BoolOp .Or es pos) (tzT X Wx (vars m) (ev c m))
  | [], ms, m, hl, h, _ => by
    cases ms with
    | nil => cases h
    | cons _ _ => simp at hl
  | [e], ms, m, hl, h, hk => by
    cases ms with
    | nil => simp at hl
    | cons m1 r =>
      cases r with
      | nil =>
        obtain rfl : m1 = m := Option.some.inj h
        obtain ⟨h1, h2⟩ := hk 0 e m1 rfl rfl
        exact ⟨pe_one h1, pw_or1 h2⟩
      | cons _ _ => simp at hl
  | e :: e2 :: r, ms, m, hl, h, hk => by
    cases ms with
    | nil => simp at hl
    | cons m1 mr =>
      cases mr with
      | nil => simp at hl
      | cons m2 mr =>
        have h : (orL (m2 :: mr)).map (E.or m1) = some m := h
        rw [Option.map_eq_some_iff] at h
        obtain ⟨m3, h3, rfl⟩ := h
        obtain ⟨h1, h2⟩ := hk 0 e m1 rfl rfl
        obtain ⟨q1, q2⟩ := or_ok (es := e2 :: r) (by simpa using hl) h3 fun i e m' a1 a2 => hk (i + 1) e m' (by simpa using a1) (by simpa using a2)
        refine ⟨?_, PW.imp (pw_or h2 q2) fun σ H Q h => ?_⟩
        · rw [vars, show ev c (.or m1 m3) = _ from by funext r; rw [ev]]
          exact s_or h1 q1
        · rw [vars, show ev c (.or m1 m3) = _ from by funext r; rw [ev]] at h
          obtain ⟨W, F, st, r, sr, re, p⟩ := h
          refine tz_use sr re.fst p fun x s1 v W1 F1 H1 sr1 e1 rx p1 => ?_
          cases x <;> first | exact False.elim p1 | skip
          rename_i t
          rw [Rep] at rx; subst rx
          refine ⟨t, rfl, ?_⟩
          cases t with
          | false => exact ⟨W1, F1, s1, r, sr1, re.snd.mono e1.le, p1⟩
          | true =>
            obtain ⟨cc, e, q⟩ := Pst.fin (d := .bl true) sr1 p1 (by rw [Rep])
            cases e
            exact q
theorem args_ok {k : Cc} {n : Nat} {sc : Scope} (ih : ∀ e m, comp k n sc e = some m → Ok2 X Wx c e m) : ∀ {es : List Expr} {ms : List E}, mapO (comp k n sc) es = some ms → PA X es (tzs X.K X.mg Wx (varss ms) (evs c ms))
  | [], _, h => by
    cases h
    rw [varss, show evs c [] = _ from by funext r; rw [evs]]
    exact s_nil
  | e :: es, _, h => by
    obtain ⟨m, ms, h1, h2, rfl⟩ := mapO_cons h
    rw [varss, show evs c (m :: ms) = _ from by funext r; rw [evs]]
    exact s_cons (comp_star h1) (ih e m h1).1 (args_ok ih h2)
/-- the pairs of a display -/
theorem pairs_ok {k : Cc} {n : Nat} {sc : Scope} (ih : ∀ e m, comp k n sc e = some m → Ok2 X Wx c e m) : ∀ {keys : List (Option Expr)} {values : List Expr} {ks : List Key} {ms : List E}, mapO keyE keys = some ks → mapO (comp k n sc) values = some ms → keys.length = values.length →
    ∃ trs, PPs X pos keys values trs ∧ ∀ σ H Q, tzs X.K X.mg Wx (varss ms) (evs c ms) σ H (fun us H2 => Q ((ks.zip us).map fun kv => (kV kv.1, kv.2)) H2) → tPairs trs σ H Q
  | [], [], _, _, h1, h2, _ => by
    cases h1; cases h2
    exact ⟨[], pps_nil, fun σ H Q ⟨W, F, st, r, sr, re, p⟩ => by
      rw [evs] at p
      exact p [] W F H sr .refl (by rw [Reps])⟩
  | [], _ :: _, _, _, _, _, h => by simp at h
  | _ :: _, [], _, _, _, _, h => by simp at h
  | o :: keys, e :: values, ks, ms, h1, h2, hl => by
    obtain ⟨key, kr, q1, q2, rfl⟩ := mapO_cons h1
    obtain ⟨m, mr, q3, q4, rfl⟩ := mapO_cons h2
    obtain ⟨trs, p1, p2⟩ := pairs_ok ih q2 q4 (by simpa using hl)
    have hm := (ih _ _ q3).1
    have fin : ∀ σ H Q, tzs X.K X.mg Wx (varss (m :: mr)) (evs c (m :: mr)) σ H (fun us H2 => Q (((key :: kr).zip us).map fun kv => (kV kv.1, kv.2)) H2) → tPairs ((tC (kV key), tz X.K X.mg Wx (vars m) (ev c m)) :: trs) σ H Q := fun σ H Q ⟨W, F, st, r, sr, re, p⟩ => by
      rw [evs] at p
      rw [varss] at re
      refine tz_useS sr re.fst p fun x s1 v W1 F1 H1 sr1 e1 rx p3 => p2 σ H1 _ (tzs_useS sr1 (re.snd.mono e1.le) p3 fun ds s2 us W2 F2 H2 sr2 e2 ry p4 => ?_)
      exact p4 (v :: us) W2 F2 H2 sr2 .refl (by rw [Reps]; exact ⟨v, us, rfl, rx.mono e2.le, ry⟩)
    unfold keyE at q1
    split at q1
    · cases q1; exact ⟨_, pps_cons pe_str hm p1, fin⟩
    · cases q1; exact ⟨_, pps_cons pe_int hm p1, fin⟩
    · cases q1
end
end Z
set_option Elab.async false
set_option linter.all false
set_option maxRecDepth 100000
set_option maxHeartbeats 4000000
namespace Z
open PySem PySem.Spec PyProof.Rows L2 TL

theorem idx_lt {x : Str} {N : List Str} {i : Nat} (h : idx x N = some i) : i < N.length := (List.getElem?_eq_some_iff.mp (idx_ok h)).1
mutual
theorem tg_ok {X : Cx} {k : Cc} {sc : Scope} (hN : X.N = k.N) (nd : X.N.Nodup) (hs : X.env.scope = sc) (hc : X.calm = true) {cl : Bool} (hcl : cl = true → ∀ x, X.fn x = true) : ∀ (n : Nat) (e : Expr) (t : Tg), compTg k sc cl n e = some t → PG X e (gz X.K t) ∧ (∀ i ∈ tgs t, i < X.N.length) ∧ notStar e = true
  | 0, _, _, h => by rw [compTg] at h; cases h
  | n + 1, e, t, h => by
    unfold compTg at h
    split at h
    · cases h
    · rename_i heq; cases heq
      split at h
      · rename_i hl
        rw [Option.map_eq_some_iff] at h
        obtain ⟨i, h, rfl⟩ := h
        have hl2 := hl
        rw [← hs] at hl2
        exact ⟨tg_name nd (by rw [hN]; exact idx_ok h) (.inl hl2) (.inr hl2), fun j hj => by
          have : j = i := by simpa [tgs] using hj
          rw [this, hN]; exact idx_lt h, rfl⟩
      · rename_i hl
        split at h
        · rename_i hcl'
          rw [Option.map_eq_some_iff] at h
          obtain ⟨i, h, rfl⟩ := h
          exact ⟨tg_name nd (by rw [hN]; exact idx_ok h) (.inr (by rw [hs]; exact hl)) (.inl (hcl hcl' _)), fun j hj => by
            have : j = i := by simpa [tgs] using hj
            rw [this, hN]; exact idx_lt h, rfl⟩
        · cases h
      · cases h
    · rename_i heq; cases heq
      rw [Option.map_eq_some_iff] at h
      obtain ⟨ts, h, rfl⟩ := h
      obtain ⟨h1, h2, h3, h4, h5⟩ := tgs_ok hN nd hs hc hcl n _ ts h
      exact ⟨tg_tup hc h1 h3 (h4 X.env) (h5 X.env), fun j hj => h2 j (by rw [tgs] at hj; exact hj), rfl⟩
    · cases h
theorem tgs_ok {X : Cx} {k : Cc} {sc : Scope} (hN : X.N = k.N) (nd : X.N.Nodup) (hs : X.env.scope = sc) (hc : X.calm = true) {cl : Bool} (hcl : cl = true → ∀ x, X.fn x = true) : ∀ (n : Nat) (es : List Expr) (ts : List Tg), compTgs k sc cl n es = some ts → PGs X es (gzs X.K ts) ∧ (∀ i ∈ tgss ts, i < X.N.length) ∧ es.length = ts.length ∧
    (∀ env, (assignEach es env).length = es.length) ∧ ∀ env, (assignEach es env).findIdx? (·.1) = none
  | 0, _, _, h => by rw [compTgs] at h; cases h
  | n + 1, es, ts, h => by
    unfold compTgs at h
    split at h
    · cases h
    · cases h
      exact ⟨tgs_nil, fun _ z => by simp [tgss] at z, rfl, fun _ => rfl, fun _ => rfl⟩
    · rename_i heq; cases heq
      rw [Option.bind_eq_some_iff] at h
      obtain ⟨t, h1, h⟩ := h
      rw [Option.map_eq_some_iff] at h
      obtain ⟨ts', h2, rfl⟩ := h
      obtain ⟨a1, a2, a3⟩ := tg_ok hN nd hs hc hcl n _ t h1
      obtain ⟨b1, b2, b3, b4, b5⟩ := tgs_ok hN nd hs hc hcl n _ ts' h2
      rename_i e es
      have ae : ∀ env, assignEach (e :: es) env = (false, assign e env) :: assignEach es env := fun env => by cases e <;> first | rfl | cases a3
      refine ⟨tgs_cons a1 b1 (by rw [ae]; rfl), fun j hj => ?_, by simp [b3], fun env => by rw [ae]; simp [b4 env], fun env => ?_⟩
      · rw [tgss] at hj
        rcases List.mem_append.mp hj with z | z
        · exact a2 j z
        · exact b2 j z
      · rw [ae, List.findIdx?_cons, b5 env]; rfl
end
mutual
theorem tg_lt {k : Cc} {sc : Scope} {cl : Bool} : ∀ (n : Nat) (e : Expr) (t : Tg), compTg k sc cl n e = some t → ∀ i ∈ tgs t, i < k.N.length
  | 0, _, _, h => by rw [compTg] at h; cases h
  | n + 1, e, t, h => by
    unfold compTg at h
    split at h
    · cases h
    · rename_i heq; cases heq
      split at h
      · rw [Option.map_eq_some_iff] at h
        obtain ⟨i, h, rfl⟩ := h
        intro j hj
        have : j = i := by simpa [tgs] using hj
        rw [this]; exact idx_lt h
      · split at h
        · rw [Option.map_eq_some_iff] at h
          obtain ⟨i, h, rfl⟩ := h
          intro j hj
          have : j = i := by simpa [tgs] using hj
          rw [this]; exact idx_lt h
        · cases h
      · cases h
    · rename_i heq; cases heq
      rw [Option.map_eq_some_iff] at h
      obtain ⟨ts, h, rfl⟩ := h
      intro j hj
      rw [tgs] at hj
      exact tgs_lt n _ ts h j hj
    · cases h
theorem tgs_lt {k : Cc} {sc : Scope} {cl : Bool} : ∀ (n : Nat) (e : List Expr) (t : List Tg), compTgs k sc cl n e = some t → ∀ i ∈ tgss t, i < k.N.length
  | 0, _, _, h => by rw [compTgs] at h; cases h
  | n + 1, es, ts, h => by
    unfold compTgs at h
    split at h
    · cases h
    · cases h
      intro j hj; simp [tgss] at hj
    · rename_i heq; cases heq
      rw [Option.bind_eq_some_iff] at h
      obtain ⟨t, h1, h⟩ := h
      rw [Option.map_eq_some_iff] at h
      obtain ⟨ts', h2, rfl⟩ := h
      intro j hj
      rw [tgss] at hj
      rcases List.mem_append.mp hj with z | z
      · exact tg_lt n _ t h1 j z
      · exact tgs_lt n _ ts' h2 j z
end
theorem blk_fz {X : Cx} {k : Cc} {sc : Scope} {Wx : WX} (f : Fz X k sc Wx) (s : Shared) (H : Hp) (scope : Scope) (C : Addr) (cl : List (Str × Addr)) (fp : List Addr) : Fz (X.blk s H scope (compEnvC scope cl C X.env) fp) k (relS scope sc) Wn :=
  ⟨f.N, f.nd, by rw [← f.sc]; rfl, f.calm, takes0⟩
theorem folded_ok {e : Expr} {env : Env} (h : notSet e = true) : ∀ x, foldedSetIterable e env x = pure x := by
  intro x
  cases e <;> first | rfl | cases h
theorem biN {X : Cx} {kk : Nat} {c : Cal} {k : Cc} (g : Gb X.prog X.w X.K X.mg X.base X.A kk c k) {x : Str} (h : bNames.contains x = true) : X.mg x = none := g.bi x (by simpa using h)
theorem biOf_in {x : Str} {b : Bi} (h : biOf x = some b) : bNames.contains x = true := by
  have key : ∀ p ∈ biTab, bNames.contains p.1 = true := by decide +kernel
  exact key _ (lookup_mem' h)
theorem tyOf_in {x : Str} {b : Ty} (h : tyOf x = some b) : bNames.contains x = true := by
  have key : ∀ p ∈ tyTab, bNames.contains p.1 = true := by decide +kernel
  exact key _ (lookup_mem' h)
theorem mk2 {X : Cx} {Wx : WX} {c : Cal} {e : Expr} {m : E} {va : List Nat} {fa : Ev → M D} (hv : vars m = va) (he : ∀ r, ev c m r = fa r) (p : PE X e (tz X.K X.mg Wx va fa))
    (hT : ∀ whole, isTrue e X.env whole = (do let v ← whole; standAt e.pos; holding [v] (truthy v))) : Ok2 X Wx c e m := by
  have e0 : ev c m = fa := funext he
  unfold Ok2
  rw [hv, e0]
  exact ⟨p, pt_val p hT⟩
theorem mk2' {X : Cx} {Wx : WX} {c : Cal} {e : Expr} {m : E} {va : List Nat} {fa : Ev → M D} (hv : vars m = va) (he : ∀ r, ev c m r = fa r) (p : PE X e (tz X.K X.mg Wx va fa))
    (q : PT X e (tzT X Wx va fa)) : Ok2 X Wx c e m := by
  have e0 : ev c m = fa := funext he
  unfold Ok2
  rw [hv, e0]
  exact ⟨p, q⟩
theorem hk_of {X : Cx} {Wx : WX} {c : Cal} {k : Cc} {n : Nat} {sc : Scope} (ih : ∀ e m, comp k n sc e = some m → Ok2 X Wx c e m) : ∀ {es : List Expr} {ms : List E}, mapO (comp k n sc) es = some ms →
    ∀ (i : Nat) e m', es[i]? = some e → ms[i]? = some m' → Ok2 X Wx c e m'
  | [], _, _, i, _, _, h, _ => by simp at h
  | e :: es, _, h, i, e', m', h1, h2 => by
    obtain ⟨b, cs, q1, q2, rfl⟩ := mapO_cons h
    cases i with
    | zero => simp at h1 h2; subst h1 h2; exact ih _ _ q1
    | succ i => exact hk_of ih q2 i e' m' (by simpa using h1) (by simpa using h2)
theorem pi_ok0 {X : Cx} {k : Cc} {sc : Scope} {Wx : WX} {c : Cal} {kk n : Nat} (g : Gb X.prog X.w X.K X.mg X.base X.A kk c k) (f : Fz X k sc Wx) (ih : ∀ e m, comp k n sc e = some m → Ok2 X Wx c e m) {tg iter : Expr} {it : E} (hit : compI (comp k n sc) sc tg iter = some it) :
    PI X tg iter (tzi X.K X.mg Wx (vars it) (ev c it)) := by
  have hgl : ∀ x, gloB sc x = true → Gl X x := fun x hx => by
    show X.env.scope.names.lookup x = _
    rw [f.sc]; exact glo_ok hx
  unfold compI at hit
  split at hit
  · split at hit
    · rename_i hr
      subst hr
      split at hit
      · rename_i hg
        rw [Bool.and_eq_true] at hg
        rw [Option.map_eq_some_iff] at hit
        obtain ⟨y, hy, rfl⟩ := hit
        rw [vars, varss, varss, show ev c (.bi .range [y]) = _ from by funext r; rw [ev, evs, evs]]
        exact i_rng1 (hgl _ hg.1) (biN g (by decide +kernel)) hg.2 (ih _ _ hy).1
      · cases hit
    · split at hit
      · rename_i hr
        subst hr
        split at hit
        · rename_i hg
          simp only [Bool.and_eq_true] at hg
          rw [Option.map_eq_some_iff] at hit
          obtain ⟨y, hy, rfl⟩ := hit
          rw [vars, varss, varss, show ev c (.bi .enumerate [y]) = _ from by funext r; rw [ev, evs, evs]]
          cases tg <;> first | (cases hg.2; done) | skip
          exact i_enum (hgl _ hg.1.1) (biN g (by decide +kernel)) hg.1.2 (ih _ _ hy).1
        · cases hit
      · exact i_val (ih _ _ hit).1
  · split at hit
    · rename_i hr
      subst hr
      split at hit
      · rename_i hg
        rw [Bool.and_eq_true, Bool.and_eq_true] at hg
        simp only [Option.bind_eq_some_iff, Option.map_eq_some_iff] at hit
        obtain ⟨y, hy, z, hz, rfl⟩ := hit
        rw [vars, varss, varss, varss, show ev c (.bi .range [y, z]) = _ from by funext r; rw [ev, evs, evs, evs]]
        exact i_rng2 (hgl _ hg.1.1) (biN g (by decide +kernel)) hg.1.2 hg.2 (ih _ _ hy).1 (ih _ _ hz).1
      · cases hit
    · split at hit
      · rename_i hr
        subst hr
        split at hit
        · rename_i hg
          simp only [Bool.and_eq_true] at hg
          simp only [Option.bind_eq_some_iff, Option.map_eq_some_iff] at hit
          obtain ⟨y, hy, z, hz, rfl⟩ := hit
          rw [vars, varss, varss, varss, show ev c (.bi .zip [y, z]) = _ from by funext r; rw [ev, evs, evs, evs]]
          cases tg <;> first | (cases hg.2; done) | skip
          exact i_zip (hgl _ hg.1.1.1) (biN g (by decide +kernel)) hg.1.1.2 hg.1.2 (ih _ _ hy).1 (ih _ _ hz).1
        · cases hit
      · exact i_val (ih _ _ hit).1
  · exact i_val (ih _ _ hit).1
theorem lrng_ok {X : Cx} {k : Cc} {sc : Scope} {Wx : WX} {c : Cal} {kk n : Nat} {p pos : Pos} (g : Gb X.prog X.w X.K X.mg X.base X.A kk c k) (f : Fz X k sc Wx) (hgl0 : gloB sc "list" = true) (ih : ∀ e m, comp k n sc e = some m → Ok2 X Wx c e m) {args : List Expr} {it : E} (h : lRng (comp k n sc) sc args = some it) :
    PE X (.Call (.Name "list" p) args [] pos) (tzN X.K X.mg Wx (vars it) (ev c it)) ∧ True := by
  have hgl : ∀ x, gloB sc x = true → Gl X x := fun x hx => by
    show X.env.scope.names.lookup x = _
    rw [f.sc]; exact glo_ok hx
  refine ⟨?_, trivial⟩
  unfold lRng at h
  split at h
  · split at h
    · rename_i hg
      simp only [Bool.and_eq_true, decide_eq_true_eq] at hg
      obtain ⟨⟨rfl, hg1⟩, hg2⟩ := hg
      rw [Option.map_eq_some_iff] at h
      obtain ⟨y, hy, rfl⟩ := h
      rw [vars, varss, varss, show ev c (.bi .range [y]) = _ from by funext r; rw [ev, evs, evs]]
      exact n_lrng1 f.calm (hgl _ hgl0) (biN g (by decide +kernel)) (hgl _ hg1) (biN g (by decide +kernel)) hg2 (ih _ _ hy).1
    · cases h
  · split at h
    · rename_i hg
      simp only [Bool.and_eq_true, decide_eq_true_eq] at hg
      obtain ⟨⟨⟨rfl, hg1⟩, hg2⟩, hg3⟩ := hg
      simp only [Option.bind_eq_some_iff, Option.map_eq_some_iff] at h
      obtain ⟨y, hy, z, hz, rfl⟩ := h
      rw [vars, varss, varss, varss, show ev c (.bi .range [y, z]) = _ from by funext r; rw [ev, evs, evs, evs]]
      exact n_lrng2 f.calm (hgl _ hgl0) (biN g (by decide +kernel)) (hgl _ hg1) (biN g (by decide +kernel)) hg2 hg3 (ih _ _ hy).1 (ih _ _ hz).1
    · cases h
  · cases h
theorem x_ok {X : Cx} {k : Cc} {c : Cal} {kk : Nat} {Wx : WX} {n : Str} {p pos : Pos} {e : Expr} {es : List Expr} {vs : List Nat} {ms : Ev → M (List D)} (g : Gb X.prog X.w X.K X.mg X.base X.A kk c k) (hn : n ∈ k.xcs) (hg : Gl X n) (ho : okName n = true) (hall : (e :: es).all notStar = true) (hs : PA X (e :: es) (tzs X.K X.mg Wx vs ms)) :
    PMk X (.Call (.Name n p) (e :: es) [] pos) (tzX X.K X.mg Wx vs fun r => bnd (ms r) fun ds => ofO (mkD n ds)) := by
  obtain ⟨fs, hf, q⟩ := g.xs n hn
  have hr : Room 2 X.A := by
    rcases g.rx with z | z
    · rw [z] at hn; cases hn
    · exact g.room.room.mono z
  exact x_mk q hf hr hg ho hall hs
/-- THE THEOREM: expressions -/
theorem comp_ok : ∀ (n : Nat) (X : Cx) (k : Cc) (sc : Scope) (Wx : WX) (c : Cal) (kk : Nat), Gb X.prog X.w X.K X.mg X.base X.A kk c k → Fz X k sc Wx → ∀ e m, comp k n sc e = some m → Ok2 X Wx c e m
  | 0, _, _, _, _, _, _, _, _, _, _, h => by unfold comp at h; cases h
  | n + 1, X, k, sc, Wx, c, kk, g, f, e, m, h => by
    have ih := comp_ok n X k sc Wx c kk g f
    have hu := g.room.room.units
    have hu1 : X.A.units + 1 < cLine := by omega
    have hgl : ∀ x, gloB sc x = true → Gl X x := fun x hx => by
      show X.env.scope.names.lookup x = _
      rw [f.sc]; exact glo_ok hx
    unfold comp at h
    split at h
    · cases h
      exact mk2 (by rw [vars]) (fun r => by (rw [ev]) <;> rfl) (s_c pe_int (fun W => by rw [Rep])) (by intro _; rfl)
    · cases h
      exact mk2 (by rw [vars]) (fun r => by (rw [ev]) <;> rfl) (s_c pe_bl (fun W => by rw [Rep])) (by intro _; rfl)
    · cases h
      exact mk2 (by rw [vars]) (fun r => by (rw [ev]) <;> rfl) (s_c pe_non (fun W => by rw [Rep])) (by intro _; rfl)
    · split at h
      · rename_i hz
        cases h
        simp only [Bool.and_eq_true, decide_eq_true_eq] at hz
        exact mk2 (by rw [vars]) (fun r => by (rw [ev]) <;> rfl) (s_c pe_str (fun W => by rw [Rep]; exact ⟨rfl, hz⟩)) (by intro _; rfl)
      · cases h
    · split at h
      · rename_i ho
        unfold okName at ho
        simp only [Bool.and_eq_true, Bool.not_eq_true'] at ho
        split at h
        · rename_i i hi
          split at h
          · rename_i hv
            cases h
            exact mk2 (by rw [vars]) (fun r => by (rw [ev]) <;> rfl) (s_v (i := i) (by rw [f.N]; exact idx_ok hi) (by rw [f.sc]; exact vis_ok hv) ho.1.1 ho.1.2) (by intro _; rfl)
          · cases h
        · split at h
          · rename_i hg
            rw [Option.map_eq_some_iff] at h
            obtain ⟨d, h, rfl⟩ := h
            obtain ⟨u, v, h1, h2, h3⟩ := g.gl _ d h
            exact mk2 (by rw [vars]) (fun r => by (rw [ev]) <;> rfl) (s_c (pe_glob (hgl _ hg) h1 h2 ho.1.1) h3) (by intro _; rfl)
          · cases h
      · cases h
    · simp only [Option.bind_eq_some_iff, Option.map_eq_some_iff] at h
      obtain ⟨o', ho, x, hx, y, hy, rfl⟩ := h
      obtain rfl := bopOf_ok ho
      exact mk2 (by rw [vars]) (fun r => by (rw [ev]) <;> rfl) (s_bin o' (ih _ _ hx).1 (ih _ _ hy).1) (by intro _; rfl)
    · simp only [Option.map_eq_some_iff] at h
      obtain ⟨x, hx, rfl⟩ := h
      exact mk2 (by rw [vars]) (fun r => by (rw [ev]) <;> rfl) (s_neg (ih _ _ hx).1) (by intro _; rfl)
    · simp only [Option.map_eq_some_iff] at h
      obtain ⟨x, hx, rfl⟩ := h
      exact mk2' (by rw [vars]) (fun r => by (rw [ev]) <;> rfl) (s_not (ih _ _ hx).1) (t_not (ih _ _ hx).2)
    · split at h
      · rename_i hs
        simp only [Option.bind_eq_some_iff, Option.map_eq_some_iff] at h
        obtain ⟨x, hx, y, hy, rfl⟩ := h
        rename_i a o b pos
        have p := s_cmp (pos := pos) hu (copOf o) (markB hs) (ih _ _ hx).1 (ih _ _ hy).1
        have q := t_cmp (pos := pos) hu (copOf o) (markB hs) (ih _ _ hx).1 (ih _ _ hy).1
        rw [copOf_ok] at p q
        exact mk2' (by rw [vars]) (fun r => by (rw [ev]) <;> rfl) p q
      · cases h
    · split at h
      · rename_i hs
        rw [Bool.and_eq_true] at hs
        simp only [Option.bind_eq_some_iff, Option.map_eq_some_iff] at h
        obtain ⟨x, hx, y, hy, z, hz, rfl⟩ := h
        rename_i a o o' b d pos
        have p := s_chn (pos := pos) hu (copOf o) (copOf o') (lastM hs.2) (ih _ _ hx).1 (ih _ _ hy).1 (ih _ _ hz).1
        have q := t_chn (pos := pos) hu (copOf o) (copOf o') (lastM hs.2) (ih _ _ hx).1 (ih _ _ hy).1 (ih _ _ hz).1
        rw [copOf_ok, copOf_ok] at p q
        exact mk2' (by rw [vars]) (fun r => by (rw [ev]) <;> rfl) p q
      · cases h
    · simp only [Option.bind_eq_some_iff] at h
      obtain ⟨ms, h1, h2⟩ := h
      obtain ⟨p, q⟩ := and_ok (mapO_len h1) h2 (hk_of ih h1)
      exact mk2' rfl (fun r => rfl) p q.pt
    · simp only [Option.bind_eq_some_iff] at h
      obtain ⟨ms, h1, h2⟩ := h
      obtain ⟨p, q⟩ := or_ok (mapO_len h1) h2 (hk_of ih h1)
      exact mk2' rfl (fun r => rfl) p q.pt
    · simp only [Option.bind_eq_some_iff, Option.map_eq_some_iff] at h
      obtain ⟨x, hx, y, hy, z, hz, rfl⟩ := h
      exact mk2' (by rw [vars]) (fun r => by (rw [ev]) <;> rfl) (s_ite (ih _ _ hx).2 (ih _ _ hy).1 (ih _ _ hz).1) (t_ite (ih _ _ hx).2 (ih _ _ hy).2 (ih _ _ hz).2)
    · simp only [Option.map_eq_some_iff] at h
      obtain ⟨x, hx, rfl⟩ := h
      exact mk2 (by rw [vars]) (fun r => by (rw [ev]) <;> rfl) (s_rev (ih _ _ hx).1) (by intro _; rfl)
    · simp only [Option.map_eq_some_iff] at h
      obtain ⟨x, hx, rfl⟩ := h
      exact mk2 (by rw [vars, vars]) (fun r => by (rw [ev]) <;> rfl) (s_sl00 (ih _ _ hx).1) (by intro _; rfl)
    · simp only [Option.bind_eq_some_iff, Option.map_eq_some_iff] at h
      obtain ⟨x, hx, y, hy, rfl⟩ := h
      exact mk2 (by rw [vars, vars]) (fun r => by (rw [ev]) <;> rfl) (s_sl10 (ih _ _ hx).1 (ih _ _ hy).1) (by intro _; rfl)
    · simp only [Option.bind_eq_some_iff, Option.map_eq_some_iff] at h
      obtain ⟨x, hx, y, hy, rfl⟩ := h
      exact mk2 (by rw [vars, vars]) (fun r => by (rw [ev]) <;> rfl) (s_sl01 (ih _ _ hx).1 (ih _ _ hy).1) (by intro _; rfl)
    · simp only [Option.bind_eq_some_iff, Option.map_eq_some_iff] at h
      obtain ⟨x, hx, y, hy, z, hz, rfl⟩ := h
      exact mk2 (by rw [vars]) (fun r => by (rw [ev]) <;> rfl) (s_sl11 (ih _ _ hx).1 (ih _ _ hy).1 (ih _ _ hz).1) (by intro _; rfl)
    · split at h
      · rename_i hs
        simp only [Option.bind_eq_some_iff, Option.map_eq_some_iff] at h
        obtain ⟨x, hx, y, hy, rfl⟩ := h
        exact mk2 (by rw [vars]) (fun r => by (rw [ev]) <;> rfl) (s_ix hu1 hs (ih _ _ hx).1 (ih _ _ hy).1) (by intro _; rfl)
      · cases h
    · split at h
      · rename_i hz
        simp only [Option.map_eq_some_iff] at h
        obtain ⟨ms, h1, rfl⟩ := h
        exact mk2 (by rw [vars]) (fun r => by (rw [ev]) <;> rfl) (s_tup (args_ok ih h1) fun r st ds st' q => by rw [evs_len q, mapO_len h1]; exact Nat.le_trans hz (by decide)) (by intro _; rfl)
      · cases h
    · split at h
      · rename_i hz
        simp only [Option.map_eq_some_iff] at h
        obtain ⟨ms, h1, rfl⟩ := h
        exact mk2 (by rw [vars]) (fun r => by (rw [ev]) <;> rfl) (s_lst (args_ok ih h1) fun r st ds st' q => by rw [evs_len q, mapO_len h1]; exact Nat.le_trans hz (by decide)) (by intro _; rfl)
      · cases h
    · rename_i fn p args pos
      split at h
      · rename_i hc
        simp only [Bool.and_eq_true] at hc
        split at h
        · rename_i hf
          subst hf
          split at h
          · split at h
            · rename_i hT
              rw [Bool.and_eq_true] at hT
              rename_i aX T pX
              split at h
              · rename_i hX
                rw [Bool.or_eq_true, Bool.and_eq_true, decide_eq_true_eq] at hX
                rw [Option.map_eq_some_iff] at h
                obtain ⟨x, hx, rfl⟩ := h
                have hcl : ∀ c ∈ k.xcs, ExcC X.K (He.ga X.K c) := fun c hc => by
                  obtain ⟨_, _, q⟩ := g.xs c hc
                  exact q.ex
                have hoT := hT.1
                unfold okName at hoT
                simp only [Bool.and_eq_true, Bool.not_eq_true'] at hoT
                by_cases hv : k.xcs.contains T = true
                · have hv' := List.contains_iff_mem.mp hv
                  obtain ⟨_, _, q⟩ := g.xs _ hv'
                  exact mk2 (by rw [vars]) (fun r => by (rw [ev]) <;> rfl) (s_isc hcl (v := .ref _) (cv := .ref _) (pe_glob (hgl _ hT.2) q.hm rfl hoT.1.1) (fun u z => z) (fun c hc => (g.xp c hc _ hv').1) (hgl _ hc.1.2) (biN g (by decide +kernel)) (comp_star hx) (ih _ _ hx).1) (by intro _; rfl)
                · obtain ⟨_, rfl⟩ := hX.resolve_left hv
                  exact mk2 (by rw [vars]) (fun r => by (rw [ev]) <;> rfl) (s_isc hcl (v := .ty "ValueError") (cv := .type "ValueError") (pe_bltn (hgl _ hT.2) (biN g (by decide +kernel)) (by decide +kernel) rfl (by decide) hoT.1.1) (fun u z => z) (fun c hc => by rw [g.xv c hc]; unfold isub; simp) (hgl _ hc.1.2) (biN g (by decide +kernel)) (comp_star hx) (ih _ _ hx).1) (by intro _; rfl)
              simp only [Option.bind_eq_some_iff, Option.map_eq_some_iff] at h
              obtain ⟨t, ht, x, hx, rfl⟩ := h
              exact mk2 (by rw [vars]) (fun r => by (rw [ev]) <;> rfl) (s_isi (hgl _ hc.1.2) (biN g (by decide +kernel)) (hgl _ hT.2) (biN g (tyOf_in ht)) ht hT.1 (comp_star hx) (ih _ _ hx).1) (by intro _; rfl)
            · cases h
          · cases h
        · split at h
          · rename_i b hb
            split at h
            · cases h
            · rename_i hemp
              split at h
              · rename_i hlr
                rw [Bool.and_eq_true, decide_eq_true_eq] at hlr
                obtain ⟨rfl, hlr⟩ := hlr
                obtain ⟨e1, e2⟩ := lrng_ok g f hc.1.2 ih h
                exact mk2 rfl (fun r => rfl) (tz_of_N e1) (by intro _; rfl)
              simp only [Option.map_eq_some_iff] at h
              obtain ⟨ms, h1, rfl⟩ := h
              cases args with
              | nil => exact absurd rfl hemp
              | cons e0 es => exact mk2 (by rw [vars]) (fun r => by (rw [ev]) <;> rfl) (s_callB f.calm g.room.none hu (hgl _ hc.1.2) (biN g (biOf_in hb)) hb hc.1.1 hc.2 (args_ok ih h1)) (by intro _; rfl)
          · split at h
            · rename_i hf
              simp only [Option.map_eq_some_iff] at h
              obtain ⟨ms, h1, rfl⟩ := h
              cases args with
              | nil =>
                cases h1
                exact mk2 (by rw [vars, varss]) (fun r => by (rw [ev, evs]) <;> rfl) (s_call0 f.tk (g.fn _ hf) g.room (hgl _ hc.1.2) hc.1.1) (by intro _; rfl)
              | cons e0 es => exact mk2 (by rw [vars]) (fun r => by (rw [ev]) <;> rfl) (s_call f.tk (g.fn _ hf) g.room (hgl _ hc.1.2) hc.1.1 hc.2 (args_ok ih h1)) (by intro _; rfl)
            · split at h
              · rename_i hx
                simp only [Bool.and_eq_true, decide_eq_true_eq, Bool.not_eq_true'] at hx
                simp only [Option.map_eq_some_iff] at h
                obtain ⟨ms, h1, rfl⟩ := h
                cases args with
                | nil => exact absurd hx.1.2 (by decide)
                | cons e0 es => exact mk2 (by rw [vars]) (fun r => by (rw [ev]) <;> rfl) (s_mk (x_ok g (List.contains_iff_mem.mp hx.1.1) (hgl _ hc.1.2) hc.1.1 hc.2 (args_ok ih h1))) (by intro _; rfl)
              · cases h
      · cases h
    · split at h
      · rename_i hc
        simp only [Bool.and_eq_true] at hc
        rw [Option.map_eq_some_iff] at h
        obtain ⟨x, hx, rfl⟩ := h
        have hcl : ∀ c ∈ k.xcs, ExcC X.K (He.ga X.K c) := fun c hc => by
          obtain ⟨_, _, q⟩ := g.xs c hc
          exact q.ex
        exact mk2 (by rw [vars]) (fun r => by (rw [ev]) <;> rfl) (s_fld hcl (fun c hc fs hfs f hf => by
          obtain ⟨_, z, q⟩ := g.xs c hc
          rw [hfs] at z; cases z
          exact q.no f hf) hc.1 (ih _ _ hx).1) (by intro _; rfl)
      · cases h
    · split at h
      · rename_i hc
        simp only [Bool.and_eq_true] at hc
        split at h
        · split at h
          · rename_i hm
            subst hm
            simp only [Option.bind_eq_some_iff, Option.map_eq_some_iff] at h
            obtain ⟨x, hx, y, hy, rfl⟩ := h
            exact mk2 (by rw [vars, varss, varss]) (fun r => by (rw [ev, evs, evs]) <;> rfl) (s_join hc.1.1 hc.2 (comp_star hy) (ih _ _ hx).1 (ih _ _ hy).1) (by intro _; rfl)
          · split at h
            · rename_i hm
              subst hm
              simp only [Option.bind_eq_some_iff, Option.map_eq_some_iff] at h
              obtain ⟨x, hx, y, hy, rfl⟩ := h
              exact mk2 (by rw [vars, varss, varss]) (fun r => by (rw [ev, evs, evs]) <;> rfl) (s_split hc.1.1 hc.2 (comp_star hy) (ih _ _ hx).1 (ih _ _ hy).1) (by intro _; rfl)
            · split at h
              · rename_i hm
                subst hm
                simp only [Option.bind_eq_some_iff, Option.map_eq_some_iff] at h
                obtain ⟨x, hx, y, hy, rfl⟩ := h
                exact mk2 (by rw [vars, varss, varss]) (fun r => by (rw [ev, evs, evs]) <;> rfl) (s_lstrip hc.1.1 hc.2 (comp_star hy) (ih _ _ hx).1 (ih _ _ hy).1) (by intro _; rfl)
              · split at h
                · rename_i hm
                  subst hm
                  simp only [Option.bind_eq_some_iff, Option.map_eq_some_iff] at h
                  obtain ⟨x, hx, y, hy, rfl⟩ := h
                  exact mk2 (by rw [vars, varss, varss]) (fun r => by (rw [ev, evs, evs]) <;> rfl) (s_index hc.1.1 hc.2 (comp_star hy) (ih _ _ hx).1 (ih _ _ hy).1) (by intro _; rfl)
                · split at h
                  · rename_i hm
                    subst hm
                    simp only [Option.bind_eq_some_iff, Option.map_eq_some_iff] at h
                    obtain ⟨x, hx, y, hy, rfl⟩ := h
                    exact mk2 (by rw [vars, vars]) (fun r => by (rw [ev, ev]) <;> rfl) (s_get1 hu1 hc.1.1 hc.2 (comp_star hy) (ih _ _ hx).1 (ih _ _ hy).1) (by intro _; rfl)
                  · cases h
        · split at h
          · rename_i hm
            subst hm
            simp only [Option.bind_eq_some_iff, Option.map_eq_some_iff] at h
            obtain ⟨x, hx, y, hy, z, hz, rfl⟩ := h
            exact mk2 (by rw [vars]) (fun r => by (rw [ev]) <;> rfl) (s_get2 hu1 hc.1.1 hc.2 (comp_star hy) (comp_star hz) (ih _ _ hx).1 (ih _ _ hy).1 (ih _ _ hz).1) (by intro _; rfl)
          · cases h
        · cases h
      · cases h
    · split at h
      · rename_i hc
        rw [Bool.and_eq_true, List.isEmpty_iff, List.isEmpty_iff] at hc
        obtain ⟨rfl, rfl⟩ := hc
        cases h
        exact mk2 (by rw [vars, varss]) (fun r => by (rw [ev, evs]) <;> rfl) (tz_of_N n_dct0) (by intro _; rfl)
      · rw [Option.bind_eq_some_iff] at h
        obtain ⟨ks, hks, h⟩ := h
        split at h
        · rename_i hc
          simp only [Bool.and_eq_true, decide_eq_true_eq, Bool.not_eq_true', List.isEmpty_eq_false_iff] at hc
          rw [Option.map_eq_some_iff] at h
          obtain ⟨ms, hms, rfl⟩ := h
          obtain ⟨trs, p1, p2⟩ := pairs_ok ih hks hms hc.1.1.1
          have hsome : ∀ {keys : List (Option Expr)} {ks : List Key}, mapO keyE keys = some ks → keys.all (·.isSome) = true := by
            intro keys
            induction keys with
            | nil => intro _ _; rfl
            | cons o r ih2 =>
              intro ks h
              obtain ⟨_, _, h1, h2, _⟩ := mapO_cons h
              rw [List.all_cons, ih2 h2]
              cases o with
              | none => cases h1
              | some _ => rfl
          exact mk2 (by rw [vars]) (fun r => by (rw [ev]) <;> rfl) (tz_of_N (n_dct p1 p2 (hsome hks) hc.1.1.1 hc.2 hc.1.1.2 (mapO_len hks) hc.1.2 fun r st ds st' q => by rw [evs_len q, mapO_len hms, mapO_len hks, hc.1.1.1])) (by intro _; rfl)
        · cases h
    · rename_i elt tg iter ifs scope pos
      split at h
      · rename_i hc
        rw [Bool.and_eq_true] at hc
        rw [Option.bind_eq_some_iff] at h
        obtain ⟨t, ht, h⟩ := h
        split at h
        · rename_i hw
          rw [Option.bind_eq_some_iff] at h
          obtain ⟨it, hit, h⟩ := h
          rw [Option.bind_eq_some_iff] at h
          obtain ⟨cnd, hcnd, h⟩ := h
          rw [Option.map_eq_some_iff] at h
          obtain ⟨x, hx, rfl⟩ := h
          have okb : BlkOk X.N X.env.scope scope (ownOf k.N scope) := by rw [f.N, f.sc]; exact blkOk_by hc.1
          have fb := fun s H C cl fp => blk_fz f s H scope C cl fp
          have ihb := fun s H C cl fp => comp_ok n (X.blk s H scope (compEnvC scope cl C X.env) fp) k (relS scope sc) Wn c kk g (fb s H C cl fp)
          have hw' : ∀ i ∈ tgs t, i ∈ (ownOf k.N scope).map (·.2) := fun i hi => by
            rw [List.all_eq_true] at hw
            exact List.contains_iff_mem.mp (hw i hi)
          have hi : PI X tg iter (tzi X.K X.mg Wx (vars it) (ev c it)) := by
            exact pi_ok0 g f ih hit
          refine mk2 (by rw [vars]) (fun r => by (rw [ev]) <;> rfl) (s_lc (t := t) (vc := vars cnd) (mc := ev c cnd) (ve := vars x) (me := ev c x) f.calm f.nd okb hi (fun s H C cl fp => (tg_ok (X := X.blk s H scope (compEnvC scope cl C X.env) fp) (k := k) (fb s H C cl fp).N (fb s H C cl fp).nd (fb s H C cl fp).sc (fb s H C cl fp).calm (fun z => by cases z) n tg t ht).1)
            (fun s H C cl fp => ?_) (fun s H C cl fp => (ihb s H C cl fp _ _ hx).1) (folded_ok hc.2) hw' fun i hi => ?_) (by intro _; rfl)
          · split at hcnd
            · cases hcnd
              refine ⟨fun pins s2 σ H2 Q I q => pts_nil.run pins s2 σ H2 Q I ?_⟩
              obtain ⟨W, F, st, r, sr, re, p⟩ := q
              rw [ev] at p
              obtain ⟨b, e, q⟩ := Pst.fin (d := .bl true) sr p (by rw [Rep])
              cases e
              exact q
            · exact pts_one (ihb s H C cl fp _ _ hcnd).2
            · cases hcnd
          · rw [f.N]; exact tg_lt n tg t ht i hi
        · cases h
      · cases h
    · cases h
end Z
set_option Elab.async false
set_option linter.all false
set_option maxRecDepth 100000
set_option maxHeartbeats 2000000
namespace Z
open PySem PySem.Spec PyProof.Rows L2 TL

/-! ### frames with own values -/
def offs (o vs : List Nat) : List Nat := o.filter fun i => !vs.contains i
theorem mem_offs {o vs : List Nat} {i : Nat} : i ∈ offs o vs ↔ i ∈ o ∧ i ∉ vs := by
  unfold offs
  rw [List.mem_filter]
  simp
structure RS (K : PySem.W.Frag) (n : Nat) (W : Wd) (F : Addr → Prop) (H H0 : Hp) (σ : L2.St) (r : Ev) (o : List Nat) : Prop where
  ln : σ.length = n
  fr : ∀ i, i ∉ o → ∀ d, getS r i = some d → ∃ v, σ[i]? = some (some v) ∧ Rep K W d v
  ow : ∀ i, i ∈ o → ∀ d, getS r i = some d → ∃ p, σ[i]? = some (some (.ref p)) ∧ RepO K W F H H0 d p
  ap : ∀ i j, i ∈ o → j ∈ o → i ≠ j → ∀ d d', getS r i = some d → getS r j = some d' → ∀ p, σ[i]? = some (some (.ref p)) → σ[j]? ≠ some (some (.ref p))
section
variable {K : PySem.W.Frag} {n : Nat} {W W1 W0 : Wd} {F F1 F0 : Addr → Prop} {H H1 H0 : Hp} {st st1 : Sto} {σ : L2.St} {r : Ev} {o vs : List Nat} {d : D} {p : Addr}
theorem RepO.ext (h : RepO K W F H H0 d p) (x : Ext W F H W1 F1 H1) : RepO K W1 F1 H1 H0 d p := by
  obtain ⟨a, b, c, k⟩ := h
  have hp : ∃ y, H p = some y := by
    rcases k with ⟨_, _, _, e, _⟩ | ⟨_, _, _, e, _⟩
    · exact ⟨_, e⟩
    · exact ⟨_, e⟩
  obtain ⟨y, hp⟩ := hp
  refine ⟨a, ?_, fun z => ?_, ?_⟩
  · cases q : W1.hf p with
    | none => rfl
    | some u =>
      rcases x.fz p u q with z | z
      · rw [b] at z; cases z
      · rw [hp] at z; cases z
  · rcases x.newf p z with z | z
    · exact c z
    · rw [hp] at z; cases z
  · rcases k with ⟨ds, vs, e, e1, e2⟩ | ⟨ds, vs, e, e1, e2⟩
    · exact .inl ⟨ds, vs, e, x.keep p _ e1 c, e2.mono x.le⟩
    · exact .inr ⟨ds, vs, e, x.keep p _ e1 c, RepKs.mono x.le _ _ e2⟩
theorem RS.ext (h : RS K n W F H H0 σ r o) (x : Ext W F H W1 F1 H1) : RS K n W1 F1 H1 H0 σ r o where
  ln := h.ln
  fr := fun i hi d e => let ⟨v, e1, rv⟩ := h.fr i hi d e; ⟨v, e1, rv.mono x.le⟩
  ow := fun i hi d e => let ⟨v, e1, rv⟩ := h.ow i hi d e; ⟨v, e1, rv.ext x⟩
  ap := h.ap
theorem RS.rel (h : RS K n W F H H0 σ r o) (k : ∀ i ∈ vs, i ∉ o) : RelE K W vs σ r := fun i hi d e => h.fr i (k i hi) d e
/-- own slots that are frozen -/
def Marked (σ : L2.St) (r : Ev) (o vs : List Nat) (q : Addr) : Prop := ∃ i, i ∈ o ∧ i ∈ vs ∧ σ[i]? = some (some (.ref q)) ∧ ∃ d, getS r i = some d
noncomputable def frzW (W : Wd) (H : Hp) (σ : L2.St) (r : Ev) (o vs : List Nat) : Wd := ⟨W.ob, fun q => open Classical in if Marked σ r o vs q then H q else W.hf q⟩
theorem frz_pos {q : Addr} (h : Marked σ r o vs q) : (frzW W H σ r o vs).hf q = H q := by
  unfold frzW; exact if_pos h
theorem frz_neg {q : Addr} (h : ¬ Marked σ r o vs q) : (frzW W H σ r o vs).hf q = W.hf q := by
  unfold frzW; exact if_neg h
theorem RS.mark (h : RS K n W F H H0 σ r o) {q : Addr} (m : Marked σ r o vs q) : ∃ d, RepO K W F H H0 d q := by
  obtain ⟨i, hi, _, e, d, g⟩ := m
  obtain ⟨p, e1, k⟩ := h.ow i hi d g
  rw [e] at e1; cases e1
  exact ⟨d, k⟩
theorem RepO.there (h : RepO K W F H H0 d p) : ∃ y, H p = some y := by
  obtain ⟨_, _, _, k⟩ := h
  rcases k with ⟨_, _, _, e, _⟩ | ⟨_, _, _, e, _⟩
  · exact ⟨_, e⟩
  · exact ⟨_, e⟩
theorem frz_le (s : SR W F H st) : W.Le (frzW W H σ r o vs) := ⟨fun _ _ h => h, fun q x h => by
  by_cases m : Marked σ r o vs q
  · rw [frz_pos m]; exact s.sub q x h
  · rw [frz_neg m]; exact h⟩
theorem frz_sr (s : SR W F H st) (h : RS K n W F H H0 σ r o) : SR (frzW W H σ r o vs) F H st where
  sub := fun q x e => by
    by_cases m : Marked σ r o vs q
    · rw [frz_pos m] at e; exact e
    · rw [frz_neg m] at e; exact s.sub q x e
  fh := fun q z => by
    by_cases m : Marked σ r o vs q
    · obtain ⟨d, k⟩ := h.mark m
      exact absurd z k.2.2.1
    · rw [frz_neg m]; exact s.fh q z
  len := s.len
  sto := by
    have t := s.sto
    cases st <;> exact t
theorem frz_ext (s : SR W F H st) (h : RS K n W F H H0 σ r o) (x : Ext W0 F0 H0 W F H) : Ext W0 F0 H0 (frzW W H σ r o vs) F H where
  le := x.le.trans (frz_le s)
  keep := x.keep
  there := x.there
  foot := x.foot
  newf := x.newf
  fz := fun q y e => by
    by_cases m : Marked σ r o vs q
    · obtain ⟨d, k⟩ := h.mark m
      exact .inr k.1
    · rw [frz_neg m] at e; exact x.fz q y e
theorem frz_rs (s : SR W F H st) (h : RS K n W F H H0 σ r o) : RS K n (frzW W H σ r o vs) F H H0 σ r (offs o vs) where
  ln := h.ln
  fr := fun i hi d e => by
    by_cases io : i ∈ o
    · have iv : i ∈ vs := Classical.byContradiction fun z => hi (mem_offs.mpr ⟨io, z⟩)
      obtain ⟨p, e1, k⟩ := h.ow i io d e
      have m : Marked σ r o vs p := ⟨i, io, iv, e1, d, e⟩
      refine ⟨_, e1, ?_⟩
      rcases k.2.2.2 with ⟨ds, us, rfl, e2, e3⟩ | ⟨ds, us, rfl, e2, e3⟩
      · rw [Rep]; exact ⟨p, us, rfl, by rw [frz_pos m]; exact e2, e3.mono (frz_le s)⟩
      · rw [Rep]; exact ⟨p, us, rfl, by rw [frz_pos m]; exact e2, RepKs.mono (frz_le s) _ _ e3⟩
    · obtain ⟨v, e1, rv⟩ := h.fr i io d e
      exact ⟨v, e1, rv.mono (frz_le s)⟩
  ow := fun i hi d e => by
    obtain ⟨io, iv⟩ := mem_offs.mp hi
    obtain ⟨p, e1, k⟩ := h.ow i io d e
    have m : ¬ Marked σ r o vs p := fun ⟨j, jo, jv, e2, d', e3⟩ => h.ap i j io jo (fun z => iv (z ▸ jv)) d d' e e3 p e1 e2
    refine ⟨p, e1, k.1, by rw [frz_neg m]; exact k.2.1, k.2.2.1, ?_⟩
    rcases k.2.2.2 with ⟨ds, us, rfl, e2, e3⟩ | ⟨ds, us, rfl, e2, e3⟩
    · exact .inl ⟨ds, us, rfl, e2, e3.mono (frz_le s)⟩
    · exact .inr ⟨ds, us, rfl, e2, RepKs.mono (frz_le s) _ _ e3⟩
  ap := fun i j hi hj => h.ap i j (mem_offs.mp hi).1 (mem_offs.mp hj).1
/-- thawed again -/
noncomputable def thaw (W1 : Wd) (σ : L2.St) (r : Ev) (o vs : List Nat) : Wd := ⟨W1.ob, fun q => open Classical in if Marked σ r o vs q then none else W1.hf q⟩
theorem thaw_pos {q : Addr} (h : Marked σ r o vs q) : (thaw W1 σ r o vs).hf q = none := by unfold thaw; exact if_pos h
theorem thaw_neg {q : Addr} (h : ¬ Marked σ r o vs q) : (thaw W1 σ r o vs).hf q = W1.hf q := by unfold thaw; exact if_neg h
theorem thaw_ext (h : RS K n W F H H0 σ r o) (x : Ext (frzW W H σ r o vs) F H W1 F1 H1) (s : SR W F H st) : Ext W F H (thaw W1 σ r o vs) F1 H1 where
  le := ⟨fun k p e => x.le.ob k p e, fun q y e => by
    by_cases m : Marked σ r o vs q
    · obtain ⟨d, k⟩ := h.mark m
      rw [k.2.1] at e; cases e
    · rw [thaw_neg m]; exact x.le.hf q y (by rw [frz_neg m]; exact e)⟩
  keep := x.keep
  there := x.there
  foot := x.foot
  newf := x.newf
  fz := fun q y e => by
    by_cases m : Marked σ r o vs q
    · rw [thaw_pos m] at e; cases e
    · rw [thaw_neg m] at e
      have := x.fz q y e
      rw [frz_neg m] at this; exact this
theorem thaw_sr (s1 : SR W1 F1 H1 st1) : SR (thaw W1 σ r o vs) F1 H1 st1 where
  sub := fun q y e => by
    by_cases m : Marked σ r o vs q
    · rw [thaw_pos m] at e; cases e
    · rw [thaw_neg m] at e; exact s1.sub q y e
  fh := fun q z => by
    by_cases m : Marked σ r o vs q
    · exact thaw_pos m
    · rw [thaw_neg m]; exact s1.fh q z
  len := s1.len
  sto := by
    have t := s1.sto
    cases st1 <;> exact t
/-- a marked object is a list or a dict also later -/
theorem mark_hf (s : SR W F H st) (h : RS K n W F H H0 σ r o) (x : Ext (frzW W H σ r o vs) F H W1 F1 H1) {q : Addr} (m : Marked σ r o vs q) : (∃ us, W1.hf q = some (.lst us)) ∨ ∃ us, W1.hf q = some (.dK us) := by
  obtain ⟨d, k⟩ := h.mark m
  rcases k.2.2.2 with ⟨ds, us, _, e, _⟩ | ⟨ds, us, _, e, _⟩
  · exact .inl ⟨us, x.le.hf q _ (by rw [frz_pos m]; exact e)⟩
  · exact .inr ⟨us, x.le.hf q _ (by rw [frz_pos m]; exact e)⟩
mutual
theorem thaw_rep {W1 : Wd} (mk : ∀ q, Marked σ r o vs q → (∃ us, W1.hf q = some (.lst us)) ∨ ∃ us, W1.hf q = some (.dK us)) : ∀ (d : D) (v : V), imm d = true → Rep K W1 d v → Rep K (thaw W1 σ r o vs) d v
  | .non, v, _, h => h
  | .bl b, v, _, h => h
  | .int b, v, _, h => h
  | .str b, v, _, h => h
  | .tup ds, v, hi, h => by
    rw [Rep] at h ⊢
    obtain ⟨a, us, e, s, k⟩ := h
    refine ⟨a, us, e, ?_, thaw_reps mk ds us (by rw [imm] at hi; exact hi) k⟩
    by_cases m : Marked σ r o vs a
    · rcases s with (s | ⟨z, s⟩) | s
      · rcases mk a m with ⟨u, q⟩ | ⟨u, q⟩ <;> (rw [q] at s; cases s)
      · rcases mk a m with ⟨u, q⟩ | ⟨u, q⟩ <;> (rw [q] at s; cases s)
      · exact .inr s
    · rcases s with (s | ⟨z, s⟩) | s
      · exact .inl (.inl (by rw [thaw_neg m]; exact s))
      · exact .inl (.inr ⟨z, by rw [thaw_neg m]; exact s⟩)
      · exact .inr s
  | .lst ds, v, hi, h => by rw [imm] at hi; cases hi
  | .dct ds, v, hi, h => by rw [imm] at hi; cases hi
  | .scr ds, v, hi, h => by rw [imm] at hi; cases hi
  | .obj ds, v, hi, h => by rw [imm] at hi; cases hi
theorem thaw_reps {W1 : Wd} (mk : ∀ q, Marked σ r o vs q → (∃ us, W1.hf q = some (.lst us)) ∨ ∃ us, W1.hf q = some (.dK us)) : ∀ (ds : List D) (us : List V), imms ds = true → Reps K W1 ds us → Reps K (thaw W1 σ r o vs) ds us
  | [], us, _, h => h
  | d :: ds, us, hi, h => by
    rw [imms, Bool.and_eq_true] at hi
    rw [Reps] at h ⊢
    obtain ⟨v, w, e, h1, h2⟩ := h
    exact ⟨v, w, e, thaw_rep mk d v hi.1 h1, thaw_reps mk ds w hi.2 h2⟩
end
/-- what stays one's own behind a value -/
def flp (o vs : List Nat) (d : D) : List Nat := if imm d then o else offs o vs
theorem after (s : SR W F H st) (h : RS K n W F H H0 σ r o) (x0 : Ext W0 F0 H0 W F H) {v : V} (s1 : SR W1 F1 H1 st1) (x : Ext (frzW W H σ r o vs) F H W1 F1 H1) (rv : Rep K W1 d v) :
    ∃ W2, SR W2 F1 H1 st1 ∧ Ext W0 F0 H0 W2 F1 H1 ∧ W.Le W2 ∧ RS K n W2 F1 H1 H0 σ r (flp o vs d) ∧ Rep K W2 d v := by
  unfold flp
  by_cases i : imm d = true
  · rw [if_pos i]
    have x2 := thaw_ext h x s
    exact ⟨_, thaw_sr s1, x0.trans x2, x2.le, h.ext x2, thaw_rep (fun q m => mark_hf s h x m) d v i rv⟩
  · rw [if_neg i]
    exact ⟨W1, s1, (frz_ext s h x0).trans x, (frz_le s).trans x.le, (frz_rs s h).ext x, rv⟩
theorem frz_rel (s : SR W F H st) (h : RS K n W F H H0 σ r o) : RelE K (frzW W H σ r o vs) vs σ r := (frz_rs (vs := vs) s h).rel fun i hi z => (mem_offs.mp z).2 hi
end
end Z
set_option Elab.async false
set_option linter.all false
set_option maxRecDepth 100000
set_option maxHeartbeats 2000000
namespace Z
open PySem PySem.Spec PyProof.Rows L2 TL

section
variable {X : Cx} {Wx : WX} {elt tg iter : Expr} {ifs : List Expr} {scope : Scope} {own : List (Str × Nat)} {pos : Pos} {vi vc ve : List Nat} {mi mc me : Ev → M D} {t : Tg}
/-- the reading of a comprehension -/
theorem lc_readN {σ : L2.St} {H : Hp} {Q : VK} {w : List Nat} (hw : ∀ i ∈ tgs t, i ∈ w) (hlt : ∀ i ∈ tgs t, i < σ.length) (hlen : (wipe σ w).length = σ.length)
    (h : tzN X.K X.mg Wx (vi ++ (vc ++ ve)) (lcM t w mi mc me) σ H Q) :
    tLc (tzi X.K X.mg Wx vi mi) (gz X.K t) (tzT X Wn vc mc) (tz X.K X.mg Wn ve me) w σ H Q := by
  obtain ⟨W, F, st, r, sr, re, p⟩ := h
  refine ⟨W, F, st, r, sr, re.fst, ?_⟩
  unfold lcM bnd at p
  cases q : mi r st with
  | stk => rw [q] at p; exact p
  | exc e s1 => rw [q] at p; exact p
  | ok x s1 =>
    rw [q] at p
    have p : PstN X.K X.mg Wx σ Q W F H ((match itD x with
      | none => stk
      | some ds => bnd (lcL (lcF t w r mc me) ds) fun ys => ret (Z.D.lst ys)) s1) := p
    cases e : itD x with
    | none => rw [e] at p; exact p.elim
    | some ds =>
      rw [e] at p
      refine ⟨ds, e, fun J W1 F1 H1 sr1 x1 wk D hD => ?_⟩
      have p1 : PstN X.K X.mg Wx σ Q W1 F1 H1 ((bnd (lcL (lcF t w r mc me) ds) fun ys => ret (Z.D.lst ([] ++ ys))) s1) := good_pstN.ext x1 p
      have rel0 : RelE X.K W1 (vc ++ ve) σ r := re.snd.mono x1.le
      have hf1 := sr1.nohf hD
      have hF1 := sr1.nofoot hD
      refine ⟨fun i m H => m = ds.length - i ∧ i ≤ ds.length ∧ ∃ Wi Fi si aD aV, SR Wi Fi H si ∧ Ext W1 F1 H1 Wi Fi H ∧ Wi.hf D = none ∧ ¬ Fi D ∧ H D = some (.lst aV) ∧ Reps X.K Wi aD aV ∧ aV.length ≤ i ∧
        PstN X.K X.mg Wx σ Q W1 F1 H1 ((bnd (lcL (lcF t w r mc me) (ds.drop i)) fun ys => ret (Z.D.lst (aD ++ ys))) si), ⟨ds.length, by simp, Nat.zero_le _, W1, F1, s1, [], [],
        sr1.write hf1 hF1 (fun xs z => by rcases z with z | z <;> cases z; exact Nat.zero_le _), Ext.refl.write hD, hf1, hF1, upd_same, by rw [Reps], Nat.le_refl _, by rw [List.drop_zero]; exact p1⟩, ?_⟩
      rintro i m Hi ⟨rfl, hi, Wi, Fi, si, aD, aV, sri, xi, hfi, hFi, hDi, ra, hal, pi⟩
      have same : Same W1.hf Hi := fun b o h => sri.sub _ _ (xi.le.hf _ _ h)
      by_cases hlt' : i < ds.length
      · refine .inr ⟨wk.go i Hi same hlt', fun H' => i + 1 ≤ ds.length ∧ ∃ Wi Fi si aD aV, SR Wi Fi H' si ∧ Ext W1 F1 H1 Wi Fi H' ∧ Wi.hf D = none ∧ ¬ Fi D ∧ H' D = some (.lst aV) ∧ Reps X.K Wi aD aV ∧ aV.length ≤ i + 1 ∧
          PstN X.K X.mg Wx σ Q W1 F1 H1 ((bnd (lcL (lcF t w r mc me) (ds.drop (i + 1))) fun ys => ret (Z.D.lst (aD ++ ys))) si), fun H' h' => ⟨ds.length - (i + 1), by omega, rfl, h'⟩, fun v H' y => ?_⟩
        have hd : ds[i]? = some ds[i] := by simp [hlt']
        generalize hdd : ds[i] = d at hd
        have hdrop : ds.drop i = d :: ds.drop (i + 1) := by rw [← hdd]; exact List.drop_eq_getElem_cons hlt'
        rw [hdrop, lc_step] at pi
        -- the item
        obtain ⟨W2, F2, sr2, x2, rd, hf2, hF2, hD2⟩ : ∃ W2 F2, SR W2 F2 H' si ∧ Ext Wi Fi Hi W2 F2 H' ∧ Rep X.K W2 d v ∧ W2.hf D = none ∧ ¬ F2 D ∧ H' D = some (.lst aV) := by
          rcases wk.yld i Hi v H' d same hd y with ⟨rfl, rd⟩ | ⟨T, d1, d2, y1, y2, rfl, rfl, hT, rfl, r1, r2⟩
          · exact ⟨Wi, Fi, sri, .refl, rd.mono xi.le, hfi, hFi, hDi⟩
          · have hz2 : ∀ zs, (HO.tup [y1, y2] = .lst zs ∨ HO.tup [y1, y2] = .tup zs) → zs.length ≤ sizeLine := fun zs z => by
              rcases z with z | z
              · cases z
              · cases z; show 2 ≤ sizeLine; decide
            obtain ⟨a1, a2⟩ := sri.laid hT hz2
            have nT : D ≠ T := fun e => by rw [e, hT] at hDi; cases hDi
            refine ⟨Wi.put T (.tup [y1, y2]), Fi, a1, a2, ?_, ?_, hFi, ?_⟩
            · rw [Rep]
              refine ⟨T, _, rfl, SqT.of (Wi.put_at _ _), ?_⟩
              have l := xi.le.trans a2.le
              rw [Reps]
              refine ⟨y1, [y2], rfl, r1.mono l, ?_⟩
              rw [Reps]
              exact ⟨y2, [], rfl, r2.mono l, by rw [Reps]⟩
            · show upd Wi.hf T _ D = none
              rw [upd_ne nT]; exact hfi
            · rw [upd_ne nT]; exact hDi
        -- the target
        unfold lcF at pi
        cases ea : asg t d (wipeE r w) with
        | none => rw [ea] at pi; exact pi.elim
        | some r' =>
          rw [ea] at pi
          have rel2 : RelE X.K W2 (vc ++ ve) (wipe σ w) (wipeE r w) := (rel0.mono (xi.le.trans x2.le)).wipe w
          refine ⟨W2, F2, si, wipeE r w, d, r', sr2, rd, ea, fun j hj => by rw [hlen]; exact hlt j hj, fun σ' n1 k1 w1 _ => ⟨?_, ?_⟩⟩
          · rw [w1 w hw]
            have key : ∀ ws : List Nat, wipe (wipe σ ws) ws = wipe σ ws := by
              intro ws
              refine List.ext_getElem? fun j => ?_
              by_cases hj : j ∈ ws
              · cases z : (wipe (wipe σ ws) ws)[j]? with
                | none =>
                  have l1 := List.getElem?_eq_none_iff.mp z
                  rw [wipe_length, wipe_length] at l1
                  rw [List.getElem?_eq_none (by rw [wipe_length]; exact l1)]
                | some o =>
                  cases o with
                  | some u => exact absurd hj (wipe_some z).2
                  | none =>
                    have l1 : j < σ.length := by
                      have := (List.getElem?_eq_some_iff.mp z).1
                      rwa [wipe_length, wipe_length] at this
                    cases z2 : (wipe σ ws)[j]? with
                    | none => rw [List.getElem?_eq_none_iff, wipe_length] at z2; omega
                    | some o2 =>
                      cases o2 with
                      | none => rfl
                      | some u => exact absurd hj (wipe_some z2).2
              · rw [wipe_out hj]
            exact key w
          · rw [bnd_assoc] at pi
            have rel3 := k1 _ rel2
            refine anch_use (P := PstN X.K X.mg Wx σ Q W1 F1 H1) (fun z => z) sr2 rel3.fst pi fun b s3 u W3 F3 H3 sr3 x3 rb p3 => ?_
            have hD3 : H3 D = some (.lst aV) := x3.keep D _ hD2 hF2
            have hf3 : W3.hf D = none := by
              cases z : W3.hf D with
              | none => rfl
              | some o =>
                rcases x3.fz D o z with z | z
                · rw [hf2] at z; cases z
                · rw [hD2] at z; cases z
            have hF3 : ¬ F3 D := fun z => (x3.newf D z).elim hF2 fun z => by rw [hD2] at z; cases z
            cases b <;> first | exact False.elim p3 | skip
            rename_i bb
            rw [Rep] at rb; subst rb
            refine ⟨bb, rfl, ?_⟩
            cases bb with
            | false =>
              exact ⟨by omega, W3, F3, s3, aD, aV, sr3, (xi.trans x2).trans x3, hf3, hF3, hD3, ra.mono (x2.le.trans x3.le), by omega, p3⟩
            | true =>
              have p3 : PstN X.K X.mg Wx σ Q W1 F1 H1 (bnd (bnd (nox (me r')) fun y => ret (some y)) (fun o => bnd (lcL (lcF t w r mc me) (ds.drop (i + 1))) fun ys => ret (Z.D.lst (accO aD o ++ ys))) s3) := p3
              rw [bnd_assoc] at p3
              refine anch_use (P := PstN X.K X.mg Wx σ Q W1 F1 H1) (fun z => z) sr3 (rel3.snd.mono x3.le) p3 fun y s4 u W4 F4 H4 sr4 x4 ry p4 => ?_
              have hD4 : H4 D = some (.lst aV) := x4.keep D _ hD3 hF3
              have hf4 : W4.hf D = none := by
                cases z : W4.hf D with
                | none => rfl
                | some o =>
                  rcases x4.fz D o z with z | z
                  · rw [hf3] at z; cases z
                  · rw [hD3] at z; cases z
              have hF4 : ¬ F4 D := fun z => (x4.newf D z).elim hF3 fun z => by rw [hD3] at z; cases z
              have hlen' := wk.len
              have hal' : aV.length < sizeLine := by omega
              refine ⟨aV, hD4, hal', by omega, W4, F4, s4, aD ++ [y], aV ++ [u], sr4.write hf4 hF4 (fun xs z => ?_), (((xi.trans x2).trans x3).trans x4).write hD, hf4, hF4, upd_same, ?_, by rw [List.length_append]; simp; omega, p4⟩
              · rcases z with z | z
                · cases z; rw [List.length_append]; exact hal'
                · cases z
              · exact (ra.mono ((x2.le.trans x3.le).trans x4.le)).append (by rw [Reps]; exact ⟨u, [], rfl, ry, by rw [Reps]⟩)
      · have ei : i = ds.length := by omega
        subst ei
        refine .inl ⟨wk.stop _ Hi same (Nat.le_refl _), ?_⟩
        rw [List.drop_length] at pi
        have pi : PstN X.K X.mg Wx σ Q W1 F1 H1 (ret (Z.D.lst (aD ++ [])) si) := pi
        rw [List.append_nil] at pi
        refine pi (.ref D) Wi Fi Hi sri xi ?_
        unfold RepN
        rw [if_pos (show isMut (.lst aD) = true from rfl)]
        exact ⟨D, rfl, hD, hfi, hFi, .inl ⟨aD, aV, rfl, hDi, ra⟩⟩

theorem n_lc (hc : X.calm = true) (hN : X.N.Nodup) (ok : BlkOk X.N X.env.scope scope own) (hi : PI X tg iter (tzi X.K X.mg Wx vi mi))
    (hg : ∀ (s : Shared) (H : Hp) (C : Addr) (cl : List (Str × Addr)) (fp : List Addr), PG (X.blk s H scope (compEnvC scope cl C X.env) fp) tg (gz X.K t))
    (ht : ∀ (s : Shared) (H : Hp) (C : Addr) (cl : List (Str × Addr)) (fp : List Addr), PTs (X.blk s H scope (compEnvC scope cl C X.env) fp) ifs (tzT X Wn vc mc))
    (he : ∀ (s : Shared) (H : Hp) (C : Addr) (cl : List (Str × Addr)) (fp : List Addr), PE (X.blk s H scope (compEnvC scope cl C X.env) fp) elt (tz X.K X.mg Wn ve me))
    (hs : ∀ x, foldedSetIterable iter X.env x = pure x) (hw : ∀ i ∈ tgs t, i ∈ own.map (·.2)) (hlt : ∀ i ∈ tgs t, i < X.N.length) :
    PE X (.ListComp elt [⟨tg, iter, ifs, 0⟩] scope pos) (tzN X.K X.mg Wx (vi ++ (vc ++ ve)) (lcM t (own.map (·.2)) mi mc me)) :=
  PE.impI (pe_lc hc hN hi ok hg ht he hs) fun σ H Q hl h => lc_readN hw (fun i hi => by rw [hl]; exact hlt i hi) (wipe_length _ _) h
end
end Z
set_option Elab.async false
set_option linter.all false
set_option maxRecDepth 100000
set_option maxHeartbeats 2000000
namespace Z
open PySem PySem.Spec PyProof.Rows L2 TL

/-! ### statements -/
inductive T where
  | pass | brk | cnt
  | ret (e : E)
  | retn (e : E)
  | retv (i : Nat)
  | retc (t : E) (i : Nat)
  | set (t : Tg) (e : E)
  | own (i : Nat) (e : E)
  | par (i j : Nat) (a b : E)
  | bad
  | app (i : Nat) (e : E)
  | ext (i : Nat) (e : E)
  | pop (i : Nat)
  | seti (i : Nat) (k e : E)
  | ex (e : E)
  | ite (c : E) (a b : List T)
  | for_ (t : Tg) (rg : Bool) (it : E) (b : List T)
  | while_ (c : E) (b : List T)
  | raise (e : E)
  | tryk (b : List T) (c : Str) (i j : Nat) (ns : List Str)
/-- what a statement comes to -/
inductive Fl where
  | nxt (r : Ev) (o : List Nat)
  | brk (r : Ev) (o : List Nat)
  | cnt (r : Ev) (o : List Nat)
  | ret (d : D)
  | retn (d : D)
  | exc (e : Ex) (r : Ev) (o : List Nat)
def evS (vs : List Nat) (me : Ev → M D) (r : Ev) (o : List Nat) (k : D → List Nat → M Fl) : M Fl := fun st => match me r st with
  | .ok d st' => k d (flp o vs d) st'
  | .exc e st' => .ok (.exc e r (offs o vs)) st'
  | .stk => .stk
/-- .. and nothing is frozen by what comes (a range) -/
def evR (vs : List Nat) (me : Ev → M D) (r : Ev) (o : List Nat) (k : D → List Nat → M Fl) : M Fl := fun st => match me r st with
  | .ok d st' => k d o st'
  | .exc e st' => .ok (.exc e r (offs o vs)) st'
  | .stk => .stk
def evF (vs : List Nat) (me : Ev → M D) (r : Ev) (o : List Nat) (k : D → List Nat → M Fl) : M Fl := fun st => match me r st with
  | .ok d st' => k d (offs o vs) st'
  | .exc e st' => .ok (.exc e r (offs o vs)) st'
  | .stk => .stk
def seqF (f : Fl) (k : Ev → List Nat → M Fl) : M Fl := match f with
  | .nxt r o => k r o
  | f => ret f
def forL (f : D → Ev → List Nat → M Fl) : List D → Ev → List Nat → M Fl
  | [], r, o => ret (.nxt r o)
  | d :: ds, r, o => bnd (f d r o) fun x => match x with
    | .nxt r' o' => forL f ds r' o'
    | .cnt r' o' => forL f ds r' o'
    | .brk r' o' => ret (.nxt r' o')
    | x => ret x
def whL (cnd : Ev → List Nat → (D → List Nat → M Fl) → M Fl) (f : Ev → List Nat → M Fl) : Nat → Ev → List Nat → M Fl
  | 0, _, _ => stk
  | n + 1, r, o => cnd r o fun b o1 => match b with
    | .bl true => bnd (f r o1) fun x => match x with
      | .nxt r' o' => whL cnd f n r' o'
      | .cnt r' o' => whL cnd f n r' o'
      | .brk r' o' => ret (.nxt r' o')
      | x => ret x
    | .bl false => ret (.nxt r o1)
    | _ => stk
def tbl (t : Tg) (f : Ev → List Nat → M Fl) (d : D) (r : Ev) (o : List Nat) : M Fl := match asg t d r with
  | none => stk
  | some r' => f r' (offs o (tgs t))
def ownL (i : Nat) (r : Ev) (o : List Nat) : Bool := o.contains i && (match getS r i with | some (.lst _) => true | _ => false)
def appF (i : Nat) (d : D) (r : Ev) (o : List Nat) : M Fl := if o.contains i then (match getS r i with
  | some (.lst ds) => if ds.length < 16777216 then ret (.nxt (r.set i (some (.lst (ds ++ [d])))) o) else stk
  | _ => stk) else stk
def extF (i : Nat) (d : D) (r : Ev) (o : List Nat) : M Fl := if o.contains i then (match getS r i, d with
  | some (.lst ds), .lst es => if ds.length + es.length ≤ 16777216 then ret (.nxt (r.set i (some (.lst (ds ++ es)))) o) else stk
  | _, _ => stk) else stk
def popF (i : Nat) (r : Ev) (o : List Nat) : M Fl := if o.contains i then (match getS r i with
  | some (.lst ds) => if ds.isEmpty then stk else ret (.nxt (r.set i (some (.lst ds.dropLast))) o)
  | _ => stk) else stk
def setF (i : Nat) (k d : D) (r : Ev) (o : List Nat) : M Fl := if o.contains i then (match getS r i, k with
  | some (.lst ds), .int j => (match ixN ds.length j with
    | some n => ret (.nxt (r.set i (some (.lst (ds.set n d)))) o)
    | none => stk)
  | _, _ => stk) else stk
def ownF (i : Nat) (d : D) (r : Ev) (o : List Nat) : M Fl := if isMut d then ret (.nxt (r.set i (some d)) (i :: offs o [i])) else ret (.nxt (r.set i (some d)) (offs o [i]))
def retF (i : Nat) (r : Ev) (o : List Nat) : M Fl := match getS r i with
  | some d => ret (if o.contains i then .retn d else .ret d)
  | none => stk
def parF (i j : Nat) (a b : D) (r : Ev) (o : List Nat) : M Fl := ret (.nxt ((r.set i (some a)).set j (some b)) (offs (offs o [i]) [j]))
def raiseF : D → Ev → List Nat → M Fl
  | .exn c fs, r, o => ret (.exc ⟨c, fs⟩ r o)
  | _, _, _ => stk
/-- except c as (slot i): slot j = it -/
def tryF (c : Str) (i j : Nat) (ns : List Str) : Fl → M Fl
  | .exc e r o => if ns.contains e.cls = true then (if isub e.cls c = true then ret (.nxt (((r.set i (some (.exn e.cls e.fs))).set j (some (.exn e.cls e.fs))).set i none) (offs (offs (offs o [i]) [j]) [i])) else ret (.exc e r o)) else stk
  | f => ret f
mutual
def ex (c : Cal) (fu : Nat) : T → Ev → List Nat → M Fl
  | .pass, r, o => ret (.nxt r o)
  | .brk, r, o => ret (.brk r o)
  | .cnt, r, o => ret (.cnt r o)
  | .ret e, r, o => evS (vars e) (ev c e) r o fun d _ => ret (.ret d)
  | .retn e, r, o => evS (vars e) (ev c e) r o fun d _ => ret (if isMut d then .retn d else .ret d)
  | .retv i, r, o => retF i r o
  | .retc t i, r, o => evS (vars t) (ev c t) r o fun x o1 => match x with
    | .bl true => ret (.ret .non)
    | .bl false => retF i r o1
    | _ => stk
  | .set t e, r, o => evS (vars e) (ev c e) r o fun d o1 => tbl t (fun r' o' => ret (.nxt r' o')) d r o1
  | .own i e, r, o => evS (vars e) (ev c e) r o fun d o1 => ownF i d r o1
  | .par i j a b, r, o => evS (vars a) (ev c a) r o fun d o1 => evS (vars b) (ev c b) r o1 fun d2 o2 => parF i j d d2 r o2
  | .app i e, r, o => if ownL i r o then evS (vars e) (ev c e) r o fun d o1 => appF i d r o1 else stk
  | .bad, _, _ => stk
  | .ext i e, r, o => if ownL i r o then evS (vars e) (ev c e) r o fun d o1 => extF i d r o1 else stk
  | .pop i, r, o => popF i r o
  | .seti i k e, r, o => evS (vars e) (ev c e) r o fun d o1 => if ownL i r o1 then evS (vars k) (ev c k) r o1 fun x o2 => setF i x d r o2 else stk
  | .ex e, r, o => evS (vars e) (ev c e) r o fun _ o1 => ret (.nxt r o1)
  | .ite t a b, r, o => evS (vars t) (ev c t) r o fun x o1 => match x with
    | .bl true => exs c fu a r o1
    | .bl false => exs c fu b r o1
    | _ => stk
  | .for_ t true it b, r, o => evR (vars it) (ev c it) r o fun x o1 => match itD x with
    | none => stk
    | some ds => forL (tbl t fun r' o' => exs c fu b r' o') ds r o1
  | .for_ t false it b, r, o => evF (vars it) (ev c it) r o fun x o1 => match itD x with
    | none => stk
    | some ds => forL (tbl t fun r' o' => exs c fu b r' o') ds r o1
  | .while_ t b, r, o => whL (fun r o k => evS (vars t) (ev c t) r o k) (fun r o => exs c fu b r o) fu r o
  | .raise e, r, o => evS (vars e) (ev c e) r o fun d o1 => raiseF d r o1
  | .tryk b n i j ns, r, o => bnd (exs c fu b r o) fun f => tryF n i j ns f
def exs (c : Cal) (fu : Nat) : List T → Ev → List Nat → M Fl
  | [], r, o => ret (.nxt r o)
  | s :: ss, r, o => bnd (ex c fu s r o) fun f => seqF f fun r' o' => exs c fu ss r' o'
end
/-! ### their readings -/
def PstS (K : PySem.W.Frag) (mg : Str → Option Value) (n : Nat) (Wx : WX) (W0 : Wd) (F0 : Addr → Prop) (H0 : Hp) (E : Ends) : Res Fl → Prop
  | .ok (.nxt r o) st => ∀ σ W F H, SR W F H st → Ext W0 F0 H0 W F H → RS K n W F H H0 σ r o → E.nx σ H
  | .ok (.brk r o) st => ∀ σ W F H, SR W F H st → Ext W0 F0 H0 W F H → RS K n W F H H0 σ r o → E.bk σ H
  | .ok (.cnt r o) st => ∀ σ W F H, SR W F H st → Ext W0 F0 H0 W F H → RS K n W F H H0 σ r o → E.ct σ H
  | .ok (.ret d) st => ∀ v W F H, SR W F H st → Ext W0 F0 H0 W F H → Rep K W d v → E.rt v H
  | .ok (.retn d) st => ∀ p W F H, SR W F H st → Ext W0 F0 H0 W F H → RepO K W F H H0 d p → E.rt (.ref p) H
  | .ok (.exc e r o) st => ∀ cls dx σ W F H, SR W F H st → Ext W0 F0 H0 W F H → RS K n W F H H0 σ r o → XR K mg W H e cls dx → Wx cls dx σ H
  | .exc _ _ => False
  | .stk => False
def tzS (X : Cx) (Wx : WX) (m : Ev → List Nat → M Fl) : TS := fun E σ H => ∃ W0 F0 H0 W F st r o, SR W F H st ∧ Ext W0 F0 H0 W F H ∧ RS X.K X.N.length W F H H0 σ r o ∧ PstS X.K X.mg X.N.length Wx W0 F0 H0 E (m r o st)
section
variable {K : PySem.W.Frag} {mg : Str → Option Value} {n : Nat} {Wx : WX} {W W0 : Wd} {F F0 : Addr → Prop} {H H0 : Hp} {st : Sto} {σ : L2.St} {r : Ev} {o vs : List Nat} {E : Ends} {me : Ev → M D} {k : D → List Nat → M Fl} {Q : VK}
theorem RepO.thereN {d : D} {v : V} (h : RepN K W F H H0 d v) (hm : isMut d = true) : ∃ p, v = .ref p ∧ RepO K W F H H0 d p := by
  unfold RepN at h
  rw [if_pos hm] at h; exact h
theorem evS_use (s : SR W F H st) (x0 : Ext W0 F0 H0 W F H) (rs : RS K n W F H H0 σ r o) (p : PstS K mg n Wx W0 F0 H0 E (evS vs me r o k st))
    (kk : ∀ d st1 v W1 F1 H1 o1, SR W1 F1 H1 st1 → Ext W0 F0 H0 W1 F1 H1 → W.Le W1 → RS K n W1 F1 H1 H0 σ r o1 → Rep K W1 d v → PstS K mg n Wx W0 F0 H0 E (k d o1 st1) → Q v H1) : tz K mg Wx vs me σ H Q := by
  refine ⟨frzW W H σ r o vs, F, st, r, frz_sr s rs, frz_rel s rs, ?_⟩
  unfold evS at p
  cases q : me r st with
  | ok d st1 =>
    rw [q] at p
    intro v W1 F1 H1 s1 x1 rv
    obtain ⟨W2, s2, x2, l2, rs2, rv2⟩ := after s rs x0 s1 x1 rv
    exact kk d st1 v W2 F1 H1 _ s2 x2 l2 rs2 rv2 p
  | exc e st1 =>
    rw [q] at p
    intro cls dx W1 F1 H1 s1 x1 xr
    exact p cls dx σ W1 F1 H1 s1 ((frz_ext s rs x0).trans x1) ((frz_rs s rs).ext x1) xr
  | stk => rw [q] at p; exact p
theorem evNr_use (s : SR W F H st) (x0 : Ext W0 F0 H0 W F H) (rs : RS K n W F H H0 σ r o) (p : PstS K mg n Wx W0 F0 H0 E (evS vs me r o k st))
    (kk : ∀ d st1 pa W1 F1 H1 o1, isMut d = true → SR W1 F1 H1 st1 → Ext W0 F0 H0 W1 F1 H1 → RepO K W1 F1 H1 H0 d pa → PstS K mg n Wx W0 F0 H0 E (k d o1 st1) → Q (.ref pa) H1)
    (k2 : ∀ d st1 v W1 F1 H1 o1, isMut d = false → SR W1 F1 H1 st1 → Ext W0 F0 H0 W1 F1 H1 → Rep K W1 d v → PstS K mg n Wx W0 F0 H0 E (k d o1 st1) → Q v H1) : tzN K mg Wx vs me σ H Q := by
  refine ⟨frzW W H σ r o vs, F, st, r, frz_sr s rs, frz_rel s rs, ?_⟩
  unfold evS at p
  cases q : me r st with
  | ok d st1 =>
    rw [q] at p
    intro v W1 F1 H1 s1 x1 rv
    by_cases hm : isMut d = true
    · obtain ⟨pa, rfl, ro⟩ := RepO.thereN rv hm
      exact kk d st1 pa W1 F1 H1 (flp o vs d) hm s1 ((frz_ext s rs x0).trans x1) (ro.back x0.there) p
    · unfold RepN at rv
      rw [if_neg hm] at rv
      exact k2 d st1 v W1 F1 H1 (flp o vs d) (by simpa using hm) s1 ((frz_ext s rs x0).trans x1) rv p
  | exc e st1 =>
    rw [q] at p
    intro cls dx W1 F1 H1 s1 x1 xr
    exact p cls dx σ W1 F1 H1 s1 ((frz_ext s rs x0).trans x1) ((frz_rs s rs).ext x1) xr
  | stk => rw [q] at p; exact p
theorem evN_use (s : SR W F H st) (x0 : Ext W0 F0 H0 W F H) (rs : RS K n W F H H0 σ r o) (p : PstS K mg n Wx W0 F0 H0 E (evS vs me r o k st)) (k2 : ∀ d st1 v W1 F1 H1 o1, isMut d = false → SR W1 F1 H1 st1 → Ext W0 F0 H0 W1 F1 H1 → RS K n W1 F1 H1 H0 σ r o1 → Rep K W1 d v → PstS K mg n Wx W0 F0 H0 E (k d o1 st1) → Q v H1)
    (kk : ∀ d st1 pa W1 F1 H1 o1, isMut d = true → SR W1 F1 H1 st1 → Ext W0 F0 H0 W1 F1 H1 → RS K n W1 F1 H1 H0 σ r o1 → RepO K W1 F1 H1 H0 d pa → (∀ i, i ∈ o1 → ∀ d', getS r i = some d' → σ[i]? ≠ some (some (.ref pa))) → PstS K mg n Wx W0 F0 H0 E (k d o1 st1) → Q (.ref pa) H1) : tzN K mg Wx vs me σ H Q := by
  refine ⟨frzW W H σ r o vs, F, st, r, frz_sr s rs, frz_rel s rs, ?_⟩
  unfold evS at p
  cases q : me r st with
  | ok d st1 =>
    rw [q] at p
    intro v W1 F1 H1 s1 x1 rv
    by_cases hm : isMut d = true
    · obtain ⟨pa, rfl, ro⟩ := RepO.thereN rv hm
      have hi : imm d = false := by cases d <;> first | rfl | cases hm
      have rs1 := (frz_rs (vs := vs) s rs).ext x1
      refine kk d st1 pa W1 F1 H1 (flp o vs d) hm s1 ((frz_ext s rs x0).trans x1) ?_ (ro.back x0.there) (fun i hi' d' g => ?_) p
      · unfold flp; rw [if_neg (by rw [hi]; decide)]; exact rs1
      · unfold flp at hi'
        rw [if_neg (by rw [hi]; decide)] at hi'
        obtain ⟨p2, e2, k2⟩ := rs.ow i (mem_offs.mp hi').1 d' g
        obtain ⟨y, hy⟩ := k2.there
        rw [e2]
        intro z
        cases z
        rw [ro.1] at hy; cases hy
    · unfold RepN at rv
      rw [if_neg hm] at rv
      obtain ⟨W2, s2, x2, l2, rs2, rv2⟩ := after s rs x0 s1 x1 rv
      exact k2 d st1 v W2 F1 H1 _ (by simpa using hm) s2 x2 rs2 rv2 p
  | exc e st1 =>
    rw [q] at p
    intro cls dx W1 F1 H1 s1 x1 xr
    exact p cls dx σ W1 F1 H1 s1 ((frz_ext s rs x0).trans x1) ((frz_rs s rs).ext x1) xr
  | stk => rw [q] at p; exact p
end
mutual
theorem asg_out {i : Nat} : ∀ {t : Tg} {d : D} {r r' : Ev}, asg t d r = some r' → i ∉ tgs t → getS r' i = getS r i
  | .nm j, d, r, r', h, hi => by
    rw [asg] at h; cases h
    exact getS_set (by simpa [tgs] using hi)
  | .tp ts, d, r, r', h, hi => by
    cases d <;> (try rw [asg] at h) <;> first | (cases h; done) | skip
    case tup ds => exact asgs_out h (by rw [tgs] at hi; exact hi)
    all_goals (exact absurd h (by simp))
theorem asgs_out {i : Nat} : ∀ {ts : List Tg} {ds : List D} {r r' : Ev}, asgs ts ds r = some r' → i ∉ tgss ts → getS r' i = getS r i
  | [], [], r, r', h, _ => by rw [asgs] at h; cases h; rfl
  | [], _ :: _, _, _, h, _ => by rw [asgs] at h <;> first | cases h | (intros; simp_all)
  | _ :: _, [], _, _, h, _ => by rw [asgs] at h <;> first | cases h | (intros; simp_all)
  | t :: ts, d :: ds, r, r', h, hi => by
    rw [asgs, Option.bind_eq_some_iff] at h
    obtain ⟨r1, h1, h2⟩ := h
    rw [tgss, List.mem_append, not_or] at hi
    rw [asgs_out h2 hi.2, asg_out h1 hi.1]
end
section
variable {K : PySem.W.Frag} {mg : Str → Option Value} {n : Nat} {Wx : WX} {W W0 : Wd} {F F0 : Addr → Prop} {H H0 : Hp} {st : Sto} {σ σ' : L2.St} {r r' : Ev} {o vs : List Nat} {E : Ends} {d : D} {v : V} {t : Tg}
theorem RS.asg (h : RS K n W F H H0 σ r (offs o (tgs t))) (e : asg t d r = some r') (n1 : σ'.length = σ.length) (k1 : ∀ vs, RelE K W vs σ r → RelE K W vs σ' r') (o1 : ∀ i, i ∉ tgs t → σ'[i]? = σ[i]?) : RS K n W F H H0 σ' r' (offs o (tgs t)) where
  ln := n1.trans h.ln
  fr := fun i hi d' g => k1 [i] (fun j hj d'' g' => by rw [List.mem_singleton.mp hj] at g' ⊢; exact h.fr i hi d'' g') i (by simp) d' g
  ow := fun i hi d' g => by
    have ni := (mem_offs.mp hi).2
    rw [asg_out e ni] at g
    rw [o1 i ni]; exact h.ow i hi d' g
  ap := fun i j hi hj ne d1 d2 g1 g2 p => by
    have ni := (mem_offs.mp hi).2
    have nj := (mem_offs.mp hj).2
    rw [asg_out e ni] at g1
    rw [asg_out e nj] at g2
    rw [o1 i ni, o1 j nj]; exact h.ap i j hi hj ne d1 d2 g1 g2 p
/-- names set to a frozen value -/
theorem tbl_use {f : Ev → List Nat → M Fl} {Q : L2.St → Hp → Prop} (s : SR W F H st) (x0 : Ext W0 F0 H0 W F H) (rs : RS K n W F H H0 σ r o) (rv : Rep K W d v) (hlt : ∀ i ∈ tgs t, i < n) (p : PstS K mg n Wx W0 F0 H0 E (tbl t f d r o st))
    (kk : ∀ σ' W1 r' o1, SR W1 F H st → Ext W0 F0 H0 W1 F H → RS K n W1 F H H0 σ' r' o1 → PstS K mg n Wx W0 F0 H0 E (f r' o1 st) → Q σ' H) : gz K t v σ H Q := by
  unfold tbl at p
  cases e : asg t d r with
  | none => rw [e] at p; exact p.elim
  | some r' =>
    rw [e] at p
    exact ⟨frzW W H σ r o (tgs t), F, st, r, d, r', frz_sr s rs, rv.mono (frz_le s), e, fun i hi => by rw [rs.ln]; exact hlt i hi, fun σ' n1 k1 _ o1 => kk σ' _ r' _ (frz_sr s rs) (frz_ext s rs x0) ((frz_rs s rs).asg e n1 k1 o1) p⟩
theorem RS.put {i : Nat} (h : RS K n W F H H0 σ r o) (hi : i < n) (rv : Rep K W d v) : RS K n W F H H0 (σ.set i (some v)) (r.set i (some d)) (offs o [i]) where
  ln := by rw [List.length_set]; exact h.ln
  fr := fun j hj d' g => by
    by_cases e : j = i
    · subst e
      have := getS_self g
      cases this
      exact ⟨v, by rw [List.getElem?_set_self (by rw [h.ln]; exact hi)], rv⟩
    · have : j ∉ o := fun z => hj (mem_offs.mpr ⟨z, by simpa using e⟩)
      rw [getS_set e] at g
      rw [List.getElem?_set_ne (Ne.symm e)]
      exact h.fr j this d' g
  ow := fun j hj d' g => by
    obtain ⟨jo, jn⟩ := mem_offs.mp hj
    have e : j ≠ i := by simpa using jn
    rw [getS_set e] at g
    rw [List.getElem?_set_ne (Ne.symm e)]
    exact h.ow j jo d' g
  ap := fun a b ha hb ne d1 d2 g1 g2 => by
    obtain ⟨ao, an⟩ := mem_offs.mp ha
    obtain ⟨bo, bn⟩ := mem_offs.mp hb
    have ea : a ≠ i := by simpa using an
    have eb : b ≠ i := by simpa using bn
    rw [getS_set ea] at g1
    rw [getS_set eb] at g2
    rw [List.getElem?_set_ne (Ne.symm ea), List.getElem?_set_ne (Ne.symm eb)]
    exact h.ap a b ao bo ne d1 d2 g1 g2
/-- a name set to an own value -/
theorem RS.own {i : Nat} {pa : Addr} (h : RS K n W F H H0 σ r o) (hi : i < n) (ro : RepO K W F H H0 d pa) (hn : ∀ i, i ∈ o → ∀ d', getS r i = some d' → σ[i]? ≠ some (some (.ref pa))) :
    RS K n W F H H0 (σ.set i (some (.ref pa))) (r.set i (some d)) (i :: offs o [i]) where
  ln := by rw [List.length_set]; exact h.ln
  fr := fun j hj d' g => by
    rw [List.mem_cons, not_or] at hj
    have : j ∉ o := fun z => hj.2 (mem_offs.mpr ⟨z, by simpa using hj.1⟩)
    rw [getS_set hj.1] at g
    rw [List.getElem?_set_ne (Ne.symm hj.1)]
    exact h.fr j this d' g
  ow := fun j hj d' g => by
    by_cases e : j = i
    · subst e
      have := getS_self g
      cases this
      exact ⟨pa, by rw [List.getElem?_set_self (by rw [h.ln]; exact hi)], ro⟩
    · rcases List.mem_cons.mp hj with z | z
      · exact absurd z e
      · rw [getS_set e] at g
        rw [List.getElem?_set_ne (Ne.symm e)]
        exact h.ow j (mem_offs.mp z).1 d' g
  ap := fun a b ha hb ne d1 d2 g1 g2 p => by
    have inO : ∀ {x}, x ∈ i :: offs o [i] → x ≠ i → x ∈ o := fun hx e => by
      rcases List.mem_cons.mp hx with z | z
      · exact absurd z e
      · exact (mem_offs.mp z).1
    by_cases ea : a = i
    · subst ea
      have eb : b ≠ a := fun z => ne z.symm
      rw [List.getElem?_set_self (by rw [h.ln]; exact hi), List.getElem?_set_ne (Ne.symm eb)]
      rw [getS_set eb] at g2
      intro z
      cases z
      exact hn b (inO hb eb) d2 g2
    · by_cases eb : b = i
      · subst eb
        rw [List.getElem?_set_ne (Ne.symm ea), List.getElem?_set_self (by rw [h.ln]; exact hi)]
        rw [getS_set ea] at g1
        intro z z2
        cases z2
        exact hn a (inO ha ea) d1 g1 z
      · rw [getS_set ea] at g1
        rw [getS_set eb] at g2
        rw [List.getElem?_set_ne (Ne.symm ea), List.getElem?_set_ne (Ne.symm eb)]
        exact h.ap a b (inO ha ea) (inO hb eb) ne d1 d2 g1 g2 p
/-- an own list is written -/
theorem RS.write {i : Nat} {pa : Addr} {xs : List V} {ds es : List D} (h : RS K n W F H H0 σ r o) (hi : i ∈ o) (g : getS r i = some (.lst ds)) (e : σ[i]? = some (some (.ref pa))) (rn : Reps K W es xs) :
    RS K n W F (upd H pa (.lst xs)) H0 σ (r.set i (some (.lst es))) o := by
  have ne : ∀ j, j ∈ o → j ≠ i → ∀ d', getS r j = some d' → ∀ q, σ[j]? = some (some (.ref q)) → q ≠ pa := fun j hj e1 d' g' q e2 e3 => by
    subst e3
    exact h.ap j i hj hi e1 d' _ g' g q e2 e
  refine ⟨h.ln, fun j hj d' g' => ?_, fun j hj d' g' => ?_, fun a b ha hb ne' d1 d2 g1 g2 => ?_⟩
  · have : j ≠ i := fun z => hj (z ▸ hi)
    rw [getS_set this] at g'
    exact h.fr j hj d' g'
  · by_cases z : j = i
    · subst z
      have := getS_self g'
      cases this
      obtain ⟨q, e2, k⟩ := h.ow j hj _ g
      rw [e] at e2
      cases e2
      exact ⟨pa, e, k.1, k.2.1, k.2.2.1, .inl ⟨es, xs, rfl, upd_same, rn⟩⟩
    · rw [getS_set z] at g'
      obtain ⟨q, e2, k⟩ := h.ow j hj d' g'
      have nq := ne j hj z d' g' q e2
      refine ⟨q, e2, k.1, k.2.1, k.2.2.1, ?_⟩
      rw [upd_ne nq]; exact k.2.2.2
  · have gg : ∀ {x d'}, getS (r.set i (some (.lst es))) x = some d' → ∃ d'', getS r x = some d'' := fun {x d'} q => by
      by_cases z : x = i
      · subst z; exact ⟨_, g⟩
      · rw [getS_set z] at q; exact ⟨_, q⟩
    obtain ⟨d1', g1'⟩ := gg g1
    obtain ⟨d2', g2'⟩ := gg g2
    exact h.ap a b ha hb ne' d1' d2' g1' g2'
end
end Z
set_option Elab.async false
set_option linter.all false
set_option maxRecDepth 100000
set_option maxHeartbeats 2000000
namespace Z
open PySem PySem.Spec PyProof.Rows L2 TL

section
variable {K : PySem.W.Frag} {mg : Str → Option Value} {n : Nat} {Wx : WX} {W W0 W1 : Wd} {F F0 F1 : Addr → Prop} {H H0 H1 : Hp} {st : Sto} {σ : L2.St} {r : Ev} {o vs : List Nat} {E E' : Ends}
theorem Ext.up (x1 : Ext W0 F0 H0 W1 F1 H1) (x : Ext W1 F0 H0 W F H) : Ext W0 F0 H0 W F H where
  le := x1.le.trans x.le
  keep := x.keep
  there := x.there
  foot := x.foot
  newf := x.newf
  fz := fun p y e => (x.fz p y e).elim (fun z => x1.fz p y z) .inr
theorem Ext.self (x1 : Ext W0 F0 H0 W F H) : Ext W F0 H0 W F H where
  le := .refl
  keep := x1.keep
  there := x1.there
  foot := x1.foot
  newf := x1.newf
  fz := fun p y e => .inl e
theorem PstS.up (x1 : Ext W0 F0 H0 W1 F1 H1) : ∀ {q : Res Fl}, PstS K mg n Wx W0 F0 H0 E q → PstS K mg n Wx W1 F0 H0 E q
  | .ok (.nxt r o) st, h => fun σ W F H s x => h σ W F H s (x1.up x)
  | .ok (.brk r o) st, h => fun σ W F H s x => h σ W F H s (x1.up x)
  | .ok (.cnt r o) st, h => fun σ W F H s x => h σ W F H s (x1.up x)
  | .ok (.ret d) st, h => fun v W F H s x => h v W F H s (x1.up x)
  | .ok (.retn d) st, h => fun v W F H s x => h v W F H s (x1.up x)
  | .ok (.exc e r o) st, h => fun c dx σ W F H s x => h c dx σ W F H s (x1.up x)
  | .exc _ _, h => h.elim
  | .stk, h => h.elim
/-- what comes first, seen from what comes then -/
theorem PstS.bnd {m : M Fl} {f : Fl → M Fl} (p : PstS K mg n Wx W0 F0 H0 E (bnd m f st))
    (hn : ∀ r o st', PstS K mg n Wx W0 F0 H0 E (f (.nxt r o) st') → ∀ σ W F H, SR W F H st' → Ext W0 F0 H0 W F H → RS K n W F H H0 σ r o → E'.nx σ H)
    (hb : ∀ r o st', PstS K mg n Wx W0 F0 H0 E (f (.brk r o) st') → ∀ σ W F H, SR W F H st' → Ext W0 F0 H0 W F H → RS K n W F H H0 σ r o → E'.bk σ H)
    (hc : ∀ r o st', PstS K mg n Wx W0 F0 H0 E (f (.cnt r o) st') → ∀ σ W F H, SR W F H st' → Ext W0 F0 H0 W F H → RS K n W F H H0 σ r o → E'.ct σ H)
    (hr : ∀ d, f (.ret d) = ret (.ret d) ∧ f (.retn d) = ret (.retn d)) (hrt : E'.rt = E.rt) (hx : ∀ e r o, f (.exc e r o) = ret (.exc e r o)) : PstS K mg n Wx W0 F0 H0 E' (m st) := by
  unfold Z.bnd at p
  cases q : m st with
  | ok x st' =>
    rw [q] at p
    have p : PstS K mg n Wx W0 F0 H0 E (f x st') := p
    cases x with
    | nxt r o => exact hn r o st' p
    | brk r o => exact hb r o st' p
    | cnt r o => exact hc r o st' p
    | retn d => rw [(hr d).2] at p; intro v W F H s x rv; rw [hrt]; exact p v W F H s x rv
    | ret d => rw [(hr d).1] at p; intro v W F H s x rv; rw [hrt]; exact p v W F H s x rv
    | exc e r o => rw [hx] at p; exact p
  | exc e st' => rw [q] at p; exact p.elim
  | stk => rw [q] at p; exact p.elim
end
section
variable {X : Cx} {Wx : WX} {e : Expr} {m : E} {va vk : List Nat} {me mk : Ev → M D} {pos : Pos} {t : Tg} {i : Nat} {x : Str} {c : Cal}
theorem p_pass : PS X (.Pass pos) (tzS X Wx fun r o => ret (.nxt r o)) := PS.imp ps_pass fun D σ H ⟨W0, F0, H0, W, F, st, r, o, s, x0, rs, p⟩ => p σ W F H s x0 rs
theorem p_doc {y : Str} {j pos'} : PS X (.Expr (.Constant (.str y) j pos) pos') (tzS X Wx fun r o => ret (.nxt r o)) := PS.imp ps_doc fun D σ H ⟨W0, F0, H0, W, F, st, r, o, s, x0, rs, p⟩ => p σ W F H s x0 rs
theorem p_brk : PS X (.Break pos) (tzS X Wx fun r o => ret (.brk r o)) := PS.imp ps_break fun D σ H ⟨W0, F0, H0, W, F, st, r, o, s, x0, rs, p⟩ => p σ W F H s x0 rs
theorem p_cnt : PS X (.Continue pos) (tzS X Wx fun r o => ret (.cnt r o)) := PS.imp ps_continue fun D σ H ⟨W0, F0, H0, W, F, st, r, o, s, x0, rs, p⟩ => p σ W F H s x0 rs
theorem p_ret (he : PE X e (tz X.K X.mg Wx va me)) : PS X (.Return (some e) pos) (tzS X Wx fun r o => evS va me r o fun d _ => ret (.ret d)) :=
  PS.imp (ps_ret he) fun D σ H ⟨W0, F0, H0, W, F, st, r, o, s, x0, rs, p⟩ => evS_use s x0 rs p fun d st1 v W1 F1 H1 o1 s1 x1 _ rs1 rv p1 => p1 v W1 F1 H1 s1 x1 rv
theorem p_retn (he : PE X e (tzN X.K X.mg Wx va me)) : PS X (.Return (some e) pos) (tzS X Wx fun r o => evS va me r o fun d _ => ret (if isMut d then .retn d else .ret d)) :=
  PS.imp (ps_ret he) fun D σ H ⟨W0, F0, H0, W, F, st, r, o, s, x0, rs, p⟩ => evNr_use s x0 rs p
    (fun d st1 pa W1 F1 H1 o1 hm s1 x1 ro p1 => by rw [if_pos hm] at p1; exact p1 pa W1 F1 H1 s1 x1 ro)
    (fun d st1 v W1 F1 H1 o1 hm s1 x1 rv p1 => by rw [if_neg (by rw [hm]; decide)] at p1; exact p1 v W1 F1 H1 s1 x1 rv)
theorem p_retv {p : Pos} (hN : X.N[i]? = some x) (hv : Vis X.env.scope x) (hd : (x == ("__debug__" : Str)) = false) (hcd : (x == ("__classdict__" : Str)) = false) : PS X (.Return (some (.Name x p)) pos) (tzS X Wx fun r o => retF i r o) :=
  PS.imp (ps_ret (pe_var hN hv hd hcd)) fun D σ H ⟨W0, F0, H0, W, F, st, r, o, s, x0, rs, p⟩ => by
    dsimp only at p
    unfold retF at p
    cases g : getS r i with
    | none => rw [g] at p; exact p.elim
    | some d =>
      rw [g] at p
      by_cases io : o.contains i = true
      · obtain ⟨pa, e, ro⟩ := rs.ow i (by simpa using io) d g
        have p : PstS X.K X.mg X.N.length Wx W0 F0 H0 D (ret (if o.contains i then Fl.retn d else Fl.ret d) st) := p
        rw [if_pos io] at p
        exact ⟨_, e, p pa W F H s x0 ro⟩
      · obtain ⟨v, e, rv⟩ := rs.fr i (by simpa using io) d g
        have p : PstS X.K X.mg X.N.length Wx W0 F0 H0 D (ret (if o.contains i then Fl.retn d else Fl.ret d) st) := p
        rw [if_neg io] at p
        exact ⟨_, e, p v W F H s x0 rv⟩
theorem retF_use {Wx : WX} {W0 : Wd} {F0 : Addr → Prop} {H0 : Hp} {D : Ends} {W : Wd} {F : Addr → Prop} {H : Hp} {st : Sto} {σ : L2.St} {r : Ev} {o : List Nat} (s : SR W F H st) (x0 : Ext W0 F0 H0 W F H) (rs : RS X.K X.N.length W F H H0 σ r o)
    (p : PstS X.K X.mg X.N.length Wx W0 F0 H0 D (retF i r o st)) : ∃ v, σ[i]? = some (some v) ∧ D.rt v H := by
  unfold retF at p
  cases g : getS r i with
  | none => rw [g] at p; exact p.elim
  | some d =>
    rw [g] at p
    by_cases io : o.contains i = true
    · obtain ⟨pa, e, ro⟩ := rs.ow i (by simpa using io) d g
      have p : PstS X.K X.mg X.N.length Wx W0 F0 H0 D (ret (if o.contains i then Fl.retn d else Fl.ret d) st) := p
      rw [if_pos io] at p
      exact ⟨_, e, p pa W F H s x0 ro⟩
    · obtain ⟨v, e, rv⟩ := rs.fr i (by simpa using io) d g
      have p : PstS X.K X.mg X.N.length Wx W0 F0 H0 D (ret (if o.contains i then Fl.retn d else Fl.ret d) st) := p
      rw [if_neg io] at p
      exact ⟨_, e, p v W F H s x0 rv⟩
theorem p_retc {p p2 p3 : Pos} {j : Nat} {d : Expr} (ht : PT X d (tzT X Wx va me)) (hN : X.N[i]? = some x) (hv : Vis X.env.scope x) (hd : (x == ("__debug__" : Str)) = false) (hcd : (x == ("__classdict__" : Str)) = false) :
    PS X (.Return (some (.IfExp d (.Constant .none j p2) (.Name x p) p3)) pos) (tzS X Wx fun r o => evS va me r o fun x o1 => match x with | .bl true => ret (.ret .non) | .bl false => retF i r o1 | _ => stk) :=
  PS.imp (ps_ret (pe_ifExp ht pe_non (pe_var hN hv hd hcd))) fun D σ H ⟨W0, F0, H0, W, F, st, r, o, s, x0, rs, p⟩ =>
    evS_use s x0 rs p fun d st1 v W1 F1 H1 o1 s1 x1 _ rs1 rv p1 => by
      cases d <;> first | exact False.elim p1 | skip
      rename_i t
      rw [Rep] at rv; subst rv
      refine ⟨t, rfl, ?_⟩
      cases t with
      | true => exact p1 .non W1 F1 H1 s1 x1 (by rw [Rep])
      | false => exact retF_use s1 x1 rs1 p1
theorem p_ret0 : PS X (.Return none pos) (tzS X Wx fun r o => ret (.ret .non)) :=
  PS.imp ps_retN fun D σ H ⟨W0, F0, H0, W, F, st, r, o, s, x0, rs, p⟩ => p .non W F H s x0 (by rw [Rep])
theorem p_set {tg : Expr} (hlt : ∀ i ∈ tgs t, i < X.N.length) (he : PE X e (tz X.K X.mg Wx va me)) (hg : PG X tg (gz X.K t)) (hs : swapsWithSole [tg] e pos.line X.env = pure false) (hw : swappedStores [tg] e X.env = pure none)
    (h1 : (assignEach [tg] X.env).map (·.2) = [assign tg X.env]) : PS X (.Assign [tg] e pos) (tzS X Wx fun r o => evS va me r o fun d o1 => tbl t (fun r' o' => ret (.nxt r' o')) d r o1) :=
  PS.imp (ps_asg he hg hs hw h1) fun D σ H ⟨W0, F0, H0, W, F, st, r, o, s, x0, rs, p⟩ => evS_use s x0 rs p fun d st1 v W1 F1 H1 o1 s1 x1 _ rs1 rv p1 =>
    tbl_use s1 x1 rs1 rv hlt p1 fun σ' W2 r' o2 s2 x2 rs2 p2 => p2 σ' W2 F1 H1 s2 x2 rs2
theorem own_key {D : Ends} {σ : L2.St} {H : Hp} (hi : i < X.N.length) (h : tzS X Wx (fun r o => evS va me r o fun d o1 => ownF i d r o1) D σ H) : tzN X.K X.mg Wx va me σ H (fun x H1 => gName i x σ H1 D.nx) := by
  obtain ⟨W0, F0, H0, W, F, st, r, o, s, x0, rs, p⟩ := h
  refine evN_use s x0 rs p (fun d st1 v W1 F1 H1 o1 hm s1 x1 rs1 rv p1 => ?_) fun d st1 pa W1 F1 H1 o1 hm s1 x1 rs1 ro fr p1 => ?_
  · unfold ownF at p1
    rw [if_neg (by rw [hm]; decide)] at p1
    exact p1 _ W1 F1 H1 s1 x1 (rs1.put hi rv)
  · unfold ownF at p1
    rw [if_pos hm] at p1
    exact p1 _ W1 F1 H1 s1 x1 (rs1.own hi ro fr)
theorem p_own {p : Pos} (hN : X.N.Nodup) (hi : X.N[i]? = some x) (hx : Loc X.env.scope x) (hf : X.fn x = true ∨ X.env.scope.names.lookup x = some .local) (he : PE X e (tzN X.K X.mg Wx va me)) (hs : swapsWith e (some (.Name x p)) pos.line X.env = pure false) :
    PS X (.Assign [.Name x p] e pos) (tzS X Wx fun r o => evS va me r o fun d o1 => ownF i d r o1) :=
  PS.imp (ps_set hN hi hx he hs hf) fun D σ H h => own_key (List.getElem?_eq_some_iff.mp hi).1 h
theorem PS.impI {X : Cx} {e : Stmt} {t t' : TS} (h : PS X e t) (i : ∀ D σ H, σ.length = X.N.length → t' D σ H → t D σ H) : PS X e t' := ⟨fun pins s σ H D I q => h.run pins s σ H D I (i _ _ _ I.len q)⟩
theorem p_ownLc {elt tg iter : Expr} {ifs : List Expr} {scope : Scope} {own : List (Str × Nat)} {vi vc ve : List Nat} {mi mc me : Ev → M D} {p lp : Pos} (hc : X.calm = true) (hN : X.N.Nodup) (hi : X.N[i]? = some x) (hl : X.env.scope.names.lookup x = some .local)
    (hsw : swapsWith (.ListComp elt [⟨tg, iter, ifs, 0⟩] scope lp) (some (.Name x p)) pos.line X.env = pure true) (ok : BlkOk X.N X.env.scope scope own) (hit : PI X tg iter (tzi X.K X.mg Wx vi mi))
    (hg : ∀ (s : Shared) (H : Hp) (C : Addr) (cl : List (Str × Addr)) (fp : List Addr), PG (X.blk s H scope (compEnvC scope cl C X.env) fp) tg (gz X.K t))
    (ht : ∀ (s : Shared) (H : Hp) (C : Addr) (cl : List (Str × Addr)) (fp : List Addr), PTs (X.blk s H scope (compEnvC scope cl C X.env) fp) ifs (tzT X Wn vc mc))
    (he : ∀ (s : Shared) (H : Hp) (C : Addr) (cl : List (Str × Addr)) (fp : List Addr), PE (X.blk s H scope (compEnvC scope cl C X.env) fp) elt (tz X.K X.mg Wn ve me))
    (hs : ∀ x, foldedSetIterable iter X.env x = pure x) (hw : ∀ i ∈ tgs t, i ∈ own.map (·.2)) (hlt : ∀ i ∈ tgs t, i < X.N.length) :
    PS X (.Assign [.Name x p] (.ListComp elt [⟨tg, iter, ifs, 0⟩] scope lp) pos) (tzS X Wx fun r o => evS (vi ++ (vc ++ ve)) (lcM t (own.map (·.2)) mi mc me) r o fun d o1 => ownF i d r o1) :=
  PS.impI (ps_setLc hc hN hi hl hsw hit ok hg ht he hs) fun D σ H hlen h => lc_readN hw (fun i hi => by rw [hlen]; exact hlt i hi) (wipe_length _ _) (own_key (List.getElem?_eq_some_iff.mp hi).1 h)
theorem ownL_ok {r : Ev} {o : List Nat} (h : ownL i r o = true) : i ∈ o ∧ ∃ ds, getS r i = some (.lst ds) := by
  unfold ownL at h
  rw [Bool.and_eq_true] at h
  refine ⟨by simpa using h.1, ?_⟩
  have h2 := h.2
  split at h2
  · rename_i ds e; exact ⟨ds, e⟩
  · cases h2
theorem RepO.lst {K : PySem.W.Frag} {W : Wd} {F : Addr → Prop} {H H0 : Hp} {ds : List D} {pa : Addr} (h : RepO K W F H H0 (.lst ds) pa) : ∃ vs, H pa = some (.lst vs) ∧ Reps K W ds vs := by
  obtain ⟨_, _, _, k⟩ := h
  rcases k with ⟨ds', vs, e, h1, h2⟩ | ⟨_, _, e, _⟩
  · cases e; exact ⟨vs, h1, h2⟩
  · cases e
theorem p_app {apos cpos p : Pos} (hN : X.N[i]? = some x) (hv : Vis X.env.scope x) (hd : (x == ("__debug__" : Str)) = false) (hcd : (x == ("__classdict__" : Str)) = false) (hn : notStar e = true) (hl : (apos.endLine == cpos.line) = true) (he : PE X e (tz X.K X.mg Wx va me)) :
    PS X (.Expr (.Call (.Attribute (.Name x p) "append" apos) [e] [] cpos) pos) (tzS X Wx fun r o => if ownL i r o then evS va me r o fun d o1 => appF i d r o1 else stk) :=
  PS.imp (ps_expr (pe_bm PySem.F.plainAttrs_list PySem.F.slot_list_append PySem.F.type_list_append mt_append (pe_var hN hv hd hcd) (pa_cons he pa_nil (star_ok hn)) (by rfl) (by rw [star_ok hn]; rfl) hl (star_ok hn) (by rfl)) (by rfl)) fun D σ H ⟨W0, F0, H0, W, F, st, r, o, s, x0, rs, p⟩ => by
    by_cases ho : ownL i r o = true
    · have p : PstS X.K X.mg X.N.length Wx W0 F0 H0 D (evS va me r o (fun d o1 => appF i d r o1) st) := by simpa only [ho, if_true] using p
      obtain ⟨io, ds, g⟩ := ownL_ok ho
      obtain ⟨pa, e1, ro⟩ := rs.ow i io _ g
      obtain ⟨vs, hp, rvs⟩ := ro.lst
      refine ⟨_, e1, .inl ⟨rfl, vs, SqL.of hp⟩, evS_use s x0 rs p fun d st1 v W1 F1 H1 o1 s1 x1 l1 rs1 rv p1 => ?_⟩
      unfold appF at p1
      split at p1
      · rename_i io1
        rw [g] at p1
        have p1 : PstS X.K X.mg X.N.length Wx W0 F0 H0 D ((if ds.length < 16777216 then ret (.nxt (r.set i (some (.lst (ds ++ [d])))) o1) else stk) st1) := p1
        split at p1
        · rename_i hz
          have io1 : i ∈ o1 := by simpa using io1
          obtain ⟨pa', e2, ro2⟩ := rs1.ow i io1 _ g
          rw [e1] at e2
          cases e2
          obtain ⟨us, hp1, rus⟩ := ro2.lst
          have hlen := rus.length
          refine ⟨pa, us, v, rfl, rfl, hp1, ?_, ?_⟩
          · rw [← hlen]; exact Nat.lt_of_lt_of_le hz (by decide)
          · exact p1 _ W1 F1 _ (s1.write ro2.2.1 ro2.2.2.1 fun xs z => by
              rcases z with z | z
              · cases z; rw [List.length_append, ← hlen]; exact Nat.le_trans hz (by decide)
              · cases z) (x1.write ro2.1) (rs1.write io1 g e1 (rus.append (by rw [Reps]; exact ⟨v, [], rfl, rv, by rw [Reps]⟩)))
        · exact p1.elim
      · exact p1.elim
    · dsimp only at p
      rw [if_neg ho] at p; exact p.elim
theorem p_bad {st : Stmt} : PS X st (tzS X Wx fun _ _ => stk) := ⟨fun pins s σ H D I q => by
  obtain ⟨_, _, _, _, _, _, _, _, _, _, _, z⟩ := q
  exact z.elim⟩
theorem p_ext {apos cpos p : Pos} (hN : X.N[i]? = some x) (hv : Vis X.env.scope x) (hd : (x == ("__debug__" : Str)) = false) (hcd : (x == ("__classdict__" : Str)) = false) (hn : notStar e = true) (hl : (apos.endLine == cpos.line) = true) (he : PE X e (tz X.K X.mg Wx va me)) :
    PS X (.Expr (.Call (.Attribute (.Name x p) "extend" apos) [e] [] cpos) pos) (tzS X Wx fun r o => if ownL i r o then evS va me r o fun d o1 => extF i d r o1 else stk) :=
  PS.imp (ps_expr (pe_bm PySem.F.plainAttrs_list PySem.F.slot_list_extend PySem.F.type_list_extend mt_extend (pe_var hN hv hd hcd) (pa_cons he pa_nil (star_ok hn)) (by rfl) (by rw [star_ok hn]; rfl) hl (star_ok hn) (by rfl)) (by rfl)) fun D σ H ⟨W0, F0, H0, W, F, st, r, o, s, x0, rs, p⟩ => by
    by_cases ho : ownL i r o = true
    · have p : PstS X.K X.mg X.N.length Wx W0 F0 H0 D (evS va me r o (fun d o1 => extF i d r o1) st) := by simpa only [ho, if_true] using p
      obtain ⟨io, ds, g⟩ := ownL_ok ho
      obtain ⟨pa, e1, ro⟩ := rs.ow i io _ g
      obtain ⟨vs, hp, rvs⟩ := ro.lst
      refine ⟨_, e1, .inl ⟨rfl, vs, SqL.of hp⟩, evS_use s x0 rs p fun d st1 v W1 F1 H1 o1 s1 x1 l1 rs1 rv p1 => ?_⟩
      unfold extF at p1
      split at p1
      · rename_i io1
        rw [g] at p1
        cases d <;> first | exact p1.elim | skip
        rename_i es
        have p1 : PstS X.K X.mg X.N.length Wx W0 F0 H0 D ((if ds.length + es.length ≤ 16777216 then ret (.nxt (r.set i (some (.lst (ds ++ es)))) o1) else stk) st1) := p1
        split at p1
        · rename_i hz
          have io1 : i ∈ o1 := by simpa using io1
          obtain ⟨pa', e2, ro2⟩ := rs1.ow i io1 _ g
          rw [e1] at e2
          cases e2
          obtain ⟨us, hp1, rus⟩ := ro2.lst
          have hlen := rus.length
          rw [Rep] at rv
          obtain ⟨b, zs, rfl, hb, rz⟩ := rv
          have hlz := rz.length
          refine ⟨pa, b, us, zs, rfl, rfl, hp1, s1.sub _ _ hb, ?_, ?_⟩
          · rw [← hlen, ← hlz]; exact Nat.le_trans hz (by decide)
          · exact p1 _ W1 F1 _ (s1.write ro2.2.1 ro2.2.2.1 fun xs z => by
              rcases z with z | z
              · cases z; rw [List.length_append, ← hlen, ← hlz]; exact Nat.le_trans hz (by decide)
              · cases z) (x1.write ro2.1) (rs1.write io1 g e1 (rus.append rz))
        · exact p1.elim
      · exact p1.elim
    · dsimp only at p
      rw [if_neg ho] at p; exact p.elim
theorem Reps.dropLast {K : PySem.W.Frag} {W : Wd} : ∀ {ds : List D} {vs : List V}, Reps K W ds vs → Reps K W ds.dropLast vs.dropLast
  | [], _, h => by rw [Reps] at h; subst h; rw [List.dropLast_nil, List.dropLast_nil, Reps]
  | [d], _, h => by
    rw [Reps] at h
    obtain ⟨v, r, rfl, h1, h2⟩ := h
    rw [Reps] at h2; subst h2
    show Reps K W [] []
    rw [Reps]
  | d :: d2 :: ds, _, h => by
    rw [Reps] at h
    obtain ⟨v, r, rfl, h1, h2⟩ := h
    have h3 := h2
    rw [Reps] at h2
    obtain ⟨u, r2, rfl, _, _⟩ := h2
    have ih := Reps.dropLast h3
    show Reps K W (d :: (d2 :: ds).dropLast) (v :: (u :: r2).dropLast)
    rw [Reps]
    exact ⟨_, _, rfl, h1, ih⟩
theorem p_pop {apos cpos p : Pos} (hN : X.N[i]? = some x) (hv : Vis X.env.scope x) (hd : (x == ("__debug__" : Str)) = false) (hcd : (x == ("__classdict__" : Str)) = false) (hl : (apos.endLine == cpos.line) = true) :
    PS X (.Expr (.Call (.Attribute (.Name x p) "pop" apos) [] [] cpos) pos) (tzS X Wx fun r o => popF i r o) :=
  PS.imp (ps_expr (pe_bm0 PySem.F.plainAttrs_list PySem.F.slot_list_pop PySem.F.type_list_pop mt_pop (pe_var hN hv hd hcd) (by rfl) hl) (by rfl)) fun D σ H ⟨W0, F0, H0, W, F, st, r, o, s, x0, rs, p⟩ => by
    have p : PstS X.K X.mg X.N.length Wx W0 F0 H0 D (popF i r o st) := p
    unfold popF at p
    split at p
    · rename_i io
      have io : i ∈ o := by simpa using io
      cases g : getS r i with
      | none => rw [g] at p; exact p.elim
      | some d =>
        rw [g] at p
        cases d <;> first | exact p.elim | skip
        rename_i ds
        have p : PstS X.K X.mg X.N.length Wx W0 F0 H0 D ((if ds.isEmpty = true then stk else ret (.nxt (r.set i (some (.lst ds.dropLast))) o)) st) := p
        split at p
        · exact p.elim
        · rename_i hne
          obtain ⟨pa, e1, ro⟩ := rs.ow i io _ g
          obtain ⟨vs, hp, rvs⟩ := ro.lst
          have hlen := rvs.length
          have hpos : 0 < vs.length := by
            rw [← hlen]
            cases ds with
            | nil => exact absurd rfl hne
            | cons _ _ => simp
          refine ⟨_, e1, .inl ⟨rfl, vs, SqL.of hp⟩, pa, vs, vs[vs.length - 1]'(by omega), rfl, rfl, hp, by simp, ?_⟩
          exact p _ W F _ (s.write ro.2.1 ro.2.2.1 fun xs z => by
              rcases z with z | z
              · cases z; rw [List.length_dropLast]; have := s.len _ _ (.inl hp); omega
              · cases z) (x0.write ro.1) (rs.write io g e1 rvs.dropLast)
    · exact p.elim
end
end Z
set_option Elab.async false
set_option linter.all false
set_option maxRecDepth 100000
set_option maxHeartbeats 2000000
namespace Z
open PySem PySem.Spec PyProof.Rows L2 TL

section
variable {X : Cx} {Wx : WX} {e : Expr} {m : E} {va vk : List Nat} {me mk : Ev → M D} {pos : Pos} {t : Tg} {i : Nat} {x : Str} {c : Cal} {fa fb : Ev → List Nat → M Fl}
def iteF (fa fb : Ev → List Nat → M Fl) (r : Ev) (x : D) (o1 : List Nat) : M Fl := match x with
  | .bl true => fa r o1
  | .bl false => fb r o1
  | _ => stk
theorem p_nil : PSs X [] (tzS X Wx fun r o => ret (.nxt r o)) := PSs.imp pss_nil fun D σ H ⟨W0, F0, H0, W, F, st, r, o, s, x0, rs, p⟩ => p σ W F H s x0 rs
theorem p_cons {st : Stmt} {sts : List Stmt} (h1 : PS X st (tzS X Wx fa)) (h2 : PSs X sts (tzS X Wx fb)) : PSs X (st :: sts) (tzS X Wx fun r o => bnd (fa r o) fun f => seqF f fb) :=
  PSs.imp (pss_cons h1 h2) fun D σ H ⟨W0, F0, H0, W, F, st, r, o, s, x0, rs, p⟩ => ⟨W0, F0, H0, W, F, st, r, o, s, x0, rs,
    p.bnd (fun r o st' p1 σ W F H s x rs => ⟨W0, F0, H0, W, F, st', r, o, s, x, rs, p1⟩) (fun r o st' p1 => p1) (fun r o st' p1 => p1) (fun d => ⟨rfl, rfl⟩) rfl (fun e r o => rfl)⟩
theorem p_ex (he : PE X e (tz X.K X.mg Wx va me)) (hs : swapsWith e none pos.line X.env = pure false) : PS X (.Expr e pos) (tzS X Wx fun r o => evS va me r o fun _ o1 => ret (.nxt r o1)) :=
  PS.imp (ps_expr he hs) fun D σ H ⟨W0, F0, H0, W, F, st, r, o, s, x0, rs, p⟩ => evS_use s x0 rs p fun d st1 v W1 F1 H1 o1 s1 x1 _ rs1 rv p1 => p1 σ W1 F1 H1 s1 x1 rs1
theorem p_ite {a b : List Stmt} (hc : PT X e (tzT X Wx va me)) (ha : PSs X a (tzS X Wx fa)) (hb : PSs X b (tzS X Wx fb)) : PS X (.If e a b pos) (tzS X Wx fun r o => evS va me r o fun x o1 => iteF fa fb r x o1) :=
  PS.imp (ps_if hc ha hb) fun D σ H ⟨W0, F0, H0, W, F, st, r, o, s, x0, rs, p⟩ => evS_use s x0 rs p fun d st1 v W1 F1 H1 o1 s1 x1 _ rs1 rv p1 => by
    cases d <;> first | exact False.elim p1 | skip
    rename_i bb
    rw [Rep] at rv
    refine ⟨bb, rv, ?_⟩
    cases bb with
    | true => exact ⟨W0, F0, H0, W1, F1, st1, r, o1, s1, x1, rs1, p1⟩
    | false => exact ⟨W0, F0, H0, W1, F1, st1, r, o1, s1, x1, rs1, p1⟩
def itF (f : D → Ev → List Nat → M Fl) (r : Ev) (x : D) (o1 : List Nat) : M Fl := match itD x with
  | none => stk
  | some ds => forL f ds r o1
theorem forL_cons (f : D → Ev → List Nat → M Fl) (d : D) (ds : List D) (r : Ev) (o : List Nat) : forL f (d :: ds) r o = bnd (f d r o) fun x => match x with
    | .nxt r' o' => forL f ds r' o'
    | .cnt r' o' => forL f ds r' o'
    | .brk r' o' => ret (.nxt r' o')
    | x => ret x := rfl
def LoopN (X : Cx) (Wx : WX) (W1 : Wd) (F0 : Addr → Prop) (H0 : Hp) (D : Ends) (fb : Ev → List Nat → M Fl) (t : Tg) (ds : List Z.D) (i : Nat) (σ : L2.St) (H : Hp) : Prop := i ≤ ds.length ∧ ∃ W F st r o, SR W F H st ∧ Ext W1 F0 H0 W F H ∧ RS X.K X.N.length W F H H0 σ r o ∧ PstS X.K X.mg X.N.length Wx W1 F0 H0 D (forL (tbl t fb) (ds.drop i) r o st)
/-- the loop, from where its iterator stands -/
theorem for_key {J : It} {D : Ends} {σ : L2.St} {W0 W1 : Wd} {F0 F1 : Addr → Prop} {H0 H1 : Hp} {st : Sto} {r : Ev} {o : List Nat} {ds : List Z.D} {tb : TS}
    (hlt : ∀ i ∈ tgs t, i < X.N.length) (s1 : SR W1 F1 H1 st) (x1 : Ext W0 F0 H0 W1 F1 H1) (rs1 : RS X.K X.N.length W1 F1 H1 H0 σ r o) (wk : Wks X.K J W1 ds) (p : PstS X.K X.mg X.N.length Wx W0 F0 H0 D (forL (tbl t fb) ds r o st))
    (hb : ∀ D σ H, tzS X Wx fb D σ H → tb D σ H) :
    ∃ V : Nat → Nat → L2.St → Hp → Prop, (∃ m, V 0 m σ H1) ∧ ∀ i m σ H, V i m σ H →
      (J.stop i H ∧ D.nx σ H) ∨ (J.go i H ∧ ∃ N : L2.St → Hp → Prop, (∀ σ' H', N σ' H' → ∃ m', m' < m ∧ V (i + 1) m' σ' H') ∧ ∀ x H', J.yld i H x H' → gz X.K t x σ H' fun σ2 H2 => tb { D with nx := N, ct := N, bk := D.nx } σ2 H2) := by
  have p0 := p.up x1
  refine ⟨fun i m σ H => m = ds.length - i ∧ LoopN X Wx W1 F0 H0 D fb t ds i σ H,
    ⟨ds.length, by simp, Nat.zero_le _, W1, F1, st, r, o, s1, x1.self, rs1, by rw [List.drop_zero]; exact p0⟩, ?_⟩
  rintro i m σ Hi ⟨rfl, hi, Wi, Fi, si, ri, oi, sri, xi, rsi, pi⟩
  have same : Same W1.hf Hi := fun b o h => sri.sub _ _ (xi.le.hf _ _ h)
  by_cases hlt' : i < ds.length
  · refine .inr ⟨wk.go i Hi same hlt', LoopN X Wx W1 F0 H0 D fb t ds (i + 1),
      fun σ' H' h' => ⟨ds.length - (i + 1), by omega, rfl, h'⟩, fun v H' y => ?_⟩
    have hd : ds[i]? = some ds[i] := by simp [hlt']
    generalize hdd : ds[i] = d at hd
    have hdrop : ds.drop i = d :: ds.drop (i + 1) := by rw [← hdd]; exact List.drop_eq_getElem_cons hlt'
    rw [hdrop, forL_cons] at pi
    obtain ⟨W2, F2, sr2, x2, rd⟩ : ∃ W2 F2, SR W2 F2 H' si ∧ Ext Wi Fi Hi W2 F2 H' ∧ Rep X.K W2 d v := by
      rcases wk.yld i Hi v H' d same hd y with ⟨rfl, rd⟩ | ⟨T, d1, d2, y1, y2, rfl, rfl, hT, rfl, r1, r2⟩
      · exact ⟨Wi, Fi, sri, .refl, rd.mono xi.le⟩
      · have hz2 : ∀ zs, (HO.tup [y1, y2] = .lst zs ∨ HO.tup [y1, y2] = .tup zs) → zs.length ≤ sizeLine := fun zs z => by
          rcases z with z | z
          · cases z
          · cases z; show 2 ≤ sizeLine; decide
        obtain ⟨a1, a2⟩ := sri.laid hT hz2
        refine ⟨Wi.put T (.tup [y1, y2]), Fi, a1, a2, ?_⟩
        rw [Rep]
        refine ⟨T, _, rfl, SqT.of (Wi.put_at _ _), ?_⟩
        have l := xi.le.trans a2.le
        rw [Reps]
        refine ⟨y1, [y2], rfl, r1.mono l, ?_⟩
        rw [Reps]
        exact ⟨y2, [], rfl, r2.mono l, by rw [Reps]⟩
    refine tbl_use (Wx := Wx) (f := fb) (mg := X.mg) (E := { D with nx := LoopN X Wx W1 F0 H0 D fb t ds (i + 1), ct := LoopN X Wx W1 F0 H0 D fb t ds (i + 1), bk := D.nx }) sr2 (xi.trans x2) (rsi.ext x2) rd hlt ?_ fun σ' W3 r' o' s3 x3 rs3 p3 => hb _ _ _ ⟨W1, F0, H0, W3, F2, si, r', o', s3, x3, rs3, p3⟩
    exact pi.bnd (fun r o st' p1 σ W F H s x rs => ⟨hlt', W, F, st', r, o, s, x, rs, p1⟩) (fun r o st' p1 => p1) (fun r o st' p1 σ W F H s x rs => ⟨hlt', W, F, st', r, o, s, x, rs, p1⟩) (fun d => ⟨rfl, rfl⟩) rfl (fun e r o => rfl)
  · have ei : i = ds.length := by omega
    subst ei
    refine .inl ⟨wk.stop _ Hi same (Nat.le_refl _), ?_⟩
    rw [List.drop_length] at pi
    exact pi σ Wi Fi Hi sri xi rsi
theorem p_for {tg iter : Expr} {body : List Stmt} (hp : PassesOwn (model X.prog X.w) X.A X.env X.xe) (hc : X.calm = true) (hi : PI X tg iter (tzi X.K X.mg Wx va me)) (hg : PG X tg (gz X.K t)) (hlt : ∀ i ∈ tgs t, i < X.N.length) (hb : PSs X body (tzS X Wx fb))
    (hs : ∀ x, foldedSetIterable iter X.env x = pure x) : PS X (.For tg iter body [] pos) (tzS X Wx fun r o => evF va me r o fun x o1 => itF (tbl t fb) r x o1) :=
  PS.imp (ps_for hp hc hi hg hb hs) fun D σ H ⟨W0, F0, H0, W, F, st, r, o, s, x0, rs, p⟩ => by
    refine ⟨frzW W H σ r o va, F, st, r, frz_sr s rs, frz_rel s rs, ?_⟩
    dsimp only at p
    unfold evF at p
    cases q : me r st with
    | ok d st1 =>
      rw [q] at p
      have p : PstS X.K X.mg X.N.length Wx W0 F0 H0 D (itF (tbl t fb) r d (offs o va) st1) := p
      unfold itF at p
      cases e : itD d with
      | none => rw [e] at p; exact p.elim
      | some ds =>
        rw [e] at p
        exact ⟨ds, e, fun J W1 F1 H1 s1 x1 wk => for_key hlt s1 ((frz_ext s rs x0).trans x1) ((frz_rs s rs).ext x1) wk p fun _ _ _ h => h⟩
    | exc ee st1 =>
      rw [q] at p
      intro cls dx W1 F1 H1 s1 x1 xr
      exact p cls dx σ W1 F1 H1 s1 ((frz_ext s rs x0).trans x1) ((frz_rs s rs).ext x1) xr
    | stk => rw [q] at p; exact p
/-- a range: nothing stays frozen -/
def PsR (K : PySem.W.Frag) (mg : Str → Option Value) (Wx : WX) (σ : L2.St) (R : It → Hp → Prop) (W : Wd) (F : Addr → Prop) (H : Hp) : Res D → Prop
  | .ok d st' => ∀ a n, d = .lst (rngD a n) → ∀ W' F' H', SR W' F' H' st' → Ext W F H W' F' H' → R (Itr a n) H'
  | .exc e st' => ∀ cls dx W' F' H', SR W' F' H' st' → Ext W F H W' F' H' → XR K mg W' H' e cls dx → Wx cls dx σ H'
  | .stk => False
def tzr (K : PySem.W.Frag) (mg : Str → Option Value) (Wx : WX) (vs : List Nat) (m : Ev → M D) : TI := fun σ H R =>
  ∃ W F st r, SR W F H st ∧ RelE K W vs σ r ∧ PsR K mg Wx σ R W F H (m r st)
theorem p_forR {tg iter : Expr} {body : List Stmt} (hp : PassesOwn (model X.prog X.w) X.A X.env X.xe) (hc : X.calm = true) (hi : PI X tg iter (tzr X.K X.mg Wx va me)) (hz : ∀ r st a n st', me r st = .ok (.lst (rngD a n)) st' → n ≤ sizeLine)
    (hg : PG X tg (gz X.K t)) (hlt : ∀ i ∈ tgs t, i < X.N.length) (hb : PSs X body (tzS X Wx fb))
    (hs : ∀ x, foldedSetIterable iter X.env x = pure x) : PS X (.For tg iter body [] pos) (tzS X Wx fun r o => evR va me r o fun x o1 => itF (tbl t fb) r x o1) :=
  PS.imp (ps_for hp hc hi hg hb hs) fun D σ H ⟨W0, F0, H0, W, F, st, r, o, s, x0, rs, p⟩ => by
    refine ⟨frzW W H σ r o va, F, st, r, frz_sr s rs, frz_rel s rs, ?_⟩
    dsimp only at p
    unfold evR at p
    cases q : me r st with
    | ok d st1 =>
      rw [q] at p
      intro a n hd W1 F1 H1 s1 x1
      subst hd
      have p : PstS X.K X.mg X.N.length Wx W0 F0 H0 D (forL (tbl t fb) (rngD a n) r o st1) := p
      have x2 := thaw_ext rs x1 s
      exact for_key hlt (thaw_sr s1) (x0.trans x2) (rs.ext x2) (wks_rng (hz r st a n st1 q)) p fun _ _ _ h => h
    | exc ee st1 =>
      rw [q] at p
      intro cls dx W1 F1 H1 s1 x1 xr
      exact p cls dx σ W1 F1 H1 s1 ((frz_ext s rs x0).trans x1) ((frz_rs s rs).ext x1) xr
    | stk => rw [q] at p; exact p
theorem p_while {body : List Stmt} {fu : Nat} (hp : PassesOwn (model X.prog X.w) X.A X.env X.xe) (hc : PT X e (tzT X Wx va me)) (hb : PSs X body (tzS X Wx fb)) : PS X (.While e body [] pos) (tzS X Wx fun r o => whL (fun r o k => evS va me r o k) fb fu r o) :=
  PS.imp (ps_while hp hc hb) fun D σ H ⟨W0, F0, H0, W, F, st, r, o, s, x0, rs, p⟩ => by
    refine ⟨fun m σ H => ∃ W F st r o, SR W F H st ∧ Ext W0 F0 H0 W F H ∧ RS X.K X.N.length W F H H0 σ r o ∧ PstS X.K X.mg X.N.length Wx W0 F0 H0 D (whL (fun r o k => evS va me r o k) fb m r o st), ⟨fu, W, F, st, r, o, s, x0, rs, p⟩, ?_⟩
    rintro m σ Hi ⟨Wi, Fi, si, ri, oi, sri, xi, rsi, pi⟩
    cases m with
    | zero => exact pi.elim
    | succ m =>
      unfold whL at pi
      refine evS_use sri xi rsi pi fun d st1 v W1 F1 H1 o1 s1 x1 _ rs1 rv p1 => ?_
      cases d <;> first | exact False.elim p1 | skip
      rename_i bb
      rw [Rep] at rv
      refine ⟨bb, rv, ?_⟩
      cases bb with
      | false => exact p1 σ W1 F1 H1 s1 x1 rs1
      | true =>
        refine ⟨fun σ' H' => ∃ W F st r o, SR W F H' st ∧ Ext W0 F0 H0 W F H' ∧ RS X.K X.N.length W F H' H0 σ' r o ∧ PstS X.K X.mg X.N.length Wx W0 F0 H0 D (whL (fun r o k => evS va me r o k) fb m r o st), fun σ' H' h' => ⟨m, Nat.lt_succ_self _, h'⟩, W0, F0, H0, W1, F1, st1, ri, o1, s1, x1, rs1, ?_⟩
        exact PstS.bnd (E := D) p1 (fun r o st' p2 σ W F H s x rs => ⟨W, F, st', r, o, s, x, rs, p2⟩) (fun r o st' p2 => p2) (fun r o st' p2 σ W F H s x rs => ⟨W, F, st', r, o, s, x, rs, p2⟩) (fun d => ⟨rfl, rfl⟩) rfl (fun e r o => rfl)
end
end Z
set_option Elab.async false
set_option linter.all false
set_option maxRecDepth 100000
set_option maxHeartbeats 2000000
namespace Z
open PySem PySem.Spec PyProof.Rows L2 TL

theorem good_psr {K : PySem.W.Frag} {mg : Str → Option Value} {Wx : WX} {σ : L2.St} {R : It → Hp → Prop} : Good K mg Wx σ (PsR K mg Wx σ R) :=
  ⟨fun {W F H W1 F1 H1 r} x p => by
    cases r with
    | ok d st => exact fun a n e W' F' H' s y => p a n e W' F' H' s (x.trans y)
    | exc e st => exact fun c d W' F' H' s y => p c d W' F' H' s (x.trans y)
    | stk => exact p, fun p => p, fun p => p⟩
section
variable {X : Cx} {Wx : WX} {tg e : Expr} {va : List Nat} {ma : Ev → M D} {pos : Pos}
theorem r_rng1 {a : Expr} {p : Pos} (hg : Gl X "range") (hm : X.mg "range" = none) (hn : notStar a = true) (ha : PE X a (tz X.K X.mg Wx va ma)) :
    PI X tg (.Call (.Name "range" p) [a] [] pos) (tzr X.K X.mg Wx (va ++ []) fun r => bnd (bnd (ma r) fun d => bnd (ret []) fun ds => ret (d :: ds)) fun ds => ofO (biD .range ds)) := by
  refine PI.imp (pi_range1 hg hm (pa_cons ha pa_nil (star_ok hn)) (star_ok hn)) fun σ H R ⟨W, F, st, r, sr, re, p⟩ => ?_
  have p : PsR X.K X.mg Wx σ R W F H (bnd (bnd (ma r) fun d => bnd (ret []) fun ds => ret (d :: ds)) (fun ds => ofO (biD .range ds)) st) := p
  rw [evs1] at p
  refine gen_use good_psr sr re.fst p fun d s1 v W1 F1 H1 sr1 x rx p => ?_
  cases d <;> first | exact False.elim p | skip
  rename_i n
  rw [Rep] at rx; subst rx
  rw [biD_rng1] at p
  by_cases hz : -1000000 ≤ n ∧ n ≤ 1000000
  · rw [if_pos hz] at p
    exact ⟨n, rfl, by omega, by omega, p _ _ rfl W1 F1 H1 sr1 .refl⟩
  · rw [if_neg hz] at p; exact p.elim
theorem r_rng2 {a b : Expr} {p : Pos} {vb : List Nat} {mb : Ev → M D} (hg : Gl X "range") (hm : X.mg "range" = none) (hn : notStar a = true) (hnb : notStar b = true) (ha : PE X a (tz X.K X.mg Wx va ma)) (hb : PE X b (tz X.K X.mg Wx vb mb)) :
    PI X tg (.Call (.Name "range" p) [a, b] [] pos) (tzr X.K X.mg Wx (va ++ (vb ++ [])) fun r => bnd (bnd (ma r) fun d => bnd (bnd (mb r) fun d => bnd (ret []) fun ds => ret (d :: ds)) fun ds => ret (d :: ds)) fun ds => ofO (biD .range ds)) := by
  refine PI.imp (pi_range2 hg hm (pa_cons ha (pa_cons hb pa_nil (star_ok hnb)) (star_ok hn)) (by rw [star_ok hn, star_ok hnb]; rfl) (by rw [star_ok hnb]; rfl)) fun σ H R ⟨W, F, st, r, sr, re, p⟩ => ?_
  have p : PsR X.K X.mg Wx σ R W F H (bnd (ma r) (fun d => bnd (mb r) fun d' => ofO (biD .range [d, d'])) st) := by
    have e : (bnd (bnd (ma r) fun d => bnd (bnd (mb r) fun d => bnd (ret []) fun ds => ret (d :: ds)) fun ds => ret (d :: ds)) fun ds => ofO (biD .range ds)) = bnd (ma r) (fun d => bnd (mb r) fun d' => ofO (biD .range [d, d'])) := by
      rw [bnd_assoc]
      congr 1
      funext d
      rw [bnd_assoc, bnd_assoc]
      rfl
    rw [← e]; exact p
  refine gen_use good_psr sr re.fst p fun d s1 v W1 F1 H1 sr1 x rx p => ?_
  refine gen_use good_psr sr1 (re.snd.fst.mono x.le) p fun d2 s2 v2 W2 F2 H2 sr2 x2 rx2 p' => ?_
  clear p
  have p := p'
  clear p'
  cases d <;> cases d2 <;> first | exact False.elim p | skip
  rename_i i j
  rw [Rep] at rx rx2; subst rx rx2
  rw [biD_rng2] at p
  by_cases hz : -1000000 ≤ i ∧ i ≤ 1000000 ∧ -1000000 ≤ j ∧ j ≤ 1000000
  · rw [if_pos hz] at p
    exact ⟨i, j, rfl, ⟨by omega, by omega, by omega, by omega⟩, p _ _ rfl W2 F2 H2 sr2 .refl⟩
  · rw [if_neg hz] at p; exact p.elim
end
/-- what is walked -/
theorem pi_ok {X : Cx} {k : Cc} {sc : Scope} {Wx : WX} {c : Cal} {kk n : Nat} (g : Gb X.prog X.w X.K X.mg X.base X.A kk c k) (f : Fz X k sc Wx) {tg iter : Expr} {it : E} (hit : compI (comp k n sc) sc tg iter = some it) :
    PI X tg iter (tzi X.K X.mg Wx (vars it) (ev c it)) := pi_ok0 g f (comp_ok n X k sc Wx c kk g f) hit
/-- a range that is walked -/
def compR (cf : Expr → Option E) (sc : Scope) (e : Expr) : Option E := match e with
  | .Call (.Name f _) [a] [] _ => if f = "range" then (if gloB sc f && notStar a then (cf a).map fun x => .bi .range [x] else none) else none
  | .Call (.Name f _) [a, b] [] _ => if f = "range" then (if gloB sc f && notStar a && notStar b then (cf a).bind fun x => (cf b).map fun y => .bi .range [x, y] else none) else none
  | _ => none
theorem pr_ok {X : Cx} {k : Cc} {sc : Scope} {Wx : WX} {c : Cal} {kk n : Nat} (g : Gb X.prog X.w X.K X.mg X.base X.A kk c k) (f : Fz X k sc Wx) {tg iter : Expr} {it : E} (hit : compR (comp k n sc) sc iter = some it) :
    PI X tg iter (tzr X.K X.mg Wx (vars it) (ev c it)) := by
  have ih := comp_ok n X k sc Wx c kk g f
  have hgl : ∀ x, gloB sc x = true → Gl X x := fun x hx => by
    show X.env.scope.names.lookup x = _
    rw [f.sc]; exact glo_ok hx
  unfold compR at hit
  split at hit
  · split at hit
    · rename_i hr
      subst hr
      split at hit
      · rename_i hg
        rw [Bool.and_eq_true] at hg
        rw [Option.map_eq_some_iff] at hit
        obtain ⟨y, hy, rfl⟩ := hit
        rw [vars, varss, varss, show ev c (.bi .range [y]) = _ from by funext r; rw [ev, evs, evs]]
        exact r_rng1 (hgl _ hg.1) (biN g (by decide +kernel)) hg.2 (ih _ _ hy).1
      · cases hit
    · cases hit
  · split at hit
    · rename_i hr
      subst hr
      split at hit
      · rename_i hg
        rw [Bool.and_eq_true, Bool.and_eq_true] at hg
        simp only [Option.bind_eq_some_iff, Option.map_eq_some_iff] at hit
        obtain ⟨y, hy, z, hz, rfl⟩ := hit
        rw [vars, varss, varss, varss, show ev c (.bi .range [y, z]) = _ from by funext r; rw [ev, evs, evs, evs]]
        exact r_rng2 (hgl _ hg.1.1) (biN g (by decide +kernel)) hg.1.2 hg.2 (ih _ _ hy).1 (ih _ _ hz).1
      · cases hit
    · cases hit
  · cases hit

theorem rng_le {c : Cal} {es : List E} {r : Ev} {st st' : Sto} {a : Int} {n : Nat} (h : ev c (.bi .range es) r st = .ok (.lst (rngD a n)) st') : n ≤ sizeLine := by
  rw [ev] at h
  obtain ⟨ds, s1, h1, h⟩ := bnd_ok h
  have key : ∀ d, biD .range ds = some d → d = .lst (rngD a n) → n ≤ sizeLine := by
    intro d e ed
    subst ed
    have len : ∀ a' n' a'' n'', rngD a' n' = rngD a'' n'' → n' = n'' := fun a' n' a'' n'' e => by
      have := congrArg List.length e
      rwa [rngD_length, rngD_length] at this
    unfold biD at e
    split at e <;> first | (cases e; done) | skip
    all_goals try (rename_i hh _; cases hh; done)
    all_goals first
      | (split at e
         · simp only [Option.some.injEq, D.lst.injEq] at e
           have := len _ _ _ _ e
           have h2 : sizeLine ≥ 2000000 := by decide
           omega
         · cases e)
      | (simp_all; done)
  cases q : biD .range ds with
  | none => rw [q] at h; cases h
  | some d =>
    rw [q] at h
    have h : Res.ok d s1 = .ok (.lst (rngD a n)) st' := h
    cases h
    exact key _ q rfl
theorem compR_rng {cf : Expr → Option E} {sc : Scope} {e : Expr} {m : E} (h : compR cf sc e = some m) : ∃ es, m = .bi .range es := by
  unfold compR at h
  split at h
  · split at h
    · split at h
      · rw [Option.map_eq_some_iff] at h
        obtain ⟨x, _, rfl⟩ := h
        exact ⟨_, rfl⟩
      · cases h
    · cases h
  · split at h
    · split at h
      · simp only [Option.bind_eq_some_iff, Option.map_eq_some_iff] at h
        obtain ⟨x, _, y, _, rfl⟩ := h
        exact ⟨_, rfl⟩
      · cases h
    · cases h
  · cases h
end Z
set_option Elab.async false
set_option linter.all false
set_option maxRecDepth 100000
set_option maxHeartbeats 4000000
namespace Z
open PySem PySem.Spec PyProof.Rows L2 TL

/-- the parts of a comprehension -/
theorem lc_ok {X : Cx} {k : Cc} {sc : Scope} {Wx : WX} {c : Cal} {kk n : Nat} (g : Gb X.prog X.w X.K X.mg X.base X.A kk c k) (f : Fz X k sc Wx) {elt tg iter : Expr} {ifs : List Expr} {scope : Scope} {pos : Pos} {m : E}
    (h : comp k (n + 1) sc (.ListComp elt [⟨tg, iter, ifs, 0⟩] scope pos) = some m) :
    ∃ t it cnd x, m = .lc t (slotsOf k.N scope) it cnd x ∧ BlkOk X.N X.env.scope scope (ownOf k.N scope) ∧ PI X tg iter (tzi X.K X.mg Wx (vars it) (ev c it)) ∧
      (∀ (s : Shared) (H : Hp) (C : Addr) (cl : List (Str × Addr)) (fp : List Addr), PG (X.blk s H scope (compEnvC scope cl C X.env) fp) tg (gz X.K t)) ∧
      (∀ (s : Shared) (H : Hp) (C : Addr) (cl : List (Str × Addr)) (fp : List Addr), PTs (X.blk s H scope (compEnvC scope cl C X.env) fp) ifs (tzT X Wn (vars cnd) (ev c cnd))) ∧
      (∀ (s : Shared) (H : Hp) (C : Addr) (cl : List (Str × Addr)) (fp : List Addr), PE (X.blk s H scope (compEnvC scope cl C X.env) fp) elt (tz X.K X.mg Wn (vars x) (ev c x))) ∧
      (∀ x, foldedSetIterable iter X.env x = pure x) ∧ (∀ i ∈ tgs t, i ∈ (ownOf k.N scope).map (·.2)) ∧ ∀ i ∈ tgs t, i < X.N.length := by
  simp only [comp] at h
  split at h
  · rename_i hc
    rw [Bool.and_eq_true] at hc
    rw [Option.bind_eq_some_iff] at h
    obtain ⟨t, ht, h⟩ := h
    split at h
    · rename_i hw
      rw [Option.bind_eq_some_iff] at h
      obtain ⟨it, hit, h⟩ := h
      rw [Option.bind_eq_some_iff] at h
      obtain ⟨cnd, hcnd, h⟩ := h
      rw [Option.map_eq_some_iff] at h
      obtain ⟨x, hx, rfl⟩ := h
      have fb := fun s H C cl fp => blk_fz f s H scope C cl fp
      have ihb := fun s H C cl fp => comp_ok n (X.blk s H scope (compEnvC scope cl C X.env) fp) k (relS scope sc) Wn c kk g (fb s H C cl fp)
      refine ⟨t, it, cnd, x, rfl, by rw [f.N, f.sc]; exact blkOk_by hc.1, pi_ok g f hit, fun s H C cl fp => (tg_ok (X := X.blk s H scope (compEnvC scope cl C X.env) fp) (k := k) (fb s H C cl fp).N (fb s H C cl fp).nd (fb s H C cl fp).sc (fb s H C cl fp).calm (fun z => by cases z) n tg t ht).1,
        fun s H C cl fp => ?_, fun s H C cl fp => (ihb s H C cl fp _ _ hx).1, folded_ok hc.2, fun i hi => ?_, fun i hi => ?_⟩
      · split at hcnd
        · cases hcnd
          refine ⟨fun pins s2 σ H2 Q I q => pts_nil.run pins s2 σ H2 Q I ?_⟩
          obtain ⟨W, F, st, r, sr, re, p⟩ := q
          rw [ev] at p
          obtain ⟨b, e, q⟩ := Pst.fin (d := .bl true) sr p (by rw [Rep])
          cases e
          exact q
        · exact pts_one (ihb s H C cl fp _ _ hcnd).2
        · cases hcnd
      · rw [List.all_eq_true] at hw
        exact List.contains_iff_mem.mp (hw i hi)
      · rw [f.N]; exact tg_lt n tg t ht i hi
    · cases h
  · cases h

/-! ### two names at once -/
section
variable {K : PySem.W.Frag} {n : Nat} {W : Wd} {F : Addr → Prop} {H H0 : Hp} {σ : L2.St} {r : Ev} {o : List Nat} {d : D} {v : V}
end
/-- both names of a pair are stored from the right -/
def parC (sc : Scope) (x y : Str) (px py : Pos) (a b : Expr) : Bool :=
  decide (sc.names.lookup x = some .local) && decide (sc.names.lookup y = some .local) && (px.line == py.line) && decide (x ≠ y) && notStar a && notStar b && !([a, b].all (foldedForSure 8)) && !([a, b].all (constantsAlone 8))
theorem parC_ok {env : Env} {x y : Str} {px py pt pt2 : Pos} {a b : Expr} {kt k2} (hb : env.blockKind = .function) (h : parC env.scope x y px py a b = true) : swappedStores [.Tuple [.Name x px, .Name y py] kt pt] (.Tuple [a, b] k2 pt2) env = pure (some [x, y]) := by
  unfold parC at h
  simp only [Bool.and_eq_true, decide_eq_true_eq, Bool.not_eq_true'] at h
  obtain ⟨⟨⟨⟨⟨⟨⟨hx, hy⟩, hp⟩, hxy⟩, ha⟩, hb'⟩, h1⟩, h2⟩ := h
  have kx : env.kindOf x = some .local := hx
  have ky : env.kindOf y = some .local := hy
  have hp' : py.line = px.line := (eq_of_beq hp).symm
  unfold swappedStores
  simp only [h1, h2, hb, kx, ky]
  simp [Expr.pos, hp', hxy, Ne.symm hxy, kx, ky, List.eraseDups_cons]
  intro z
  exfalso
  rcases z with z | z
  · cases a <;> first | (cases z; done) | (cases ha; done)
  · cases b <;> first | (cases z; done) | (cases hb'; done)

section
variable {X : Cx} {Wx : WX} {va vb : List Nat} {ma mb : Ev → M D} {pos : Pos}
theorem p_par {i j : Nat} {x y : Str} {a b : Expr} {px py pt pt2 : Pos} {kt k2} (hc : X.calm = true) (hN : X.N.Nodup) (hi : X.N[i]? = some x) (hj : X.N[j]? = some y) (hb : X.env.blockKind = .function) (h : parC X.env.scope x y px py a b = true)
    (ha : PE X a (tz X.K X.mg Wx va ma)) (hb2 : PE X b (tz X.K X.mg Wx vb mb)) :
    PS X (.Assign [.Tuple [.Name x px, .Name y py] kt pt] (.Tuple [a, b] k2 pt2) pos) (tzS X Wx fun r o => evS va ma r o fun d o1 => evS vb mb r o1 fun d2 o2 => parF i j d d2 r o2) := by
  have hw := parC_ok (pt := pt) (pt2 := pt2) (kt := kt) (k2 := k2) hb h
  unfold parC at h
  simp only [Bool.and_eq_true, decide_eq_true_eq, Bool.not_eq_true'] at h
  obtain ⟨⟨⟨⟨⟨⟨⟨hx, hy⟩, hp⟩, hxy⟩, na⟩, nb⟩, h1⟩, h2⟩ := h
  have hij : i ≠ j := fun e => by subst e; rw [hi] at hj; cases hj; exact hxy rfl
  exact PS.imp (ps_par hc hN hi hj hij hx hy (pa_cons ha (pa_cons hb2 pa_nil (star_ok nb)) (star_ok na)) hw) fun D σ H ⟨W0, F0, H0, W, F, st, r, o, s, x0, rs, p⟩ =>
    evS_use s x0 rs p fun d st1 v W1 F1 H1 o1 s1 x1 l1 rs1 rv p1 => evS_use s1 x1 rs1 p1 fun d2 st2 v2 W2 F2 H2 o2 s2 x2 l2 rs2 rv2 p2 =>
      ⟨v, v2, rfl, p2 _ W2 F2 H2 s2 x2 ((rs2.put (List.getElem?_eq_some_iff.mp hi).1 (rv.mono l2)).put (List.getElem?_eq_some_iff.mp hj).1 rv2)⟩
end

def notLC : Expr → Bool
  | .ListComp _ _ _ _ | .SetComp _ _ _ _ | .DictComp _ _ _ _ _ => false
  | _ => true
/-! ### x[k] = e, x one's own list -/
theorem Reps.set {K : PySem.W.Frag} {W : Wd} {d : D} {v : V} (rv : Rep K W d v) : ∀ {ds : List D} {vs : List V} (j : Nat), Reps K W ds vs → Reps K W (ds.set j d) (vs.set j v)
  | [], _, j, h => by rw [Reps] at h; subst h; simp [Reps]
  | x :: ds, _, 0, h => by
    rw [Reps] at h
    obtain ⟨u, r, rfl, h1, h2⟩ := h
    rw [List.set_cons_zero, List.set_cons_zero, Reps]
    exact ⟨v, r, rfl, rv, h2⟩
  | x :: ds, _, j + 1, h => by
    rw [Reps] at h
    obtain ⟨u, r, rfl, h1, h2⟩ := h
    rw [List.set_cons_succ, List.set_cons_succ, Reps]
    exact ⟨u, _, rfl, h1, Reps.set rv j h2⟩
section
variable {X : Cx} {Wx : WX} {va vb : List Nat} {ma mb : Ev → M D} {pos : Pos}
theorem p_seti {i : Nat} {x : Str} {e b : Expr} {p ps : Pos} (hN : X.N[i]? = some x) (hv : Vis X.env.scope x) (hd : (x == ("__debug__" : Str)) = false) (hcd : (x == ("__classdict__" : Str)) = false) (hs : notLC e = true) (hb : notSl b = true)
    (he : PE X e (tz X.K X.mg Wx va ma)) (hk : PE X b (tz X.K X.mg Wx vb mb)) :
    PS X (.Assign [.Subscript (.Name x p) b ps] e pos) (tzS X Wx fun r o => evS va ma r o fun d o1 => if ownL i r o1 then evS vb mb r o1 fun y o2 => setF i y d r o2 else stk) :=
  PS.imp (ps_asg he (pg_sub (pe_var hN hv hd hcd) hk set_list (by cases b <;> first | (cases hb; done) | (intro _; rfl))) (by cases e <;> first | rfl | (cases hs; done)) (by cases e <;> rfl) (by rfl)) fun D σ H ⟨W0, F0, H0, W, F, st, r, o, s, x0, rs, p⟩ =>
    evS_use s x0 rs p fun d st1 v W1 F1 H1 o1 s1 x1 l1 rs1 rv p1 => by
      by_cases ho : ownL i r o1 = true
      · rw [if_pos ho] at p1
        obtain ⟨io, ds, g⟩ := ownL_ok ho
        obtain ⟨pa, e1, ro⟩ := rs1.ow i io _ g
        refine ⟨_, e1, evS_use s1 x1 rs1 p1 fun y st2 v2 W2 F2 H2 o2 s2 x2 l2 rs2 rv2 p2 => ?_⟩
        unfold setF at p2
        split at p2
        · rename_i io2
          rw [g] at p2
          cases y <;> first | exact False.elim p2 | skip
          rename_i j
          rw [Rep] at rv2; subst rv2
          have p2 : PstS X.K X.mg X.N.length Wx W0 F0 H0 D ((match ixN ds.length j with
            | some n => ret (Fl.nxt (r.set i (some (Z.D.lst (ds.set n d)))) o2)
            | none => stk) st2) := p2
          have io2 : i ∈ o2 := by simpa using io2
          obtain ⟨pa', e2, ro2⟩ := rs2.ow i io2 _ g
          rw [e1] at e2
          cases e2
          obtain ⟨us, hp1, rus⟩ := ro2.lst
          have hlen := rus.length
          cases q : ixN ds.length j with
          | none => rw [q] at p2; exact p2.elim
          | some n =>
            rw [q] at p2
            have hz := s2.len pa us (.inl hp1)
            exact ⟨pa, us, j, n, rfl, rfl, hp1, by rw [← hlen]; exact q, p2 _ W2 F2 _ (s2.write ro2.2.1 ro2.2.2.1 fun xs z => by
              rcases z with z | z
              · cases z; rw [List.length_set]; exact hz
              · cases z) (x2.write ro2.1) (rs2.write io2 g e1 (Reps.set (rv.mono l2) n rus))⟩
        · exact p2.elim
      · rw [if_neg ho] at p1; exact p1.elim
end
end Z
set_option Elab.async false
set_option linter.all false
set_option maxRecDepth 100000
set_option maxHeartbeats 4000000
namespace Z
open PySem PySem.Spec PyProof.Rows L2 TL

/-! ### raise, try -/
/-- what the clause 'except c as n: y = n' wishes: the refusal is told of from then on -/
def wKeep (K : PySem.W.Frag) (c : Value) (i j : Nat) (Wout : WX) (D : Ends) : WX := fun cls d σ H =>
  ∃ b, PySem.W.exmOne K cls c = some b ∧ (b = true → ∀ a, H a = none → D.nx (((σ.set i (some (.ref a))).set j (some (.ref a))).set i none) (upd H a (ExT cls d a))) ∧ (b = false → Wout cls d σ H)
section
variable {X : Cx} {x n y : Str} {c : Value} {i j : Nat} {body : List Stmt} {np yp p ap pos pos' : Pos} {tb : WX → TS} {Wout : WX}
theorem ps_try_keep (hs : X.stack = X.env :: X.outer) (hf : X.env.frame = some X.env.locals) (hex : X.ex = []) (hN : X.N.Nodup) (hi : X.N[i]? = some n) (hj : X.N[j]? = some y) (hln : X.env.kindOf n = some .local) (hly : Loc X.env.scope y) (hfn : ∀ x, X.fn x = true)
    (hd : (n == ("__debug__" : Str)) = false) (hcd : (n == ("__classdict__" : Str)) = false) (hc : Names X x c) (tk : Takes X Wout)
    (hb : ∀ (W : WX) (pn : List (Addr × Obj)) (xe : Value → Shared → Prop), Takes (X.tr pn xe) W → PassesOwn (model X.prog X.w) X.A X.env xe → PSs (X.tr pn xe) body (tb W)) :
    PS X (.Try body [.ExceptHandler (some (.Name x np)) (some n) [.Assign [.Name y yp] (.Name n p) ap] pos'] [] [] pos) (fun D σ H => tb (wKeep X.K c i j Wout D) D σ H) := by
  have hsu : ∀ (a : Addr) (pn : List (Addr × Obj)), PSs (X.suite a pn) [.Assign [.Name y yp] (.Name n p) ap] (fun D σ H => σ[i]? = some (some (.ref a)) ∧ D.nx (σ.set j (some (.ref a))) H) := fun a pn =>
    PSs.imp (pss_one (ps_set (X := X.suite a pn) hN hj hly (pe_var (X := X.suite a pn) (i := i) hi (.inl hln) hd hcd) (by rfl) (.inl (hfn y)))) fun D σ H ⟨h1, h2⟩ => ⟨.ref a, h1, h2⟩
  refine ⟨fun pins s σ H D I h => ?_⟩
  have ok := I.ok
  have hfr : X.A.frames = some (X.env :: X.outer) := by rw [ok.frames, hs]
  have hloc : Loc X.env.scope n := .inl hln
  refine wpAny_Try_except ?_
  refine wpAny_mono ((hb (wKeep X.K c i j Wout D) (X.pn ++ pins) (fun e s₁ => wpAny (model X.prog X.w) X.A (noteFrame e X.env) (fun _ s₂ => wpAny (model X.prog X.w) X.A (setFlight e none) (fun _ s₃ =>
    wpAny (model X.prog X.w) X.A (handleBy e X.env [.ExceptHandler (some (.Name x np)) (some n) [.Assign [.Name y yp] (.Name n p) ap] pos']) (SP X pins D) X.xe s₃) X.xe s₂) X.xe s₁) (fun u s' xx => ?_) PassesOwn.looking).run [] s σ H D (I.toTry _) h) (fun f s1 hsp => ?_) (fun e s1 he => he)
  · obtain ⟨a, B, sI, pins', σ', H', cls, d, rfl, J', nb, up, sky, na, os, ag, b, hb1, hyes, hno⟩ := xx
    have J : Inv X pins σ' H' sI := J'.ofTry ok
    have sky' : Sky B (X.env :: X.outer) a (Zc cls d) X.env.locals s'.heap := by rw [← hs]; exact sky
    have Bn : B.get? a = none := by
      rcases sky with ⟨_, q, _⟩ | ⟨_, q, _⟩ | ⟨_, q, _⟩
      · exact q
      · exact q
      · exact q
    show wpAny (model X.prog X.w) X.A (noteFrame (.ref a) X.env) _ _ _
    refine Sky.land Zc.steady hfr hf sky' fun h3 fl3 up3 => ?_
    have J3 : Inv X pins σ' H' { s' with heap := h3 } := J.landed nb fl3.1 (up.trans up3) os ag
    obtain ⟨oe3, vs3, he3, hz3, hd3⟩ := fl3.there
    have notFr : ∀ {h : Heap} {o : Obj} {vs : Array Value}, h.FunFrames B (X.env :: X.outer) → h.get? a = some o → o.data = .fields vs → a ∉ frs (X.env :: X.outer) := fun {h o vs} ff e dd hm => by
      obtain ⟨_, o', e', hnf⟩ := ff.mem hm
      rw [e] at e'; cases e'
      exact hnf _ dd
    have nfr := notFr fl3.2.2.1 he3 hd3
    have nfrS : a ∉ frs X.stack := by rw [hs]; exact nfr
    have nI : ∀ o, sI.heap.get? a = some o → False := fun o e => by
      have := nb a o e nfrS
      rw [Bn] at this; cases this
    have nL : a ≠ X.env.locals := fun z => nfr (List.mem_filterMap.mpr ⟨X.env, List.mem_cons_self, by rw [hf, z]⟩)
    have nF : a ∉ X.fs := fun hm => by
      obtain ⟨e, he, q⟩ := List.mem_filterMap.mp hm
      exact nfr (List.mem_filterMap.mpr ⟨e, List.mem_cons_of_mem _ he, q⟩)
    have n0 : X.s_0.heap.get? a = none := by
      cases e : X.s_0.heap.get? a with
      | none => rfl
      | some o =>
        obtain ⟨o', e1⟩ := J.base.there a o e (by rw [hex]; simp)
        exact (nI o' e1).elim
    have nC : ∀ x c, X.env.cells.lookup x = some c → c ≠ a := fun x c e z => by
      subst z
      obtain ⟨_, o, e1, _⟩ := J.cell x c e
      exact nI o e1
    have nP : ∀ q ∈ X.pn ++ pins, q.1 ≠ a := fun q hq z => by
      obtain ⟨e1, _⟩ := J.pin q hq
      rw [z] at e1
      exact nI _ e1
    have S3 := J3.suite he3 hd3 na nL nF
    refine wpAny_handleBy_cons (codeAny_handlers_test ?_) (by intro q; cases q)
    have LT : PySem.W.Looks (model X.prog X.w) h3 (typeOf (.ref a)) cls := fun A Q E s k q => wpAny_typeOf_ref (k _ _ he3) (by rw [hz3.1]; exact q)
    have LM := PySem.W.exm_one (M := model X.prog X.w) (J3.kIn) LT hb1
    have test : ∀ {Q : Value → Shared → Prop} {E : Value → Shared → Prop}, Q c { s' with heap := h3 } → wpAny (model X.prog X.w) (X.A.mark (some (.ref a))) (eval (.Name x np) X.env) Q E { s' with heap := h3 } := fun {Q E} q => by
      obtain ⟨hg, hdbg, hm | ⟨hm, hv, hnn⟩⟩ := hc
      · exact ld_glob (X := X.suite a ((a, oe3) :: (X.pn ++ pins))) S3 hg hm q hdbg
      · exact ld_blt (X := X.suite a ((a, oe3) :: (X.pn ++ pins))) S3 hg hm hv q hnn hdbg
    refine test (LM.here ?_)
    cases b with
    | true =>
      refine codeAny_handlers_suite_as ?_
      refine HandSPX.lands_againZ fl3 fun h4 fl4 up4 => ?_
      have J4 : Inv X pins σ' H' { s' with heap := h4 } := J.landed nb fl4.1 ((up.trans up3).trans up4) os ag
      obtain ⟨oe4, vs4, he4, hz4, hd4⟩ := fl4.there
      have S4 := J4.suite he4 hd4 na nL nF
      have hli : i < σ'.length := by rw [J.len]; exact (List.getElem?_eq_some_iff.mp hi).1
      refine store_ok (X := X.suite a ((a, oe4) :: (X.pn ++ pins))) (v := .ref a) S4 hN hi hloc rfl (fun s5 S5 => ?_) (.inr hln)
      refine wpAny_mono ((hsu a ((a, oe4) :: (X.pn ++ pins))).run [] s5 _ H' { nx := fun σ6 H6 => H6 = H' ∧ σ6 = (σ'.set i (some (.ref a))).set j (some (.ref a)) , rt := fun _ _ => False, bk := fun _ _ => False, ct := fun _ _ => False } S5 ⟨List.getElem?_set_self hli, rfl, rfl⟩) (fun f s6 hsp => ?_) (fun _ _ z => False.elim z)
      cases f with
      | next =>
        obtain ⟨σ6, H6, S6, rfl, rfl⟩ := hsp
        obtain ⟨p1, p2, _⟩ := S6.pin (a, oe4) (List.mem_append_left _ List.mem_cons_self)
        have T6 := Inv.track (o := ExT cls d a) (S6.unsuite ok) hex n0 p2 nL nC nP (exT_ok p1 hz4 hd4)
        exact gone_ok T6 hN hi hln fun s7 J7 => ⟨_, _, J7, hyes rfl a na⟩
      | brk => obtain ⟨σ6, H6, S6, q6⟩ := hsp; exact q6.elim
      | cont => obtain ⟨σ6, H6, S6, q6⟩ := hsp; exact q6.elim
      | ret u => obtain ⟨v6, σ6, H6, S6, r6, q6⟩ := hsp; exact q6.elim
    | false =>
      show wpAny _ X.A (handleBy (.ref a) X.env []) _ _ _
      refine wpAny_handleBy_nil ?_
      obtain ⟨k1, k2, k3, oe, vs, T, oT, ts', he, hz, hd, h1, hr⟩ := id fl3
      unfold PySem.passOn
      refine wpAny_bind (wpAny_field he hd h1 ?_)
      rw [if_neg (show ¬ ((Value.ref T == Value.none) = true) from by simp)]
      have fin : wpAny (model X.prog X.w) X.A (setFlight (.ref a) X.env.frame) (fun _ s4 => wpAny (model X.prog X.w) X.A (throw (.ref a) : Sem Flow) (SP X pins D) X.xe s4) X.xe { s' with heap := h3 } := by
        rw [hf]
        refine HandSPX.setFlight_upZ fl3 fun h4 hh4 up4 => wpAny_throw (tk _ _ ?_)
        exact ⟨a, B, sI, pins, σ', H', cls, d, rfl, J, nb, (up.trans up3).trans up4, .inr (.inr (by rw [hs]; exact hh4)), na, os, ag, hno rfl⟩
      first
        | exact wpAny_bind (wpAny_pure (wpAny_bind fin))
        | exact wpAny_bind fin
  · cases f with
    | next =>
      obtain ⟨σ', H', J', q⟩ := hsp
      exact wpAny_execs_nil ⟨σ', H', J'.ofTry ok, q⟩
    | brk =>
      obtain ⟨σ', H', J', q⟩ := hsp
      exact ⟨σ', H', J'.ofTry ok, q⟩
    | cont =>
      obtain ⟨σ', H', J', q⟩ := hsp
      exact ⟨σ', H', J'.ofTry ok, q⟩
    | ret u =>
      obtain ⟨v, σ', H', J', r, q⟩ := hsp
      exact ⟨v, σ', H', J'.ofTry ok, r, q⟩
end
section
variable {K : PySem.W.Frag} {mg : Str → Option Value} {n : Nat} {Wx : WX} {W : Wd} {F : Addr → Prop} {H H0 : Hp} {σ : L2.St} {r : Ev} {o : List Nat}
/-- a slot is emptied -/
theorem RS.unset {i : Nat} (h : RS K n W F H H0 σ r o) : RS K n W F H H0 (σ.set i none) (r.set i none) (offs o [i]) where
  ln := by rw [List.length_set]; exact h.ln
  fr := fun j hj d' g => by
    by_cases e : j = i
    · subst e
      exfalso
      unfold getS at g
      by_cases hl : j < r.length
      · rw [List.getElem?_set_self hl] at g; cases g
      · rw [List.getElem?_eq_none (by rw [List.length_set]; omega)] at g; cases g
    · have : j ∉ o := fun z => hj (mem_offs.mpr ⟨z, by simpa using e⟩)
      have g' : getS r j = some d' := by
        unfold getS at g ⊢
        rw [List.getElem?_set_ne (Ne.symm e)] at g; exact g
      rw [List.getElem?_set_ne (Ne.symm e)]
      exact h.fr j this d' g'
  ow := fun j hj d' g => by
    obtain ⟨jo, jn⟩ := mem_offs.mp hj
    have e : j ≠ i := by simpa using jn
    have g' : getS r j = some d' := by
      unfold getS at g ⊢
      rw [List.getElem?_set_ne (Ne.symm e)] at g; exact g
    rw [List.getElem?_set_ne (Ne.symm e)]
    exact h.ow j jo d' g'
  ap := fun a b ha hb ne d1 d2 g1 g2 => by
    obtain ⟨ao, an⟩ := mem_offs.mp ha
    obtain ⟨bo, bn⟩ := mem_offs.mp hb
    have ea : a ≠ i := by simpa using an
    have eb : b ≠ i := by simpa using bn
    unfold getS at g1 g2
    rw [List.getElem?_set_ne (Ne.symm ea)] at g1
    rw [List.getElem?_set_ne (Ne.symm eb)] at g2
    rw [List.getElem?_set_ne (Ne.symm ea), List.getElem?_set_ne (Ne.symm eb)]
    exact h.ap a b ao bo ne d1 d2 g1 g2
end
section
variable {X : Cx} {Wx : WX} {vs : List Nat} {me : Ev → M D} {pos : Pos}
theorem p_raise {e : Expr} (hc : X.calm = true) (tk : Takes X Wx) (h : PMk X e (tzX X.K X.mg Wx vs me)) : PS X (.Raise (some e) none pos) (tzS X Wx fun r o => evS vs me r o fun d o1 => raiseF d r o1) :=
  PS.imp (ps_raise hc tk h) fun D σ H ⟨W0, F0, H0, W, F, st, r, o, s, x0, rs, p⟩ => by
    refine ⟨frzW W H σ r o vs, F, st, r, frz_sr s rs, frz_rel s rs, ?_⟩
    dsimp only at p
    unfold evS at p
    cases q : me r st with
    | ok d st1 =>
      rw [q] at p
      cases d <;> first | exact p.elim | skip
      intro cls dx W1 F1 H1 s1 x1 xr
      exact p cls dx σ W1 F1 H1 s1 ((frz_ext s rs x0).trans x1) ((frz_rs s rs).ext x1) xr
    | exc e st1 =>
      rw [q] at p
      intro cls dx W1 F1 H1 s1 x1 xr
      exact p cls dx σ W1 F1 H1 s1 ((frz_ext s rs x0).trans x1) ((frz_rs s rs).ext x1) xr
    | stk => rw [q] at p; exact p
theorem p_try {x n y : Str} {cv : Value} {i j : Nat} {ns : List Str} {body : List Stmt} {np yp p ap pos' : Pos} {m : Ev → List Nat → M Fl} (hs : X.stack = X.env :: X.outer) (hf : X.env.frame = some X.env.locals) (hex : X.ex = []) (hN : X.N.Nodup) (hi : X.N[i]? = some n) (hj : X.N[j]? = some y) (hln : X.env.kindOf n = some .local) (hly : Loc X.env.scope y) (hfn : ∀ x, X.fn x = true)
    (hd : (n == ("__debug__" : Str)) = false) (hcd : (n == ("__classdict__" : Str)) = false) (hc : Names X x cv) (tk : Takes X Wx) (hex2 : ∀ e ∈ ns, PySem.W.exmOne X.K (.ref (He.ga X.K e)) cv = some (isub e x))
    (hb : ∀ (W : WX) (pn : List (Addr × Obj)) (xe : Value → Shared → Prop), Takes (X.tr pn xe) W → PassesOwn (model X.prog X.w) X.A X.env xe → PSs (X.tr pn xe) body (tzS (X.tr pn xe) W m)) :
    PS X (.Try body [.ExceptHandler (some (.Name x np)) (some n) [.Assign [.Name y yp] (.Name n p) ap] pos'] [] [] pos) (tzS X Wx fun r o => bnd (m r o) fun f => tryF x i j ns f) :=
  PS.imp (ps_try_keep (tb := fun W => tzS X W m) hs hf hex hN hi hj hln hly hfn hd hcd hc tk hb) fun D σ H ⟨W0, F0, H0, W, F, st, r, o, s, x0, rs, p⟩ => by
    refine ⟨W0, F0, H0, W, F, st, r, o, s, x0, rs, ?_⟩
    dsimp only at p
    unfold bnd at p
    cases q : m r o st with
    | ok f st1 =>
      rw [q] at p
      have p : PstS X.K X.mg X.N.length Wx W0 F0 H0 D (tryF x i j ns f st1) := p
      cases f with
      | nxt r' o' => exact p
      | brk r' o' => exact p
      | cnt r' o' => exact p
      | ret d => exact p
      | retn d => exact p
      | exc e r' o' =>
        intro cls dx σ1 W1 F1 H1 s1 x1 rs1 xr
        unfold tryF at p
        dsimp only at p
        by_cases hns : ns.contains e.cls = true
        · rw [if_pos hns] at p
          refine ⟨isub e.cls x, by rw [xr.1]; exact hex2 _ (by simpa using hns), fun ht a ha => ?_, fun hfl => ?_⟩
          · rw [if_pos ht] at p
            obtain ⟨s2, x2, rv⟩ := xr_val s1 xr ha
            have hli : i < X.N.length := (List.getElem?_eq_some_iff.mp hi).1
            have hlj : j < X.N.length := (List.getElem?_eq_some_iff.mp hj).1
            exact p _ _ _ _ s2 (x1.trans x2) (((((rs1.ext x2).put hli rv).put hlj rv)).unset)
          · rw [if_neg (by rw [hfl]; decide)] at p
            exact p cls dx σ1 W1 F1 H1 s1 x1 rs1 xr
        · rw [if_neg hns] at p; exact p.elim
    | exc e st1 => rw [q] at p; exact p.elim
    | stk => rw [q] at p; exact p.elim
end
end Z
set_option Elab.async false
set_option linter.all false
set_option maxRecDepth 100000
set_option maxHeartbeats 4000000
namespace Z
open PySem PySem.Spec PyProof.Rows L2 TL

/-! ### statements from the program's text -/
structure Fs (X : Cx) (k : Cc) (sc : Scope) (Wx : WX) : Prop where
  fz : Fz X k sc Wx
  pass : PassesOwn (model X.prog X.w) X.A X.env X.xe
  bk : X.env.blockKind = .function
  fn : ∀ x, X.fn x = true
  stk : X.stack = X.env :: X.outer
  fr : X.env.frame = some X.env.locals
  ex : X.ex = []
def locL (sc : Scope) (x : Str) : Bool := decide (sc.names.lookup x = some .local)
def locB (sc : Scope) (x : Str) : Bool := locL sc x || decide (sc.names.lookup x = some .cell)
def farN (sc : Scope) : Expr → Bool
  | .Name x _ => !locL sc x
  | _ => true
def notTup : Expr → Bool
  | .Tuple _ _ _ => false
  | _ => true
/-- a target and its value, of which no stores are swapped -/
def plainSet (sc : Scope) (tg e : Expr) : Bool := notLC e && (match tg with
  | .Name _ _ => true
  | .Tuple ts _ _ => notTup e || (match e with
    | .Tuple vs _ _ => (decide (ts.length ≠ 2) && decide (ts.length ≠ 3)) || vs.all (foldedForSure 8) || ts.any (farN sc)
    | _ => true)
  | _ => false)
/-- the line's swap of a comprehension and its name -/
def lcSwap (sc : Scope) (x : Str) (p lp : Pos) (scope : Scope) : Bool := locL sc x && (p.line == lp.line && !(scope.names.any fun (n, k) => n == x && (k == .local || k == .cell)))
section
variable {X : Cx} {Wx : WX} {a b : Expr} {va vb : List Nat} {ma mb : Ev → M D} {pos : Pos}
theorem n_split {apos : Pos} (hb : notCallN a = true) (hl : (apos.endLine == pos.line) = true) (hn : notStar b = true) (ha : PE X a (tz X.K X.mg Wx va ma)) (hb2 : PE X b (tz X.K X.mg Wx vb mb)) :
    PE X (.Call (.Attribute a "split" apos) [b] [] pos) (tzN X.K X.mg Wx (va ++ (vb ++ [])) fun r => bnd (ma r) fun x => if meT .split x then bnd (bnd (mb r) fun d => bnd (ret []) fun ds => ret (d :: ds)) fun ds => ofO (meD .split x ds) else stk) :=
  PE.imp (pe_split ha hb2 (star_ok hn) (base_ok hb) hl) fun σ H Q ⟨W, F, st, r, sr, re, p⟩ =>
    gen_use good_pstN sr re.fst p fun x s1 v W1 F1 H1 sr1 e1 rx p1 => by
      cases x <;> first | exact False.elim p1 | skip
      rename_i z
      rw [Rep] at rx; obtain ⟨rfl, k⟩ := rx
      have p1 : PstN X.K X.mg Wx σ Q W1 F1 H1 (bnd (bnd (mb r) fun d => bnd (ret []) fun ds => ret (d :: ds)) (fun ds => ofO (meD .split (.str z) ds)) s1) := p1
      rw [evs1] at p1
      refine ⟨⟨z, rfl⟩, gen_use good_pstN sr1 (re.snd.fst.mono e1.le) p1 fun y s2 u W2 F2 H2 sr2 e2 ry p2 => ?_⟩
      cases y <;> first | exact False.elim p2 | skip
      rename_i q
      rw [Rep] at ry; obtain ⟨rfl, _⟩ := ry
      have p2 : PstN X.K X.mg Wx σ Q W2 F2 H2 (ofO (if (q.length == 0) = false ∧ z.length + 2 ≤ sizeLine then some (D.lst ((Txt.split z q).map D.str)) else none) s2) := p2
      split at p2
      · rename_i hz
        obtain ⟨k1, k2⟩ := split_ok k hz.1 hz.2
        exact ⟨z, q, rfl, rfl, hz.1, hz.2, fun l hl => newN (X := X) sr2 p2 (reps_strs k1) (by rw [List.length_map]; exact k2) hl⟩
      · exact False.elim p2
end
/-- values that are new -/
def freshB (k : Cc) : Expr → Bool
  | .List _ _ => true
  | .ListComp _ [⟨_, _, _, 0⟩] _ _ => true
  | .Call (.Name f _) args [] _ => (decide (f = "list") && !args.isEmpty) || (k.nfs.contains f && k.fns.contains f && (biOf f).isNone && decide (f ≠ "isinstance"))
  | .Call (.Attribute _ m _) [_] [] _ => decide (m = "split")
  | _ => false
theorem fresh_ok {X : Cx} {k : Cc} {sc : Scope} {Wx : WX} {c : Cal} {kk n : Nat} (g : Gb X.prog X.w X.K X.mg X.base X.A kk c k) (f : Fz X k sc Wx) {e : Expr} {m : E} (hf : freshB k e = true) (h : comp k n sc e = some m) :
    PE X e (tzN X.K X.mg Wx (vars m) (ev c m)) := by
  cases n with
  | zero => unfold comp at h; cases h
  | succ n =>
    have ih := comp_ok n X k sc Wx c kk g f
    have hgl : ∀ x, gloB sc x = true → Gl X x := fun x hx => by
      show X.env.scope.names.lookup x = _
      rw [f.sc]; exact glo_ok hx
    unfold freshB at hf
    split at hf
    · simp only [comp] at h
      split at h
      · rename_i hz
        simp only [Option.map_eq_some_iff] at h
        obtain ⟨ms, h1, rfl⟩ := h
        rw [vars, show ev c (.lst ms) = fun r => bnd (evs c ms r) fun ds => ret (.lst ds) from by funext r; rw [ev]]
        exact n_lst (args_ok ih h1) fun r st ds st' q => by rw [evs_len q, mapO_len h1]; exact Nat.le_trans hz (by decide)
      · cases h
    · obtain ⟨t, it, cnd, y, rfl, okb, hit, hg, ht, he, hs, hw, hlt⟩ := lc_ok (Wx := Wx) g f h
      rw [vars, show ev c (.lc t (slotsOf k.N _) it cnd y) = lcM t ((ownOf k.N _).map (·.2)) (ev c it) (ev c cnd) (ev c y) from funext fun r => by (rw [ev]) <;> rfl]
      exact n_lc f.calm f.nd okb hit hg ht he hs hw hlt
    · rename_i fn p args pos
      simp only [comp] at h
      split at h
      · rename_i hc
        simp only [Bool.and_eq_true] at hc
        by_cases hL : fn = "list"
        · subst hL
          rw [if_neg (by decide), show biOf "list" = some .list from by decide +kernel] at h
          cases args with
          | nil => cases h
          | cons e0 es =>
            have h : (if ("list" : Str) = "list" && isRng (e0 :: es) then lRng (comp k n sc) sc (e0 :: es) else (mapO (comp k n sc) (e0 :: es)).map (E.bi .list)) = some m := h
            split at h
            · exact (lrng_ok g f hc.1.2 ih h).1
            rw [Option.map_eq_some_iff] at h
            obtain ⟨ms, h1, rfl⟩ := h
            rw [vars, show ev c (.bi .list ms) = fun r => bnd (evs c ms r) fun ds => ofO (biD .list ds) from by funext r; rw [ev]]
            exact n_list (hgl _ hc.1.2) (biN g (by decide +kernel)) hc.2 (args_ok ih h1)
        · rw [Bool.or_eq_true] at hf
          rcases hf with hf | hf
          · rw [Bool.and_eq_true, decide_eq_true_eq] at hf; exact absurd hf.1 hL
          · simp only [Bool.and_eq_true, decide_eq_true_eq] at hf
            obtain ⟨⟨⟨h1, h2⟩, h3⟩, h4⟩ := hf
            rw [if_neg h4, Option.isNone_iff_eq_none.mp h3] at h
            have h : (if k.fns.contains fn = true then (mapO (comp k n sc) args).map (E.call fn) else if (k.xcs.contains fn && !args.isEmpty && decide (args.length ≤ 1000)) = true then (mapO (comp k n sc) args).map (E.mk fn) else none) = some m := h
            rw [if_pos h2, Option.map_eq_some_iff] at h
            obtain ⟨ms, hm, rfl⟩ := h
            cases args with
            | nil =>
              cases hm
              rw [vars, varss, show ev c (.call fn []) = fun r => bnd (ret []) fun ds => c fn ds from by funext r; rw [ev, evs]]
              exact n_call0 f.tk (g.fnN _ h1) g.room (hgl _ hc.1.2) hc.1.1
            | cons e0 es =>
              rw [vars, show ev c (.call fn ms) = fun r => bnd (evs c ms r) fun ds => c fn ds from by funext r; rw [ev]]
              exact n_call f.tk (g.fnN _ h1) g.room (hgl _ hc.1.2) hc.1.1 hc.2 (args_ok ih hm)
      · cases h
    · rename_i o m apos a pos
      have hf := of_decide_eq_true hf
      subst hf
      simp only [comp] at h
      split at h
      · rename_i hc
        simp only [Bool.and_eq_true] at hc
        rw [if_neg (by decide), if_pos trivial] at h
        simp only [Option.bind_eq_some_iff, Option.map_eq_some_iff] at h
        obtain ⟨x, hx, y, hy, rfl⟩ := h
        rw [vars, varss, varss, show ev c (.me .split x [y]) = fun r => bnd (ev c x r) fun x => if meT .split x then bnd (bnd (ev c y r) fun d => bnd (ret []) fun ds => ret (d :: ds)) fun ds => ofO (meD .split x ds) else stk from funext fun r => by (rw [ev, evs, evs]) <;> rfl]
        exact n_split hc.1.1 hc.2 (comp_star hy) (ih _ _ hx).1 (ih _ _ hy).1
      · cases h
    · cases hf
def retO (k : Cc) (sc : Scope) : Expr → Option Nat
  | .Name x _ => if okName x && visB sc x then idx x k.N else none
  | _ => none
def retCO (k : Cc) (sc : Scope) : Expr → Option (Expr × Nat)
  | .IfExp t (.Constant .none _ _) (.Name x p) _ => (retO k sc (.Name x p)).map fun i => (t, i)
  | _ => none
def compS (k : Cc) : Nat → Scope → Stmt → Option T
  | 0, _, _ => none
  | n + 1, sc, st => some ((match st with
    | .Pass _ => some T.pass
    | .Break _ => some .brk
    | .Continue _ => some .cnt
    | .Return none _ => some (.ret (.c .non))
    | .Return (some e) _ => (match retO k sc e with
      | some i => some (.retv i)
      | none => (match retCO k sc e with
        | some (t, i) => (comp k n sc t).map fun m => .retc m i
        | none => (comp k n sc e).map fun m => if freshB k e then .retn m else .ret m))
    | .Assign [.Name x p] (.ListComp elt [⟨tg, iter, ifs, 0⟩] scope lp) pos => if locB sc x then (idx x k.N).bind fun i => (comp k n sc (.ListComp elt [⟨tg, iter, ifs, 0⟩] scope lp)).map fun m => .own i m else none
    | .Assign [.Tuple [.Name x px, .Name y py] kt pt] (.Tuple [a, b] k2 pt2) _ => if parC sc x y px py a b then (idx x k.N).bind fun i => (idx y k.N).bind fun j => (comp k n sc a).bind fun m => (comp k n sc b).map fun m2 => .par i j m m2 else
        if plainSet sc (.Tuple [.Name x px, .Name y py] kt pt) (.Tuple [a, b] k2 pt2) then (compTg k sc true n (.Tuple [.Name x px, .Name y py] kt pt)).bind fun t => (comp k n sc (.Tuple [a, b] k2 pt2)).map fun m => .set t m else none
    | .Assign [.Name x p] e _ => if locB sc x && notLC e then (idx x k.N).bind fun i => (comp k n sc e).map fun m => if freshB k e then .own i m else .set (.nm i) m else none
    | .Assign [.Subscript (.Name x _) b _] e _ => if okName x && locB sc x && notLC e && notSl b then (idx x k.N).bind fun i => (comp k n sc b).bind fun y => (comp k n sc e).map fun m => .seti i y m else none
    | .Assign [tg] e _ => if plainSet sc tg e then (compTg k sc true n tg).bind fun t => (comp k n sc e).map fun m => .set t m else none
    | .Expr (.Constant (.str _) _ _) _ => some .pass
    | .Expr (.Call (.Attribute (.Name x _) m apos) [e] [] cpos) _ => if m = "append" then (if okName x && locB sc x && notStar e && (apos.endLine == cpos.line) then (idx x k.N).bind fun i => (comp k n sc e).map fun y => .app i y else none) else if m = "extend" then (if okName x && locB sc x && notStar e && (apos.endLine == cpos.line) then (idx x k.N).bind fun i => (comp k n sc e).map fun y => .ext i y else none) else none
    | .Expr (.Call (.Attribute (.Name x _) m apos) [] [] cpos) _ => if m = "pop" then (if okName x && locB sc x && (apos.endLine == cpos.line) then (idx x k.N).map fun i => .pop i else none) else none
    | .Expr e _ => if notLC e then (comp k n sc e).map .ex else none
    | .If c a b _ => (comp k n sc c).bind fun m => (mapO (compS k n sc) a).bind fun x => (mapO (compS k n sc) b).map fun y => .ite m x y
    | .For tg iter body [] _ => if notSet iter then (compTg k sc true n tg).bind fun t => (mapO (compS k n sc) body).bind fun b => (match compR (comp k n sc) sc iter with
        | some it => some (.for_ t true it b)
        | none => (compI (comp k n sc) sc tg iter).map fun it => .for_ t false it b) else none
    | .While c body [] _ => (comp k n sc c).bind fun m => (mapO (compS k n sc) body).map fun b => .while_ m b
    | .Raise (some (.Call (.Name f fp) (a :: as) [] cp)) none _ => if okName f && gloB sc f && (a :: as).all notStar && k.xcs.contains f && decide ((a :: as).length ≤ 1000) then (mapO (comp k n sc) (a :: as)).map fun ms => .raise (.mk f ms) else none
    | .Try body [.ExceptHandler (some (.Name c _)) (some x) [.Assign [.Name y _] (.Name x2 _) _] _] [] [] _ => if decide (x2 = x) && okName c && gloB sc c && k.xcs.contains c && okName x && locL sc x && locB sc y then
        (idx x k.N).bind fun i => (idx y k.N).bind fun j => (mapO (compS k n sc) body).map fun b => .tryk b c i j k.xcs else none
    | _ => none : Option T).getD .bad)
theorem mkS {X : Cx} {Wx : WX} {c : Cal} {fu : Nat} {st : Stmt} {s : T} {f : Ev → List Nat → M Fl} (he : ∀ r o, ex c fu s r o = f r o) (p : PS X st (tzS X Wx f)) : PS X st (tzS X Wx (ex c fu s)) := by
  have e : ex c fu s = f := funext fun r => funext fun o => he r o
  rw [e]; exact p
theorem stmts_ok {X : Cx} {Wx : WX} {c : Cal} {fu : Nat} {cs : Stmt → Option T} (ih : ∀ st s, cs st = some s → PS X st (tzS X Wx (ex c fu s))) : ∀ {sts : List Stmt} {ss : List T}, mapO cs sts = some ss → PSs X sts (tzS X Wx (exs c fu ss))
  | [], _, h => by
    cases h
    have e : exs c fu [] = fun r o => ret (.nxt r o) := funext fun r => funext fun o => by rw [exs]
    rw [e]; exact p_nil
  | st :: sts, _, h => by
    obtain ⟨b, cs', h1, h2, rfl⟩ := mapO_cons h
    have e : exs c fu (b :: cs') = fun r o => bnd (ex c fu b r o) fun f => seqF f (exs c fu cs') := funext fun r => funext fun o => by rw [exs]
    rw [e]; exact p_cons (ih _ _ h1) (stmts_ok ih h2)
theorem swaps_no {e : Expr} {t : Option Expr} {l : Nat} {env : Env} (h : notLC e = true) : swapsWith e t l env = pure false := by
  cases e <;> first | rfl | (cases h; done)
theorem far_len {env : Env} {l : Nat} : ∀ {ts : List Expr}, ts.any (farN env.scope) = true → (ts.filterMap fun
    | .Name id pos => if env.kindOf id == some .local && pos.line == l then some id else none
    | _ => none).length < ts.length
  | [], h => by cases h
  | t :: ts, h => by
    have le : ∀ ts : List Expr, (ts.filterMap fun
      | .Name id pos => if env.kindOf id == some .local && pos.line == l then some id else none
      | _ => none).length ≤ ts.length := fun ts => List.length_filterMap_le _ _
    rw [List.any_cons, Bool.or_eq_true] at h
    rw [List.filterMap_cons]
    split
    · exact Nat.lt_succ_of_le (le ts)
    · rename_i y e
      rcases h with h | h
      · exfalso
        cases t <;> first | (cases e; done) | skip
        rename_i x p
        have h : (!decide (env.scope.names.lookup x = some .local)) = true := h
        have e : (if env.kindOf x == some .local && p.line == l then some x else none) = some y := e
        split at e
        · rename_i c
          rw [Bool.and_eq_true] at c
          have := eq_of_beq c.1
          have k : env.scope.names.lookup x = some .local := this
          rw [k] at h; cases h
        · cases e
      · exact Nat.succ_lt_succ (far_len h)
theorem stored_no {tg e : Expr} {env : Env} (h : plainSet env.scope tg e = true) : swappedStores [tg] e env = pure none := by
  unfold plainSet at h
  rw [Bool.and_eq_true] at h
  have h2 := h.2
  cases tg <;> first | (cases h2; done) | (cases e <;> rfl) | skip
  rename_i ts k p
  cases e <;> first | rfl | skip
  rename_i vs k2 p2
  have h2 : (false || ((decide (ts.length ≠ 2) && decide (ts.length ≠ 3)) || vs.all (foldedForSure 8) || ts.any (farN env.scope))) = true := h2
  rw [Bool.false_or, Bool.or_eq_true, Bool.or_eq_true, Bool.and_eq_true, decide_eq_true_eq, decide_eq_true_eq] at h2
  unfold swappedStores
  rcases h2 with (h2 | h2) | h2
  · simp [h2.1, h2.2]
  · dsimp only
    simp only [h2]
    repeat' split
    all_goals first | rfl | contradiction | (simp_all; done) | simp
  · have hl := far_len (l := (ts.head?.map (·.pos.line)).getD 0) h2
    dsimp only
    split
    · rfl
    · split
      · rfl
      · split
        · rfl
        · rename_i hn
          exfalso
          apply hn
          rw [Bool.or_eq_true]
          exact .inl (bne_iff_ne.mpr (Nat.ne_of_lt hl))
theorem each_one {tg : Expr} {env : Env} (h : notStar tg = true) : (assignEach [tg] env).map (·.2) = [assign tg env] := by
  cases tg <;> first | rfl | (cases h; done)
/-- THE THEOREM: statements -/
theorem compS_ok : ∀ (n : Nat) (X : Cx) (k : Cc) (sc : Scope) (Wx : WX) (c : Cal) (kk fu : Nat), Gb X.prog X.w X.K X.mg X.base X.A kk c k → Fs X k sc Wx → ∀ st s, compS k n sc st = some s → PS X st (tzS X Wx (ex c fu s))
  | 0, _, _, _, _, _, _, _, _, _, _, _, h => by unfold compS at h; cases h
  | n + 1, X, k, sc, Wx, c, kk, fu, g, fs, st, s, h => by
    have f := fs.fz
    have ih := compS_ok n X k sc Wx c kk fu g fs
    have ie := comp_ok n X k sc Wx c kk g f
    have ib : ∀ {sts : List Stmt} {ss : List T}, mapO (compS k n sc) sts = some ss → PSs X sts (tzS X Wx (exs c fu ss)) := fun h => stmts_ok ih h
    have hlL : ∀ {x : Str}, locL sc x = true → X.env.scope.names.lookup x = some .local := fun h => by rw [f.sc]; unfold locL at h; exact of_decide_eq_true h
    have hl : ∀ {x : Str}, locB sc x = true → Loc X.env.scope x := fun h => by
      unfold locB at h
      rw [Bool.or_eq_true] at h
      rcases h with h | h
      · exact .inl (hlL h)
      · exact .inr (by rw [f.sc]; exact of_decide_eq_true h)
    have hv : ∀ {x : Str}, locB sc x = true → Vis X.env.scope x := fun h => (hl h).elim .inl fun z => .inr (.inl z)
    have hx : ∀ {x : Str} {i : Nat}, idx x k.N = some i → X.N[i]? = some x := fun h => by rw [f.N]; exact idx_ok h
    unfold compS at h
    rw [Option.some.injEq, Option.getD_eq_iff] at h
    rcases h with h | ⟨_, rfl⟩
    case inr => exact mkS (fun r o => by (rw [ex]) <;> rfl) p_bad
    split at h
    · cases h; exact mkS (fun r o => by (rw [ex]) <;> rfl) p_pass
    · cases h; exact mkS (fun r o => by (rw [ex]) <;> rfl) p_brk
    · cases h; exact mkS (fun r o => by (rw [ex]) <;> rfl) p_cnt
    · cases h; exact mkS (fun r o => by rw [ex, show ev c (.c .non) = fun _ => ret .non from funext fun r => by rw [ev]]; rfl) p_ret0
    · split at h
      · rename_i i hr
        cases h
        unfold retO at hr
        split at hr
        · split at hr
          · rename_i hc
            rw [Bool.and_eq_true] at hc
            have ho := hc.1
            unfold okName at ho
            simp only [Bool.and_eq_true, Bool.not_eq_true'] at ho
            exact mkS (fun r o => by (rw [ex]) <;> rfl) (p_retv (hx hr) (by rw [f.sc]; exact vis_ok hc.2) ho.1.1 ho.1.2)
          · cases hr
        · cases hr
      · split at h
        · rename_i t i hr
          rw [Option.map_eq_some_iff] at h
          obtain ⟨m, hm, rfl⟩ := h
          unfold retCO at hr
          split at hr
          · rw [Option.map_eq_some_iff] at hr
            obtain ⟨j, hr, he⟩ := hr
            cases he
            unfold retO at hr
            dsimp only at hr
            split at hr
            · rename_i hc
              rw [Bool.and_eq_true] at hc
              have ho := hc.1
              unfold okName at ho
              simp only [Bool.and_eq_true, Bool.not_eq_true'] at ho
              exact mkS (fun r o => by (rw [ex]) <;> rfl) (p_retc (ie _ _ hm).2 (hx hr) (by rw [f.sc]; exact vis_ok hc.2) ho.1.1 ho.1.2)
            · cases hr
          · cases hr
        · rw [Option.map_eq_some_iff] at h
          obtain ⟨m, hm, rfl⟩ := h
          split
          · rename_i hf
            exact mkS (fun r o => by (rw [ex]) <;> rfl) (p_retn (fresh_ok g f hf hm))
          · exact mkS (fun r o => by (rw [ex]) <;> rfl) (p_ret (ie _ _ hm).1)
    · rename_i x p elt tg iter ifs scope lp pos
      split at h
      · rename_i hc
        simp only [Option.bind_eq_some_iff, Option.map_eq_some_iff] at h
        obtain ⟨i, hi, m, hm, rfl⟩ := h
        cases n with
        | zero => unfold comp at hm; cases hm
        | succ n =>
          obtain ⟨t, it, cnd, y, rfl, okb, hit, hg, ht, he, hs, hw, hlt⟩ := lc_ok (Wx := Wx) g f hm
          have e1 : vars (.lc t (slotsOf k.N scope) it cnd y) = vars it ++ (vars cnd ++ vars y) := by rw [vars]
          have e2 : ev c (.lc t (slotsOf k.N scope) it cnd y) = lcM t ((ownOf k.N scope).map (·.2)) (ev c it) (ev c cnd) (ev c y) := funext fun r => by (rw [ev]) <;> rfl
          refine mkS (fun r o => by (rw [ex, e1, e2]) <;> rfl) ?_
          by_cases hsw : lcSwap sc x p lp scope = true
          · unfold lcSwap at hsw
            rw [Bool.and_eq_true, Bool.and_eq_true] at hsw
            have e3 : X.env.kindOf x = some .local := hlL hsw.1
            refine p_ownLc f.calm f.nd (hx hi) e3 ?_ okb hit hg ht he hs hw hlt
            unfold swapsWith
            simp only [fs.bk, e3]
            simp only [Expr.pos, hsw.2.1, hsw.2.2]
            rfl
          · refine p_own f.nd (hx hi) (hl hc) (.inl (fs.fn _)) (n_lc f.calm f.nd okb hit hg ht he hs hw hlt) ?_
            unfold lcSwap at hsw
            rw [Bool.and_eq_true, Bool.and_eq_true] at hsw
            unfold swapsWith
            simp only [fs.bk]
            simp only [Expr.pos]
            cases q0 : (X.env.kindOf x == some .local) with
            | false => rfl
            | true =>
              cases q1 : (p.line == lp.line) with
              | false => rfl
              | true =>
                cases q2 : (!(scope.names.any fun (n, k) => n == x && (k == .local || k == .cell))) with
                | false => rfl
                | true => exact absurd ⟨by unfold locL; exact decide_eq_true (by rw [← f.sc]; exact eq_of_beq q0), q1, q2⟩ hsw
      · cases h
    · split at h
      · rename_i hc
        simp only [Option.bind_eq_some_iff, Option.map_eq_some_iff] at h
        obtain ⟨i, hi, j, hj, m, hm, m2, hm2, rfl⟩ := h
        exact mkS (fun r o => by (rw [ex]) <;> rfl) (p_par f.calm f.nd (hx hi) (hx hj) fs.bk (by rw [f.sc]; exact hc) (ie _ _ hm).1 (ie _ _ hm2).1)
      · split at h
        · rename_i hc
          simp only [Option.bind_eq_some_iff, Option.map_eq_some_iff] at h
          obtain ⟨t, ht, m, hm, rfl⟩ := h
          obtain ⟨a1, a2, a3⟩ := tg_ok f.N f.nd f.sc f.calm (fun _ => fs.fn) n _ t ht
          exact mkS (fun r o => by (rw [ex]) <;> rfl) (p_set a2 (ie _ _ hm).1 a1 (by rfl) (stored_no (by rw [f.sc]; exact hc)) (each_one a3))
        · cases h
    · rename_i x p e pos _
      split at h
      · rename_i hc
        rw [Bool.and_eq_true] at hc
        simp only [Option.bind_eq_some_iff, Option.map_eq_some_iff] at h
        obtain ⟨i, hi, m, hm, rfl⟩ := h
        split
        · rename_i hf
          exact mkS (fun r o => by (rw [ex]) <;> rfl) (p_own f.nd (hx hi) (hl hc.1) (.inl (fs.fn _)) (fresh_ok g f hf hm) (swaps_no hc.2))
        · have ps : plainSet X.env.scope (.Name x p) e = true := by unfold plainSet; rw [hc.2]; rfl
          exact mkS (fun r o => by (rw [ex]) <;> rfl) (p_set (fun j hj => by
            have : j = i := by simpa [tgs] using hj
            rw [this]; exact (List.getElem?_eq_some_iff.mp (hx hi)).1) (ie _ _ hm).1 (tg_name f.nd (hx hi) (hl hc.1) (.inl (fs.fn _))) (show swapsWith e (some (.Name x p)) pos.line X.env = pure false from swaps_no hc.2) (stored_no ps) (each_one rfl))
      · cases h
    · split at h
      · rename_i hc
        simp only [Bool.and_eq_true] at hc
        have ho := hc.1.1.1
        unfold okName at ho
        simp only [Bool.and_eq_true, Bool.not_eq_true'] at ho
        simp only [Option.bind_eq_some_iff, Option.map_eq_some_iff] at h
        obtain ⟨i, hi, y, hy, m, hm, rfl⟩ := h
        exact mkS (fun r o => by (rw [ex]) <;> rfl) (p_seti (hx hi) (hv hc.1.1.2) ho.1.1 ho.1.2 hc.1.2 hc.2 (ie _ _ hm).1 (ie _ _ hy).1)
      · cases h
    · split at h
      · rename_i hc
        simp only [Option.bind_eq_some_iff, Option.map_eq_some_iff] at h
        obtain ⟨t, ht, m, hm, rfl⟩ := h
        obtain ⟨a1, a2, a3⟩ := tg_ok f.N f.nd f.sc f.calm (fun _ => fs.fn) n _ t ht
        exact mkS (fun r o => by (rw [ex]) <;> rfl) (p_set a2 (ie _ _ hm).1 a1 (swaps_no (by unfold plainSet at hc; rw [Bool.and_eq_true] at hc; exact hc.1)) (stored_no (by rw [f.sc]; exact hc)) (each_one a3))
      · cases h
    · cases h; exact mkS (fun r o => by (rw [ex]) <;> rfl) p_doc
    · split at h
      · rename_i hm
        subst hm
        split at h
        · rename_i hc
          simp only [Bool.and_eq_true] at hc
          have ho := hc.1.1.1
          unfold okName at ho
          simp only [Bool.and_eq_true, Bool.not_eq_true'] at ho
          simp only [Option.bind_eq_some_iff, Option.map_eq_some_iff] at h
          obtain ⟨i, hi, m, hm, rfl⟩ := h
          exact mkS (fun r o => by (rw [ex]) <;> rfl) (p_app (hx hi) (hv hc.1.1.2) ho.1.1 ho.1.2 hc.1.2 hc.2 (ie _ _ hm).1)
        · cases h
      · split at h
        · rename_i hm
          subst hm
          split at h
          · rename_i hc
            simp only [Bool.and_eq_true] at hc
            have ho := hc.1.1.1
            unfold okName at ho
            simp only [Bool.and_eq_true, Bool.not_eq_true'] at ho
            simp only [Option.bind_eq_some_iff, Option.map_eq_some_iff] at h
            obtain ⟨i, hi, m, hm, rfl⟩ := h
            exact mkS (fun r o => by (rw [ex]) <;> rfl) (p_ext (hx hi) (hv hc.1.1.2) ho.1.1 ho.1.2 hc.1.2 hc.2 (ie _ _ hm).1)
          · cases h
        · cases h
    · split at h
      · rename_i hm
        subst hm
        split at h
        · rename_i hc
          simp only [Bool.and_eq_true] at hc
          have ho := hc.1.1
          unfold okName at ho
          simp only [Bool.and_eq_true, Bool.not_eq_true'] at ho
          simp only [Option.map_eq_some_iff] at h
          obtain ⟨i, hi, rfl⟩ := h
          exact mkS (fun r o => by (rw [ex]) <;> rfl) (p_pop (hx hi) (hv hc.1.2) ho.1.1 ho.1.2 hc.2)
        · cases h
      · cases h
    · split at h
      · rename_i hc
        rw [Option.map_eq_some_iff] at h
        obtain ⟨m, hm, rfl⟩ := h
        exact mkS (fun r o => by (rw [ex]) <;> rfl) (p_ex (ie _ _ hm).1 (swaps_no hc))
      · cases h
    · simp only [Option.bind_eq_some_iff, Option.map_eq_some_iff] at h
      obtain ⟨m, hm, a, ha, b, hb, rfl⟩ := h
      exact mkS (fun r o => by (rw [ex]) <;> rfl) (p_ite (ie _ _ hm).2 (ib ha) (ib hb))
    · split at h
      · rename_i hc
        simp only [Option.bind_eq_some_iff] at h
        obtain ⟨t, ht, b, hb, h⟩ := h
        obtain ⟨a1, a2, a3⟩ := tg_ok f.N f.nd f.sc f.calm (fun _ => fs.fn) n _ t ht
        split at h
        · rename_i it hit
          cases h
          obtain ⟨es, rfl⟩ := compR_rng hit
          exact mkS (fun r o => by (rw [ex]) <;> rfl) (p_forR fs.pass f.calm (pr_ok g f hit) (fun r st a n st' q => rng_le q) a1 a2 (ib hb) (folded_ok hc))
        · rw [Option.map_eq_some_iff] at h
          obtain ⟨it, hit, rfl⟩ := h
          exact mkS (fun r o => by (rw [ex]) <;> rfl) (p_for fs.pass f.calm (pi_ok g f hit) a1 a2 (ib hb) (folded_ok hc))
      · cases h
    · simp only [Option.bind_eq_some_iff, Option.map_eq_some_iff] at h
      obtain ⟨m, hm, b, hb, rfl⟩ := h
      exact mkS (fun r o => by (rw [ex]) <;> rfl) (p_while fs.pass (ie _ _ hm).2 (ib hb))
    · split at h
      · rename_i hc
        simp only [Bool.and_eq_true, decide_eq_true_eq] at hc
        rw [Option.map_eq_some_iff] at h
        obtain ⟨ms, hms, rfl⟩ := h
        have hgl : Gl X _ := show X.env.scope.names.lookup _ = _ by rw [f.sc]; exact glo_ok hc.1.1.1.2
        exact mkS (fun r o => by (rw [ex, vars, show ev c (.mk _ ms) = fun r => bnd (evs c ms r) fun ds => ofO (mkD _ ds) from by funext r; rw [ev]])) (p_raise f.calm f.tk (x_ok g (List.contains_iff_mem.mp hc.1.2) hgl hc.1.1.1.1 hc.1.1.2 (args_ok ie hms)))
      · cases h
    · split at h
      · rename_i hc
        simp only [Bool.and_eq_true, decide_eq_true_eq] at hc
        simp only [Option.bind_eq_some_iff, Option.map_eq_some_iff] at h
        obtain ⟨i, hi, j, hj, b, hb, rfl⟩ := h
        obtain ⟨⟨⟨⟨⟨⟨rfl, hoc⟩, hgc⟩, hxc⟩, hox⟩, hlx⟩, hly⟩ := hc
        have hgl : Gl X _ := show X.env.scope.names.lookup _ = _ by rw [f.sc]; exact glo_ok hgc
        have hxc' := List.contains_iff_mem.mp hxc
        obtain ⟨_, _, q⟩ := g.xs _ hxc'
        unfold okName at hoc hox
        simp only [Bool.and_eq_true, Bool.not_eq_true'] at hoc hox
        exact mkS (fun r o => by (rw [ex]) <;> rfl) (p_try fs.stk fs.fr fs.ex f.nd (hx hi) (hx hj) (by
            have := of_decide_eq_true hlx
            show X.env.scope.names.lookup _ = _
            rw [f.sc]; exact this) (hl hly) fs.fn hox.1.1 hox.1.2 ⟨hgl, hoc.1.1, .inl q.hm⟩ f.tk (fun e he => (g.xp e he _ hxc').2)
          fun W pn xe tkW ps => stmts_ok (fun st s h => compS_ok n (X.tr pn xe) k sc W c kk fu g ⟨⟨f.N, f.nd, f.sc, f.calm, tkW⟩, ps, fs.bk, fs.fn, fs.stk, fs.fr, fs.ex⟩ st s h) hb)
      · cases h
    · cases h
end Z
set_option Elab.async false
set_option linter.all false
set_option maxRecDepth 100000
set_option maxHeartbeats 4000000
namespace Z
open PySem PySem.Spec PyProof.Rows L2 TL

/-! ### defs -/
def ini (n : Nat) (ds : List D) : Ev := ds.map some ++ List.replicate (n - ds.length) none
/-- what a def's body answers -/
def outR : Res Fl → Res D
  | .ok (.ret d) s => .ok d s
  | .ok (.retn d) s => .ok d s
  | .ok (.nxt _ _) s => .ok .non s
  | .ok (.exc e _ _) s => .exc e s
  | _ => .stk
/-- .. if its lists, dicts are the caller's own -/
def outN : Res Fl → Res D
  | .ok (.ret d) s => if isMut d then .stk else .ok d s
  | .ok (.retn d) s => .ok d s
  | .ok (.nxt _ _) s => .ok .non s
  | .ok (.exc e _ _) s => .exc e s
  | _ => .stk
def runN (c : Cal) (fu n np : Nat) (body : List T) (ds : List D) : M D := fun st => if ds.length = np then outN (exs c fu body (ini n ds) [] st) else .stk
def runZ (c : Cal) (fu n np : Nat) (body : List T) (ds : List D) : M D := fun st => if ds.length = np then outR (exs c fu body (ini n ds) [] st) else .stk
theorem getS_ini {n : Nat} {ds : List D} {i : Nat} {d : D} (h : getS (ini n ds) i = some d) : ds[i]? = some d := by
  unfold getS ini at h
  by_cases z : i < ds.length
  · rw [List.getElem?_append_left (by simpa using z), List.getElem?_map] at h
    cases q : ds[i]? with
    | none => rw [q] at h; cases h
    | some x => rw [q] at h; simpa using h
  · rw [List.getElem?_append_right (by simpa using z)] at h
    have : ∀ (k j : Nat), ((List.replicate k (none : Option D))[j]?).join = none := fun k j => by
      cases q : (List.replicate k (none : Option D))[j]? with
      | none => rfl
      | some x =>
        have := List.mem_of_getElem? q
        rw [(List.mem_replicate.mp this).2]; rfl
    rw [this] at h; cases h
theorem start_get {N : List Str} {vs : List V} {i : Nat} {v : V} (h : vs[i]? = some v) : (L2.start N vs)[i]? = some (some v) := by
  have z : i < vs.length := (List.getElem?_eq_some_iff.mp h).1
  unfold L2.start
  rw [List.getElem?_append_left (by simpa using z), List.getElem?_map, h]; rfl
theorem start_len {N ps : List Str} {sc : Scope} (S : FnScope N ps sc) {vs : List V} (h : vs.length = ps.length) : (L2.start N vs).length = N.length := by
  have := congrArg List.length S.pre
  rw [List.length_take] at this
  unfold L2.start
  rw [List.length_append, List.length_map, List.length_replicate]
  omega
section
variable {P : Program} {w : World} {K : PySem.W.Frag} {mg : Str → Option Value} {base : Heap} {x qual : Str} {f : Addr} {fd : FuncData} {N ps : List Str}
theorem FnZ.mono {j k : Nat} {g : List D → M D} (F : FnZ P w K mg base j g x) (h : j ≤ k) : FnZ P w K mg base k g x := by
  obtain ⟨fa, fd, ps, h1, h2, h3, h4, h5⟩ := F.ex
  exact ⟨fa, fd, ps, h1, h2, h3, h4.mono h, h5⟩
theorem RepO.isM {W : Wd} {F : Addr → Prop} {H H0 : Hp} {d : D} {p : Addr} (h : RepO K W F H H0 d p) : isMut d = true := by
  obtain ⟨_, _, _, k⟩ := h
  rcases k with ⟨_, _, rfl, _⟩ | ⟨_, _, rfl, _⟩ <;> rfl
theorem out_pstN {Wx : WX} {E : XK} {σ : L2.St} {W : Wd} {F : Addr → Prop} {H : Hp} {Q : VK} {n : Nat} (hW : ∀ cls d σ H', E cls d H' → Wx cls d σ H') : ∀ {r : Res Fl}, PstN K mg (fun cls d _ H' => E cls d H') σ Q W F H (outN r) →
    PstS K mg n Wx W F H { nx := fun _ H' => Q .non H', rt := Q } r
  | .ok (.ret d) st, h => fun v W' F' H' s x rv => by
    by_cases hm : isMut d = true
    · have h : PstN K mg (fun cls d _ H' => E cls d H') σ Q W F H (if isMut d then Res.stk else Res.ok d st) := h
      rw [if_pos hm] at h; exact h.elim
    · have h : PstN K mg (fun cls d _ H' => E cls d H') σ Q W F H (if isMut d then Res.stk else Res.ok d st) := h
      rw [if_neg hm] at h
      refine h v W' F' H' s x ?_
      unfold RepN
      rw [if_neg hm]; exact rv
  | .ok (.retn d) st, h => fun p W' F' H' s x ro => by
    refine h (.ref p) W' F' H' s x ?_
    unfold RepN
    rw [if_pos ro.isM]
    exact ⟨p, rfl, ro⟩
  | .ok (.nxt r o) st, h => fun σ' W' F' H' s x _ => h .non W' F' H' s x (by unfold RepN; rw [if_neg (by decide), Rep])
  | .ok (.brk r o) st, h => h.elim
  | .ok (.cnt r o) st, h => h.elim
  | .ok (.exc e r o) st, h => fun cls dx σ' W' F' H' s x _ xr => hW _ _ _ _ (h cls dx W' F' H' s x xr)
  | .exc e st, h => h.elim
  | .stk, h => h.elim
theorem out_pst {Wx : WX} {E : XK} {σ : L2.St} {W : Wd} {F : Addr → Prop} {H : Hp} {Q : VK} {n : Nat} (hW : ∀ cls d σ H', E cls d H' → Wx cls d σ H') : ∀ {r : Res Fl}, Pst K mg (fun cls d _ H' => E cls d H') σ W F H Q (outR r) →
    PstS K mg n Wx W F H { nx := fun _ H' => Q .non H', rt := Q } r
  | .ok (.ret d) st, h => h
  | .ok (.retn d) st, h => fun p W' F' H' s x ro => by
    have h2 : PstN K mg (fun cls d _ H' => E cls d H') σ Q W F H (ret d st) := PstN.of (m := ret d) h
    refine h2 (.ref p) W' F' H' s x ?_
    unfold RepN
    rw [if_pos ro.isM]
    exact ⟨p, rfl, ro⟩
  | .ok (.nxt r o) st, h => fun σ' W' F' H' s x _ => h .non W' F' H' s x (by rw [Rep])
  | .ok (.brk r o) st, h => h.elim
  | .ok (.cnt r o) st, h => h.elim
  | .ok (.exc e r o) st, h => fun cls dx σ' W' F' H' s x _ xr => hW _ _ _ _ (h cls dx W' F' H' s x xr)
  | .exc e st, h => h.elim
  | .stk, h => h.elim
/-- THE RULE for a def of the text -/
theorem okZ_code {params : Arguments} {bdy : List Stmt} {sc : Scope} {kk fu n : Nat} {k : Cc} {c : Cal} {body : List T} (F : FunD K x qual params bdy sc [] [] f fd) (S : FnScope N ps sc) (hk : k.N = N) (hc : mapO (compS k n sc) bdy = some body)
    (G : ∀ A, Rg kk A → Gb P w K mg base A kk c k) : FnG P w K mg base (L2.CX P w) (kk + 1) f fd ps (spZ K mg (runZ c fu N.length ps.length body) ps.length) := by
  subst hk
  refine fn_g F S (fun vs H Q E h => h.1) (fun cdv A outer s H vs Q E hr h => ?_)
  obtain ⟨hl, ds, W, F0, st, sr, rv, p⟩ := h
  have hld : ds.length = ps.length := by rw [rv.length]; exact hl
  have fs : Fs (cxOf (L2.CX P w) P w K mg base k.N qual sc f cdv A outer s H E) k sc (fun cls d _ H' => E cls d H') :=
    ⟨⟨rfl, S.nd, rfl, rfl, takes_of rfl rfl rfl rfl⟩, passes_of rfl, by show Env.blockKind _ = _; unfold Env.blockKind; rw [show (cxOf (L2.CX P w) P w K mg base k.N qual sc f cdv A outer s H E).env.scope.kind = .function from S.kind]; rfl, fun _ => rfl, rfl, rfl, rfl⟩
  refine ⟨tzS _ (fun cls d _ H' => E cls d H') (exs c fu body), stmts_ok (fun st s h => compS_ok n _ k sc _ c kk fu (G _ hr) fs st s h) hc, W, F0, H, W, F0, st, ini k.N.length ds, [], sr, .refl, ?_, ?_⟩
  · refine ⟨start_len S hl, fun i _ d e => ?_, fun i hi => (List.not_mem_nil hi).elim, fun i j hi => (List.not_mem_nil hi).elim⟩
    obtain ⟨v, e1, r1⟩ := rv.get (getS_ini e)
    exact ⟨v, start_get e1, r1⟩
  · refine out_pst (σ := []) (fun _ _ _ _ h => h) ?_
    unfold runZ at p
    rw [if_pos hld] at p
    exact p
theorem fnZ_code {params : Arguments} {bdy : List Stmt} {sc : Scope} {kk fu n : Nat} {k : Cc} {c : Cal} {body : List T} (F : FunD K x qual params bdy sc [] [] f fd) (S : FnScope N ps sc) (hk : k.N = N) (hc : mapO (compS k n sc) bdy = some body)
    (hb : Binds K fd ps []) (hm : mg x = some (.ref f)) (G : ∀ A, Rg kk A → Gb P w K mg base A kk c k) : FnZ P w K mg base (kk + 1) (runZ c fu N.length ps.length body) x :=
  ⟨f, fd, ps, hm, F.kp, hb, okZ_code F S hk hc G, fun ds st hl => if_neg hl⟩
/-- THE RULE for a def of the text that gives what is new -/
theorem fnN_code {params : Arguments} {bdy : List Stmt} {sc : Scope} {kk fu n : Nat} {k : Cc} {c : Cal} {body : List T} (F : FunD K x qual params bdy sc [] [] f fd) (S : FnScope N ps sc) (hk : k.N = N) (hc : mapO (compS k n sc) bdy = some body)
    (hb : Binds K fd ps []) (hm : mg x = some (.ref f)) (G : ∀ A, Rg kk A → Gb P w K mg base A kk c k) : FnN P w K mg base (kk + 1) (runN c fu N.length ps.length body) x := by
  subst hk
  refine ⟨f, fd, ps, hm, F.kp, hb, fn_g F S (fun vs H Q E h => h.1) (fun cdv A outer s H vs Q E hr h => ?_), fun ds st hl => if_neg hl⟩
  obtain ⟨hl, ds, W, F0, st, sr, rv, p⟩ := h
  have hld : ds.length = ps.length := by rw [rv.length]; exact hl
  have fs : Fs (cxOf (L2.CX P w) P w K mg base k.N qual sc f cdv A outer s H E) k sc (fun cls d _ H' => E cls d H') :=
    ⟨⟨rfl, S.nd, rfl, rfl, takes_of rfl rfl rfl rfl⟩, passes_of rfl, by show Env.blockKind _ = _; unfold Env.blockKind; rw [show (cxOf (L2.CX P w) P w K mg base k.N qual sc f cdv A outer s H E).env.scope.kind = .function from S.kind]; rfl, fun _ => rfl, rfl, rfl, rfl⟩
  refine ⟨tzS _ (fun cls d _ H' => E cls d H') (exs c fu body), stmts_ok (fun st s h => compS_ok n _ k sc _ c kk fu (G _ hr) fs st s h) hc, W, F0, H, W, F0, st, ini k.N.length ds, [], sr, .refl, ?_, ?_⟩
  · refine ⟨start_len S hl, fun i _ d e => ?_, fun i hi => (List.not_mem_nil hi).elim, fun i j hi => (List.not_mem_nil hi).elim⟩
    obtain ⟨v, e1, r1⟩ := rv.get (getS_ini e)
    exact ⟨v, start_get e1, r1⟩
  · refine out_pstN (σ := []) (fun _ _ _ _ h => h) ?_
    unfold runN at p
    rw [if_pos hld] at p
    exact p
end
/-- calls by names -/
def calOf (l : List (Str × (List D → M D))) : Cal := fun f ds => match l.lookup f with
  | some g => g ds
  | none => stk
theorem lookup_not {l : List (Str × (List D → M D))} {f : Str} : l.lookup f = none → (l.map (·.1)).contains f = false := by
  induction l with
  | nil => intro _; rfl
  | cons p r ih =>
    intro h
    rw [List.lookup_cons] at h
    cases e : (f == p.1) with
    | true => rw [e] at h; cases h
    | false =>
      rw [e] at h
      rw [List.map_cons, List.contains_cons, e, ih h]; rfl
theorem lookup_app {l l2 : List (Str × (List D → M D))} {f : Str} : (l ++ l2).lookup f = (l.lookup f).or (l2.lookup f) := by
  induction l with
  | nil => rfl
  | cons p r ih =>
    rw [List.cons_append, List.lookup_cons, List.lookup_cons]
    cases e : (f == p.1) with
    | true => rfl
    | false => exact ih
structure Xs (P : Program) (w : World) (K : PySem.W.Frag) (mg : Str → Option Value) (base : Heap) (ns : List Str) : Prop where
  xs : ∀ n ∈ ns, ∃ fs, exTab.lookup n = some fs ∧ XcOk P w K mg base n fs
  xv : ∀ n ∈ ns, PySem.W.kitOne K (.ref (He.ga K n)) (.type "ValueError") = some true
  xp : ∀ n ∈ ns, ∀ m ∈ ns, PySem.W.kitOne K (.ref (He.ga K n)) (.ref (He.ga K m)) = some (isub n m) ∧ PySem.W.exmOne K (.ref (He.ga K n)) (.ref (He.ga K m)) = some (isub n m)
theorem gb_mkX {P : Program} {w : World} {K : PySem.W.Frag} {mg : Str → Option Value} {base : Heap} {A : Around} {kk : Nat} {lN lZ : List (Str × (List D → M D))} {N : List Str} {gl : List (Str × D)} {ns : List Str} (X : Xs P w K mg base ns) (hx : ns = [] ∨ 2 ≤ kk) (hr : Rg kk A) (bi : ∀ x ∈ bNames, mg x = none)
    (hg : ∀ p ∈ gl, ∃ u v, mg p.1 = some u ∧ RelV v u ∧ ∀ W, Rep K W p.2 v) (hf : ∀ p ∈ lN, FnN P w K mg base kk p.2 p.1) (hf2 : ∀ p ∈ lZ, FnZ P w K mg base kk p.2 p.1) : Gb P w K mg base A kk (calOf (lN ++ lZ)) ⟨N, gl, (lN ++ lZ).map (·.1), lN.map (·.1), ns⟩ where
  xs := X.xs
  xv := X.xv
  xp := X.xp
  rx := hx
  room := hr
  bi := bi
  gl := fun x d h => hg (x, d) (lookup_mem' h)
  fn := fun f h => by
    cases q : (lN ++ lZ).lookup f with
    | none =>
      have h : ((lN ++ lZ).map (·.1)).contains f = true := h
      rw [lookup_not q] at h; cases h
    | some g =>
      have e : calOf (lN ++ lZ) f = g := by funext ds; unfold calOf; rw [q]
      rw [e]
      rcases List.mem_append.mp (lookup_mem' q) with z | z
      · exact (hf (f, g) z).toZ
      · exact hf2 (f, g) z
  fnN := fun f h => by
    cases q : lN.lookup f with
    | none =>
      have h : (lN.map (·.1)).contains f = true := h
      rw [lookup_not q] at h; cases h
    | some g =>
      have e : calOf (lN ++ lZ) f = g := by funext ds; unfold calOf; rw [lookup_app, q]; rfl
      rw [e]
      exact hf (f, g) (lookup_mem' q)
theorem xs_nil {P : Program} {w : World} {K : PySem.W.Frag} {mg : Str → Option Value} {base : Heap} : Xs P w K mg base [] := ⟨fun _ h => (nomatch h), fun _ h => (nomatch h), fun _ h => (nomatch h)⟩
theorem gb_mk {P : Program} {w : World} {K : PySem.W.Frag} {mg : Str → Option Value} {base : Heap} {A : Around} {kk : Nat} {lN lZ : List (Str × (List D → M D))} {N : List Str} {gl : List (Str × D)} (hr : Rg kk A) (bi : ∀ x ∈ bNames, mg x = none)
    (hg : ∀ p ∈ gl, ∃ u v, mg p.1 = some u ∧ RelV v u ∧ ∀ W, Rep K W p.2 v) (hf : ∀ p ∈ lN, FnN P w K mg base kk p.2 p.1) (hf2 : ∀ p ∈ lZ, FnZ P w K mg base kk p.2 p.1) : Gb P w K mg base A kk (calOf (lN ++ lZ)) ⟨N, gl, (lN ++ lZ).map (·.1), lN.map (·.1), []⟩ := gb_mkX xs_nil (.inl rfl) hr bi hg hf hf2
end Z
set_option Elab.async false
set_option linter.all false
set_option maxRecDepth 100000
set_option maxHeartbeats 4000000
namespace Z
open PySem PySem.Spec PyProof.Rows L2 TL

theorem mem_cons_of {α : Type} {P : α → Prop} {a : α} {l : List α} (h : P a) (t : ∀ x ∈ l, P x) : ∀ x ∈ a :: l, P x := fun x hx => by
  rcases List.mem_cons.mp hx with e | e
  · rw [e]; exact h
  · exact t x e
/-! ### the store's draws -/
def drawR (mix : List D → M D) (m : Dr) (n : Int) : M D :=
  bnd (mix [.int (m.cells.getD (m.at_.toNat % 64) 0 + 31 * (m.at_ / 64)), .int m.at_]) fun x => bnd (mix [x, .int (m.at_ + 7)]) fun y => match y with
    | .int z => ret (.int (z % n))
    | _ => stk
def drawS (mix : List D → M D) (m : Dr) (n : Int) : M D := fun _ =>
  if 0 < m.left.getD (m.at_.toNat % m.left.length) 0 then .ok (.int (m.left.getD (m.at_.toNat % m.left.length) 0 % n)) (some { m with at_ := m.at_ + 1, left := m.left.set (m.at_.toNat % m.left.length) (m.left.getD (m.at_.toNat % m.left.length) 0 / n) })
  else drawR mix m n (some { m with at_ := m.at_ + 1 })
def drawOk (m : Dr) (n : Int) : Bool := decide (m.cells.length = 64) && decide (0 < n) && decide (n < 1073741824) && decide (0 ≤ m.at_) && decide (m.at_ < 1000000000)
def drawM (mix : List D → M D) (ds : List D) (st : Sto) : Res D := match ds, st with
  | [.obj 0, .int n], some m => if drawOk m n then drawS mix m n st else .stk
  | _, _ => .stk
theorem drawM_inv {mix : List D → M D} {ds : List D} {st : Sto} (h : drawM mix ds st ≠ .stk) : ∃ n m, ds = [.obj 0, .int n] ∧ st = some m ∧ drawOk m n = true ∧ drawM mix ds st = drawS mix m n st := by
  unfold drawM at h ⊢
  split at h
  · rename_i n m
    split at h
    · rename_i ok; exact ⟨n, m, rfl, rfl, ok, if_pos ok⟩
    · exact absurd rfl h
  · exact absurd rfl h

abbrev tSel (k : Str) : TE := tDGet (tVar 0) (tC (.str k))
abbrev rPl : R2 := rI0 fun i j => .int (i + j)
abbrev rMo : R2 := rI (fun _ j => 0 < j) fun i j => .int (i % j)
abbrev rMu : R2 := rI CMul fun i j => .int (i * j)
abbrev rDi : R2 := rI CDiv fun i j => .int (i / j)
abbrev rGr : R2 := rI0 fun i j => .bl (decide (j < i))
abbrev rLe (K : PySem.W.Frag) : List V → Hp → VK → Prop := fun xs H Q => ∃ p ys, xs = [.ref p] ∧ (SqL K H p ys ∨ SqT K H p ys) ∧ Q (.int ys.length) H
abbrev rNo (K : PySem.W.Frag) : R2 := fun v u H Q => ∃ x y W F st t, SR W F H st ∧ Rep K W x v ∧ Rep K W y u ∧ eqD x y = some t ∧ Q (.bl (!t)) H
def tMix (X : Cx) (Wx : WX) (mix : List D → M D) (ta : TA) : TE := tCallS (spZ X.K X.mg mix 2) (WE Wx) ta
def t_last (X : Cx) (Wx : WX) (mix : List D → M D) : TS :=
  tRet (tOp rMo (tMix X Wx mix (tCons (tMix X Wx mix (tCons (tOp rPl (tOp (rIxL X.K) (tSel kCells) (tOp rMo (tVar 2) (tC (.int 64)))) (tOp rMu (tC (.int 31)) (tOp rDi (tVar 2) (tC (.int 64))))) (tCons (tVar 2) tNil))) (tCons (tOp rPl (tVar 2) (tC (.int 7))) tNil))) (tVar 1))
def t_draw (X : Cx) (Wx : WX) (mix : List D → M D) : TS :=
  tSeq (tAsg (tSel kAt) (gName 2)) (tSeq (sDPut (tVar 0) (tC (.str kAt)) (tOp rPl (tVar 2) (tC (.int 1))))
    (tSeq (tIfS (tTest (tOp (rNo X.K) (tSel kLeft) (tLst tNil)))
      (tSeq (tAsg (tOp rMo (tVar 2) (tCB (rLe X.K) (tCons (tSel kLeft) tNil))) (gName 3)) (tSeq (tAsg (tOp (rIxL X.K) (tSel kLeft) (tVar 3)) (gName 4))
        (tIfS (tTest (tOp rGr (tVar 4) (tC (.int 0)))) (tSeq (tAsg (tOp rDi (tVar 4) (tVar 1)) (gSub (tSel kLeft) (tVar 3) rSetL)) (tRet (tOp rMo (tVar 4) (tVar 1)))) tNext)))
      tNext) (t_last X Wx mix)))
section
variable {x y z : V}
theorem val_at : valV [((.inr kCells : Key), x), (.inr kLeft, y), (.inr kAt, z)] (.inr kAt) = some z := by
  rw [valV_neg (show ¬ (Sum.inr kCells : Key) = .inr kAt by decide), valV_neg (show ¬ (Sum.inr kLeft : Key) = .inr kAt by decide), valV_pos rfl]
theorem val_left : valV [((.inr kCells : Key), x), (.inr kLeft, y), (.inr kAt, z)] (.inr kLeft) = some y := by
  rw [valV_neg (show ¬ (Sum.inr kCells : Key) = .inr kLeft by decide), valV_pos rfl]
theorem val_cells : valV [((.inr kCells : Key), x), (.inr kLeft, y), (.inr kAt, z)] (.inr kCells) = some x := by
  rw [valV_pos rfl]
theorem put_at {u : V} : putK [((.inr kCells : Key), x), (.inr kLeft, y), (.inr kAt, z)] (.inr kAt) u = [(.inr kCells, x), (.inr kLeft, y), (.inr kAt, u)] := by rfl
theorem put_left {u : V} : putK [((.inr kCells : Key), x), (.inr kLeft, y), (.inr kAt, z)] (.inr kLeft) u = [(.inr kCells, x), (.inr kLeft, u), (.inr kAt, z)] := by rfl
end
section
variable {K : PySem.W.Frag} {mg : Str → Option Value} {Wx : WX} {W : Wd} {F : Addr → Prop} {H : Hp} {st : Sto} {σ : L2.St} {Q : VK} {p : Addr} {o : HO} {m m' : Dr}
theorem Ext.foot1 (hF : F p) (hp : ∃ y, H p = some y) : Ext W F H W F (upd H p o) where
  le := .refl
  keep := fun q x h hf => by rw [upd_ne (fun e : q = p => hf (by rw [e]; exact hF))]; exact h
  there := fun q h => by
    by_cases e : q = p
    · subst e; rw [upd_same] at h; cases h
    · rw [upd_ne e] at h; exact h
  foot := fun _ h => h
  newf := fun _ h => .inl h
  fz := fun _ _ h => .inl h
/-- the store's own objects are written -/
theorem SR.foot1 (s : SR W F H st) (hF : F p) (ho : ∀ xs, (o = .lst xs ∨ o = .tup xs) → xs.length ≤ sizeLine) (hs : StoOk W F (upd H p o) st') : SR W F (upd H p o) st' where
  sub := fun q x h => by rw [upd_ne (fun e => by subst e; rw [s.fh q hF] at h; cases h)]; exact s.sub q x h
  fh := s.fh
  len := s.len.upd ho
  sto := hs
theorem pst_use {mm : M D} {f : D → M D} {Q1 : VK} (p : Pst K mg Wx σ W F H Q (bnd mm f st)) (k : ∀ d s1 v W1 F1 H1, SR W1 F1 H1 s1 → Ext W F H W1 F1 H1 → Rep K W1 d v → Pst K mg Wx σ W1 F1 H1 Q (f d s1) → Q1 v H1) : Pst K mg Wx σ W F H Q1 (mm st) := by
  unfold bnd at p
  cases q : mm st with
  | ok d s1 =>
    rw [q] at p
    intro v W1 F1 H1 s' x rp
    exact k d s1 v W1 F1 H1 s' x rp (Pst.ext x p)
  | exc e s1 => rw [q] at p; exact p
  | stk => rw [q] at p; exact p
end
theorem plains_ints : ∀ ns : List Int, plains (ns.map D.int) = true
  | [] => rfl
  | n :: ns => by rw [List.map_cons, plains, plains_ints ns]; rfl
/-- a list of numbers is not empty -/
theorem ne_nil {K : PySem.W.Frag} {H : Hp} {Q : VK} {l z : Addr} {ns : List Int} (hL : LenOk H) (hl : H l = some (.lst (ns.map V.int))) (hz : H z = some (.lst [])) (q : Q (.bl (!ns.isEmpty)) H) : rNo K (.ref l) (.ref z) H Q := by
  refine ⟨.lst (ns.map D.int), .lst [], ⟨fun _ => none, fun q => if q = l then some (.lst (ns.map V.int)) else if q = z then some (.lst []) else none⟩, fun _ => False, none, ns.isEmpty, ⟨fun q x h => ?_, fun _ h => h.elim, hL, fun _ => rfl, fun _ h => h⟩, ?_, ?_, ?_, q⟩
  · have h : (if q = l then some (HO.lst (ns.map V.int)) else if q = z then some (.lst []) else none) = some x := h
    split at h
    · rename_i e; rw [e, hl]; exact h
    · split at h
      · rename_i e; rw [e, hz]; exact h
      · cases h
  · rw [Rep]; exact ⟨l, _, rfl, if_pos rfl, reps_ints ns⟩
  · rw [Rep]
    by_cases e : z = l
    · subst e
      rw [hl] at hz
      cases ns with
      | nil => exact ⟨z, [], rfl, if_pos rfl, by rw [Reps]⟩
      | cons a r => cases hz
    · exact ⟨z, [], rfl, (if_neg e).trans (if_pos rfl), by rw [Reps]⟩
  · unfold eqD
    rw [if_pos]
    · cases ns <;> rfl
    · rw [Bool.and_eq_true, Bool.and_eq_true, decide_eq_true_eq]
      refine ⟨⟨by rw [plain]; exact plains_ints ns, rfl⟩, Nat.le_trans (Nat.min_le_right _ _) (by decide)⟩

/-! ### the reading of a draw -/
section
variable {X : Cx} {Wx : WX} {mix : List D → M D} {W : Wd} {F : Addr → Prop} {H : Hp} {m : Dr} {a : Addr} {n : Int} {E : Ends} {y3 y4 : Option V} {Q0 : VK}
theorem ixN_at {n j : Nat} (h : j < n) : ixN n (j : Int) = some j := by
  unfold ixN
  rw [if_pos (Int.natCast_nonneg j), if_pos (by omega), Int.toNat_natCast]
theorem getD_get {l : List Int} {i : Nat} (h : i < l.length) : (l.map V.int)[i]? = some (.int (l.getD i 0)) := by
  rw [List.getElem?_map, List.getElem?_eq_getElem h, List.getD_eq_getElem?_getD, List.getElem?_eq_getElem h]; rfl
theorem mod_nat {k : Int} {n : Nat} (hk : 0 ≤ k) : k % (n : Int) = ((k.toNat % n : Nat) : Int) := by
  rw [Int.natCast_emod, Int.toNat_of_nonneg hk]
/-- the last row -/
theorem last_read (hc : m.cells.length = 64) (hn : 0 < n) (h0 : 0 ≤ m.at_) (h1 : m.at_ < 1000000000) (sr : SR W F H (some { m with at_ := m.at_ + 1 })) (ha : W.ob 0 = some a)
    (p : Pst X.K X.mg (fun cls d _ H' => WE Wx [some (.ref a), some (.int n), some (.int m.at_), y3, y4] cls d H') [] W F H E.rt (drawR mix m n (some { m with at_ := m.at_ + 1 }))) :
    t_last X Wx mix E [some (.ref a), some (.int n), some (.int m.at_), y3, y4] H := by
  obtain ⟨a', c, l, e0, h2, h3, h4, hcl, hF⟩ := sr.sto
  rw [ha] at e0; cases e0
  have hi : m.at_.toNat % 64 < m.cells.length := by rw [hc]; exact Nat.mod_lt _ (by decide)
  have hd : 0 ≤ m.at_ / 64 := Int.ediv_nonneg h0 (by decide)
  refine ⟨.ref a, rfl, a, .ref c, rfl, .inl ⟨_, .inr kCells, .inl h2, rfl, val_cells.symm⟩, ?_⟩
  refine ⟨.int m.at_, rfl, m.at_, 64, rfl, rfl, (show (0 : Int) < 64 by decide), c, _, _, _, rfl, rfl, SqL.of h3, by rw [show m.at_ % 64 = ((m.at_.toNat % 64 : Nat) : Int) from mod_nat (n := 64) h0]; exact atI_nat (getD_get hi), ?_⟩
  refine ⟨.int m.at_, rfl, m.at_, 64, rfl, rfl, (show (0 : Int) < 64 ∧ (64 : Int) < 1073741824 by decide), 31, m.at_ / 64, rfl, rfl, (show CMul 31 _ from .inl (by decide)), _, _, rfl, rfl, .int m.at_, rfl, rfl, [.int (m.cells.getD (m.at_.toNat % 64) 0 + 31 * (m.at_ / 64)), .int m.at_], W, F, _, sr, ?_, ?_⟩
  · rw [Reps]; exact ⟨_, _, rfl, by rw [Rep], by rw [Reps]; exact ⟨_, _, rfl, by rw [Rep], by rw [Reps]⟩⟩
  · unfold drawR at p
    refine pst_use p fun d s1 v W1 F1 H1 sr1 x1 rv p1 => ⟨.int m.at_, rfl, m.at_, 7, rfl, rfl, rfl, [d, .int (m.at_ + 7)], W1, F1, s1, sr1, ?_, ?_⟩
    · rw [Reps]; exact ⟨_, _, rfl, rv, by rw [Reps]; exact ⟨_, _, rfl, by rw [Rep], by rw [Reps]⟩⟩
    · refine pst_use p1 fun d2 s2 v2 W2 F2 H2 sr2 x2 rv2 p2 => ?_
      cases d2 <;> first | exact False.elim p2 | skip
      rw [Rep] at rv2; subst rv2
      exact ⟨.int n, rfl, _, n, rfl, rfl, hn, p2.fin sr2 (by rw [Rep])⟩
theorem draw_read {Ex' : XK} (hr : E.rt = Q0) (sr : SR W F H (some m)) (ha : W.ob 0 = some a) (ok : drawOk m n = true)
    (p : Pst X.K X.mg (fun cls d _ H' => Ex' cls d H') [] W F H Q0 (drawS mix m n (some m))) (hW : Wx = fun cls d _ H' => Ex' cls d H') :
    t_draw X Wx mix E [some (.ref a), some (.int n), none, none, none] H := by
  subst hr
  unfold drawOk at ok
  simp only [Bool.and_eq_true, decide_eq_true_eq] at ok
  obtain ⟨⟨⟨⟨hc, hn⟩, hn2⟩, h0⟩, h1⟩ := ok
  obtain ⟨a', c, l, e0, h2, h3, h4, hcl, hF⟩ := sr.sto
  rw [ha] at e0; cases e0
  have Fa : F a := (hF a).mpr (.inl rfl)
  have Fl : F l := (hF l).mpr (.inr (.inr rfl))
  have nca : c ≠ a := fun e => by subst e; rw [h2] at h3; cases h3
  have nla : l ≠ a := fun e => by subst e; rw [h2] at h4; cases h4
  -- k = m['at']
  refine ⟨.ref a, rfl, a, .int m.at_, rfl, .inl ⟨_, .inr kAt, .inl h2, rfl, val_at.symm⟩, ?_⟩
  -- m['at'] = k + 1
  refine ⟨.int m.at_, rfl, m.at_, 1, rfl, rfl, .ref a, rfl, a, _, rfl, .inl ⟨_, .inr kAt, h2, rfl, (show 3 < sizeLine by decide), rfl⟩, ?_⟩
  rw [put_at]
  have ho : ∀ xs, ((HO.dK [((.inr kCells : Key), V.ref c), (.inr kLeft, .ref l), (.inr kAt, .int (m.at_ + 1))]) = .lst xs ∨ (HO.dK [((.inr kCells : Key), V.ref c), (.inr kLeft, .ref l), (.inr kAt, .int (m.at_ + 1))]) = .tup xs) → xs.length ≤ sizeLine := fun xs z => by rcases z with z | z <;> cases z
  generalize hH1 : upd H a (HO.dK [((.inr kCells : Key), V.ref c), (.inr kLeft, .ref l), (.inr kAt, .int (m.at_ + 1))]) = H1
  have a1 : H1 a = some (.dK [((.inr kCells : Key), V.ref c), (.inr kLeft, .ref l), (.inr kAt, .int (m.at_ + 1))]) := by rw [← hH1, upd_same]
  have c1 : H1 c = some (.lst (m.cells.map V.int)) := by rw [← hH1, upd_ne nca]; exact h3
  have l1 : H1 l = some (.lst (m.left.map V.int)) := by rw [← hH1, upd_ne nla]; exact h4
  have sr1 : SR W F H1 (some { m with at_ := m.at_ + 1 }) := by
    rw [← hH1]
    refine sr.foot1 Fa ho ?_
    rw [hH1]
    exact ⟨a, c, l, ha, a1, c1, l1, hcl, hF⟩
  have x1 : Ext W F H W F H1 := by rw [← hH1]; exact Ext.foot1 Fa ⟨_, h2⟩
  -- if m['left'] != []
  refine ⟨.ref a, rfl, a, .ref l, rfl, .inl ⟨_, .inr kLeft, .inl a1, rfl, val_left.symm⟩, ?_⟩
  refine ⟨Nat.zero_le _, fun z hz => ?_⟩
  have nzl : l ≠ z := fun e => by subst e; rw [l1] at hz; cases hz
  have nza : a ≠ z := fun e => by subst e; rw [a1] at hz; cases hz
  have hoz : ∀ xs : List V, (HO.lst [] = .lst xs ∨ HO.lst [] = .tup xs) → xs.length ≤ sizeLine := fun xs z => by
    rcases z with z | z
    · cases z; exact Nat.zero_le _
    · cases z
  obtain ⟨sr2, x2⟩ := sr1.laid (o := .lst []) hz hoz
  generalize hH2 : upd H1 z (.lst []) = H2 at sr2 x2
  have a2 : H2 a = some (.dK [((.inr kCells : Key), V.ref c), (.inr kLeft, .ref l), (.inr kAt, .int (m.at_ + 1))]) := by rw [← hH2, upd_ne nza]; exact a1
  have l2 : H2 l = some (.lst (m.left.map V.int)) := by rw [← hH2, upd_ne nzl]; exact l1
  have z2 : H2 z = some (.lst []) := by rw [← hH2, upd_same]
  generalize hW2 : W.put z (.lst []) = W2 at sr2 x2
  have ha2 : W2.ob 0 = some a := x2.le.ob _ _ ha
  have p2 := p.ext (x1.trans x2)
  refine ne_nil sr2.len l2 z2 ⟨_, rfl, ?_⟩
  cases hl : m.left with
  | nil =>
    rw [if_neg (by simp)]
    unfold drawS at p2
    rw [if_neg (by rw [hl]; simp)] at p2
    have p2 : Pst X.K X.mg (fun cls d _ H' => Ex' cls d H') [] W2 F H2 E.rt (drawR mix m n (some { m with at_ := m.at_ + 1 })) := p2
    subst hW
    exact last_read hc hn h0 h1 sr2 ha2 p2
  | cons u us =>
    rw [if_pos (by simp)]
    have hlen : 0 < m.left.length := by rw [hl]; simp
    have hi : m.at_.toNat % m.left.length < m.left.length := Nat.mod_lt _ hlen
    have em : m.at_ % ((m.left.map V.int).length : Int) = ((m.at_.toNat % m.left.length : Nat) : Int) := by rw [List.length_map]; exact mod_nat h0
    have p3 : Pst X.K X.mg (fun cls d _ H' => Ex' cls d H') [] W2 F H2 E.rt (if 0 < m.left.getD (m.at_.toNat % m.left.length) 0 then .ok (.int (m.left.getD (m.at_.toNat % m.left.length) 0 % n)) (some { m with at_ := m.at_ + 1, left := m.left.set (m.at_.toNat % m.left.length) (m.left.getD (m.at_.toNat % m.left.length) 0 / n) })
        else drawR mix m n (some { m with at_ := m.at_ + 1 })) := by
      exact p2
    -- at, cell
    refine ⟨.int m.at_, rfl, .ref a, rfl, a, .ref l, rfl, .inl ⟨_, .inr kLeft, .inl a2, rfl, val_left.symm⟩, l, _, rfl, .inl (SqL.of l2), _, _, rfl, rfl, (show (0 : Int) < _ by rw [List.length_map]; omega), ?_⟩
    show gName 3 (.int (m.at_ % ((m.left.map V.int).length : Int))) _ H2 _
    rw [em]
    refine ⟨.ref a, rfl, a, .ref l, rfl, .inl ⟨_, .inr kLeft, .inl a2, rfl, val_left.symm⟩, .int _, rfl, l, _, _, _, rfl, rfl, SqL.of l2, atI_nat (getD_get hi), ?_⟩
    refine ⟨.int _, rfl, _, 0, rfl, rfl, _, rfl, ?_⟩
    by_cases hg : 0 < m.left.getD (m.at_.toNat % m.left.length) 0
    · rw [decide_eq_true hg]
      dsimp only
      rw [if_pos rfl]
      rw [if_pos hg] at p3
      refine ⟨.int _, rfl, .int n, rfl, _, n, rfl, rfl, ⟨hn, hn2⟩, .ref a, rfl, a, .ref l, rfl, .inl ⟨_, .inr kLeft, .inl a2, rfl, val_left.symm⟩, .int _, rfl, l, _, _, _, rfl, rfl, l2, ixN_at (by rw [List.length_map]; exact hi), ?_⟩
      refine ⟨.int _, rfl, .int n, rfl, _, n, rfl, rfl, hn, ?_⟩
      have es : (m.left.map V.int).set (m.at_.toNat % m.left.length) (.int (m.left.getD (m.at_.toNat % m.left.length) 0 / n)) = (m.left.set (m.at_.toNat % m.left.length) (m.left.getD (m.at_.toNat % m.left.length) 0 / n)).map V.int := by rw [List.map_set]
      rw [es]
      refine p3 _ W2 F _ (sr2.foot1 Fl (fun xs z => ?_) ?_) (Ext.foot1 Fl ⟨_, l2⟩) (by rw [Rep])
      · rcases z with z | z
        · cases z
          have := sr2.len l _ (.inl l2)
          rw [List.length_map] at this ⊢
          rw [List.length_set]; exact this
        · cases z
      · have c2 : H2 c = some (.lst (m.cells.map V.int)) := by
          rw [← hH2, upd_ne (fun e => by subst e; rw [c1] at hz; cases hz)]; exact c1
        exact ⟨a, c, l, ha2, by rw [upd_ne (Ne.symm nla)]; exact a2, by rw [upd_ne hcl]; exact c2, upd_same, hcl, hF⟩
    · rw [decide_eq_false hg]
      dsimp only
      rw [if_neg (by decide)]
      rw [if_neg hg] at p3
      subst hW
      exact last_read hc hn h0 h1 sr2 ha2 p3
end

/-! ### the store's beginning -/
def leftOf (ns : List Int) : List Int := ns.map fun c => if 10 ^ 18 ≤ c then c else 0
def begM (fold : List D → M D) (l : List D) (st : Sto) : Res D := match l, st with
  | [.scr ns], none => (match fold [.scr ns] none with
    | .ok (.lst ds) none => (match intsD ds with
      | some cs => if ns.length ≤ 16777216 then .ok (.obj 0) (some ⟨cs, leftOf ns, 0⟩) else .stk
      | none => .stk)
    | _ => .stk)
  | _, _ => .stk
theorem begM_inv {fold : List D → M D} {l : List D} {st : Sto} (h : begM fold l st ≠ .stk) : ∃ ns ds cs, l = [.scr ns] ∧ st = none ∧ fold [.scr ns] none = .ok (.lst ds) none ∧ intsD ds = some cs ∧ ns.length ≤ 16777216 ∧ begM fold l st = .ok (.obj 0) (some ⟨cs, leftOf ns, 0⟩) := by
  unfold begM at h ⊢
  split at h
  · rename_i ns
    split at h
    · rename_i ds e
      split at h
      · rename_i cs e2
        split at h
        · rename_i hz
          exact ⟨ns, ds, cs, rfl, rfl, e, e2, hz, by simp only [e, e2, hz, if_true]⟩
        · exact absurd rfl h
      · exact absurd rfl h
    · exact absurd rfl h
  · exact absurd rfl h
def t_begun (X : Cx) (Wx : WX) (vf vl : List Nat) (mf ml : Ev → M D) : TS :=
  tSeq (tAsg (tDisp [(tC (.str kCells), tzN X.K X.mg Wx vf mf), (tC (.str kLeft), tLst tNil), (tC (.str kAt), tC (.int 0))]) (gName 1))
    (tSeq (sDPut (tVar 1) (tC (.str kLeft)) (tzN X.K X.mg Wx vl ml)) (tRet (tVar 1)))
section
variable {X : Cx} {Wx : WX} {fold : List D → M D} {W : Wd} {F : Addr → Prop} {H : Hp} {vsc : V} {E : Ends} {vf vl : List Nat} {mf ml : Ev → M D} {ns : List Int} {cs : List Int} {ds : List D}
theorem intsD_map : ∀ l : List Int, intsD (l.map D.int) = some l
  | [] => rfl
  | n :: l => by rw [List.map_cons, intsD, intsD_map l]; rfl
theorem tzN_new {σ : L2.St} {r : Ev} {st st' : Sto} {d : D} {Q : VK} {ma : Ev → M D} {va : List Nat} (sr : SR W F H st) (re : RelE X.K W va σ r) (e : ma r st = .ok d st') (hm : isMut d = true)
    (k : ∀ p W' F' H', SR W' F' H' st' → Ext W F H W' F' H' → RepO X.K W' F' H' H d p → Q (.ref p) H') : tzN X.K X.mg Wx va ma σ H Q := by
  refine ⟨W, F, st, r, sr, re, ?_⟩
  rw [e]
  intro v W' F' H' s x rn
  unfold RepN at rn
  rw [if_pos hm] at rn
  obtain ⟨p, rfl, ro⟩ := rn
  exact k p W' F' H' s x ro
theorem RepO.keepO {K : PySem.W.Frag} {W W1 : Wd} {F F1 : Addr → Prop} {H H0 H1 : Hp} {d : D} {p : Addr} (h : RepO K W F H H0 d p) (x : Ext W F H W1 F1 H1) : RepO K W1 F1 H1 H0 d p := h.ext x
theorem beg_read (hvf : ∀ i ∈ vf, i = 0 ∨ i = 2) (hvl : ∀ i ∈ vl, i = 0 ∨ i = 2) (sr : SR W F H none) (rs : Rep X.K W (.scr ns) vsc) (hz : ns.length ≤ 16777216)
    (hf : mf [some (.scr ns), none, none] none = .ok (.lst ds) none) (hi : intsD ds = some cs) (hl : ml [some (.scr ns), none, none] none = .ok (.lst ((leftOf ns).map D.int)) none)
    (p : ∀ a W' F' H', SR W' F' H' (some ⟨cs, leftOf ns, 0⟩) → Ext W F H W' F' H' → W'.ob 0 = some a → E.rt (.ref a) H') :
    t_begun X Wx vf vl mf ml E [some vsc, none, none] H := by
  have rel : ∀ {W' : Wd} {vs : List Nat} {σ : L2.St}, (∀ i ∈ vs, i = 0 ∨ i = 2) → W.Le W' → σ[0]? = some (some vsc) → RelE X.K W' vs σ [some (.scr ns), none, none] := fun {W' vs σ} hv l e i hi d g => by
    rcases hv i hi with rfl | rfl
    · cases g
      exact ⟨vsc, e, rs.mono l⟩
    · cases g
  have nF : ∀ q, ¬ F q := sr.sto.2
  have nob : ∀ k, W.ob k = none := sr.sto.1
  intro a ha
  have fa := sr.nohf ha
  have sr0 : SR W F (upd H a (.dK [])) none := sr.write fa (nF a) (fun zs z => by rcases z with z | z <;> cases z)
  have x0 : Ext W F H W F (upd H a (.dK [])) := Ext.refl.write ha
  refine tzN_new sr0 (rel hvf .refl rfl) hf rfl fun c W1 F1 H1 sr1 x1 rc => ?_
  obtain ⟨cv, hc1, rcv⟩ := rc.lst
  have ecv := rcv.ints hi
  subst ecv
  have a1 : H1 a = some (.dK []) := x1.keep a _ upd_same (nF a)
  have fa1 : W1.hf a = none := by
    cases q : W1.hf a with
    | none => rfl
    | some o =>
      rcases x1.fz a o q with z | z
      · rw [fa] at z; cases z
      · rw [upd_same] at z; cases z
  have nF1 : ∀ q, ¬ F1 q := sr1.sto.2
  refine ⟨Nat.zero_le _, fun l hl1 => ?_⟩
  have fl1 := sr1.nohf hl1
  have hol : ∀ xs : List V, (HO.lst [] = .lst xs ∨ HO.lst [] = .tup xs) → xs.length ≤ sizeLine := fun xs z => by
    rcases z with z | z
    · cases z; exact Nat.zero_le _
    · cases z
  have sr2 : SR W1 F1 (upd H1 l (.lst [])) none := sr1.write fl1 (nF1 l) hol
  have x2 : Ext W F H W1 F1 (upd H1 l (.lst [])) := (x0.trans x1).write (x0.there l (x1.there l hl1))
  have nal : a ≠ l := fun e => by subst e; rw [a1] at hl1; cases hl1
  have ncl : c ≠ l := fun e => by subst e; rw [hc1] at hl1; cases hl1
  have nac : a ≠ c := fun e => by subst e; rw [a1] at hc1; cases hc1
  refine ⟨by rw [upd_ne nal]; exact a1, [(.inr kCells, .ref c), (.inr kLeft, .ref l), (.inr kAt, .int 0)], rfl, (show 3 ≤ 15 by decide), ?_⟩
  rw [mergeK_new [((.inr kCells : Key), V.ref c), (.inr kLeft, .ref l), (.inr kAt, .int 0)] [] (show ([.inr kCells, .inr kLeft, .inr kAt] : List Key).Nodup by decide), List.nil_append]
  generalize hH3 : upd (upd H1 l (.lst [])) a (.dK [((.inr kCells : Key), V.ref c), (.inr kLeft, .ref l), (.inr kAt, .int 0)]) = H3
  have sr3 : SR W1 F1 H3 none := by rw [← hH3]; exact sr2.write fa1 (nF1 a) (fun zs z => by rcases z with z | z <;> cases z)
  have x3 : Ext W F H W1 F1 H3 := by rw [← hH3]; exact x2.write ha
  have a3 : H3 a = some (.dK [((.inr kCells : Key), V.ref c), (.inr kLeft, .ref l), (.inr kAt, .int 0)]) := by rw [← hH3, upd_same]
  have c3 : H3 c = some (.lst (cs.map V.int)) := by rw [← hH3, upd_ne (Ne.symm nac), upd_ne ncl]; exact hc1
  refine tzN_new sr3 (rel hvl x1.le rfl) hl rfl fun q W4 F4 H4 sr4 x4 rq => ?_
  obtain ⟨qv, hq4, rqv⟩ := rq.lst
  have eqv := rqv.ints (intsD_map (leftOf ns))
  subst eqv
  have a4 := x4.keep a _ a3 (nF1 a)
  have c4 := x4.keep c _ c3 (nF1 c)
  have naq : a ≠ q := fun e => by subst e; rw [rq.1] at a3; cases a3
  have ncq : c ≠ q := fun e => by subst e; rw [rq.1] at c3; cases c3
  have f4 : ∀ {z : Addr}, (∃ y, H3 z = some y) → W1.hf z = none → W4.hf z = none := fun {z} ⟨y, hy⟩ h => by
    cases u : W4.hf z with
    | none => rfl
    | some o =>
      rcases x4.fz z o u with k | k
      · rw [h] at k; cases k
      · rw [hy] at k; cases k
  refine ⟨.ref a, rfl, a, _, rfl, .inl ⟨_, .inr kLeft, a4, rfl, (show 3 < sizeLine by decide), rfl⟩, ?_⟩
  rw [put_left]
  refine ⟨.ref a, rfl, p a ⟨fun k => if k = 0 then some a else none, W4.hf⟩ (fun z => z = a ∨ z = c ∨ z = q) _ ⟨fun z o h => ?_, fun z hz' => ?_, ?_, ?_⟩ ⟨⟨fun k z h => ?_, x1.le.hf.trans x4.le.hf⟩, fun z o h _ => ?_, fun z h => ?_, fun z h => (nF z h).elim, fun z h => ?_, fun z o h => ?_⟩ rfl⟩
  · have fa4 := f4 ⟨_, a3⟩ fa1
    rw [upd_ne (fun e => by subst e; have h : W4.hf z = some o := h; rw [fa4] at h; cases h)]
    exact sr4.sub z o h
  · rcases hz' with rfl | rfl | rfl
    · exact f4 ⟨_, a3⟩ fa1
    · exact f4 ⟨_, c3⟩ rc.2.1
    · exact rq.2.1
  · exact sr4.len.upd (fun zs z => by rcases z with z | z <;> cases z)
  · exact ⟨a, c, q, rfl, upd_same, by rw [upd_ne (Ne.symm nac)]; exact c4, by rw [upd_ne (Ne.symm naq)]; exact hq4, ncq, fun z => Iff.rfl⟩
  · rw [nob] at h; cases h
  · have h3 := x3.keep z o h (nF z)
    rw [upd_ne (fun e => by subst e; rw [ha] at h; cases h)]
    exact x4.keep z o h3 (nF1 z)
  · by_cases e : z = a
    · subst e; exact ha
    · rw [upd_ne e] at h; exact x3.there z (x4.there z h)
  · rcases h with rfl | rfl | rfl
    · exact .inr ha
    · exact .inr (x0.there _ rc.1)
    · exact .inr (x3.there _ rq.1)
  · rcases x4.fz z o h with k | k
    · exact x3.fz z o k
    · exact .inr (x3.there z k)
end
end Z
set_option Elab.async false
set_option linter.all false
set_option maxRecDepth 100000
set_option maxHeartbeats 4000000
namespace Z
open PySem PySem.Spec PyProof.Rows L2 TL

section
variable {P : Program} {w : World} {K : PySem.W.Frag} {mg : Str → Option Value} {base : Heap} {x qual : Str} {f : Addr} {fd : FuncData} {N ps : List Str} {params : Arguments} {bdy : List Stmt} {sc : Scope} {kk : Nat}
abbrev cxZ (P : Program) (w : World) (K : PySem.W.Frag) (mg : Str → Option Value) (base : Heap) (N : List Str) (qual : Str) (sc : Scope) (f : Addr) (cdv : Value) (A : Around) (outer : List Env) (s : Shared) (H : Hp) (E : XK) : Cx := cxOf (L2.CX P w) P w K mg base N qual sc f cdv A outer s H E
abbrev wxZ (E : XK) : WX := fun cls d _ H' => E cls d H'
theorem fs_mk (S : FnScope N ps sc) {cdv : Value} {A : Around} {outer : List Env} {s : Shared} {H : Hp} {E : XK} {k : Cc} (hk : k.N = N) : Fs (cxZ P w K mg base N qual sc f cdv A outer s H E) k sc (wxZ E) := by
  subst hk
  exact ⟨⟨rfl, S.nd, rfl, rfl, takes_of rfl rfl rfl rfl⟩, passes_of rfl, by show Env.blockKind _ = _; unfold Env.blockKind; rw [show (cxZ P w K mg base k.N qual sc f cdv A outer s H E).env.scope.kind = .function from S.kind]; rfl, fun _ => rfl, rfl, rfl, rfl⟩
theorem start5 {N : List Str} {a b : V} (h : N.length = 5) : L2.start N [a, b] = [some a, some b, none, none, none] := by
  unfold L2.start
  rw [h]; rfl
theorem start3 {N : List Str} {a : V} (h : N.length = 3) : L2.start N [a] = [some a, none, none] := by
  unfold L2.start
  rw [h]; rfl
/-- a draw -/
theorem fnZ_draw {mix : List D → M D} (F : FunD K x qual params bdy sc [] [] f fd) (S : FnScope N ps sc) (hN : N.length = 5) (hp : ps.length = 2) (hb : Binds K fd ps []) (hm : mg x = some (.ref f))
    (hbody : ∀ (cdv : Value) (A : Around) (outer : List Env) (s : Shared) (H : Hp) (E : XK), Rg kk (A.deeper (envOfC qual sc s.heap.objs.size f cdv)) → Takes (cxZ P w K mg base N qual sc f cdv A outer s H E) (wxZ E) → PSs (cxZ P w K mg base N qual sc f cdv A outer s H E) bdy (t_draw (cxZ P w K mg base N qual sc f cdv A outer s H E) (wxZ E) mix)) :
    FnZ P w K mg base (kk + 1) (drawM mix) x := by
  refine ⟨f, fd, ps, hm, F.kp, hb, fn_g F S (fun vs H Q E h => h.1) (fun cdv A outer s H vs Q E hr h => ?_), fun ds st hl => ?_⟩
  · obtain ⟨hl, ds, W, F0, st, sr, rv, p⟩ := h
    refine ⟨_, hbody cdv A outer s H E hr (takes_of rfl rfl rfl rfl), ?_⟩
    obtain ⟨n, m, rfl, rfl, ok, e⟩ := drawM_inv (mix := mix) (ds := ds) (st := st) (fun e => by rw [e] at p; exact p)
    rw [e] at p
    obtain ⟨v1, v2, rfl, r1, r2⟩ := rv.two
    rw [Rep] at r1
    rw [Rep] at r2
    obtain ⟨a, rfl, ha⟩ := r1
    subst r2
    rw [start5 hN]
    exact draw_read (X := cxZ P w K mg base N qual sc f cdv A outer s H E) rfl sr ha ok p rfl
  · rw [hp] at hl
    exact Classical.byContradiction fun h => by
      obtain ⟨n, m, e, _⟩ := drawM_inv h
      subst e
      exact hl rfl
/-- the store's beginning, its two values in the mini language -/
def begP (k : Cc) (sc : Scope) : List Stmt → Option (E × E)
  | [.Assign [.Name y _] (.Dict [some (.Constant (.str c1) _ _), some (.Constant (.str c2) _ _), some (.Constant (.str c3) _ _)] [e1, .List [] _, .Constant (.int 0) _ _] _) _, .Assign [.Subscript (.Name y2 _) (.Constant (.str c4) _ _) _] e2 _, .Return (some (.Name y3 _)) _] =>
    if c1 = kCells && c2 = kLeft && c3 = kAt && c4 = kLeft && y = y2 && y = y3 && okName y && locB sc y && decide (idx y k.N = some 1) && freshB k e1 && freshB k e2 then (comp k 40 sc e1).bind fun m1 => (comp k 40 sc e2).map fun m2 => (m1, m2) else none
  | _ => none
theorem lcL_map {f : D → M (Option D)} {h : D → D} : ∀ {ds : List D}, (∀ d ∈ ds, f d = ret (some (h d))) → lcL f ds = ret (ds.map h)
  | [], _ => rfl
  | d :: ds, hf => by
    rw [lcL_cons, hf d (List.mem_cons_self ..), ret_bnd, lcL_map fun e he => hf e (List.mem_cons_of_mem _ he)]; rfl
theorem swaps_sub {o i : Expr} {p : Pos} {l : Nat} {env : Env} (e : Expr) : swapsWith e (some (.Subscript o i p)) l env = pure false := by cases e <;> rfl
def begE (g : Str) : E × E := (.call g [.v 0], .lc (.nm 2) [2] (.v 0) (.c (.bl true)) (.ite (.cmp .ge (.v 2) (.bin .pow (.c (.int 10)) (.c (.int 18)))) (.v 2) (.c (.int 0))))
theorem beg_left {c : Cal} {ns : List Int} {st : Sto} {g : Str} : ev c (begE g).2 [some (.scr ns), none, none] st = .ok (.lst ((leftOf ns).map D.int)) st := by
  have key : lcL (fun d => match asg (.nm 2) d (wipeE [some (.scr ns), none, none] [2]) with
      | none => stk
      | some r' => bnd (nox (ev c (.c (.bl true)) r')) fun b => match b with
        | .bl true => bnd (nox (ev c (.ite (.cmp .ge (.v 2) (.bin .pow (.c (.int 10)) (.c (.int 18)))) (.v 2) (.c (.int 0))) r')) fun y => ret (some y)
        | .bl false => ret none
        | _ => stk) (ns.map D.int) = ret ((ns.map D.int).map fun d => match d with | .int i => .int (if 10 ^ 18 ≤ i then i else 0) | d => d) := by
    refine lcL_map fun d hd => ?_
    obtain ⟨i, _, rfl⟩ := List.mem_map.mp hd
    by_cases hi : (10 : Int) ^ 18 ≤ i
    · have hi : (1000000000000000000 : Int) ≤ i := hi
      have h2 : decide ((1000000000000000000 : Int) ≤ i) = true := decide_eq_true hi
      funext s
      show (bnd (nox (ev c (.ite (.cmp .ge (.v 2) (.bin .pow (.c (.int 10)) (.c (.int 18)))) (.v 2) (.c (.int 0))) [some (.scr ns), none, some (.int i)])) fun y => ret (some y)) s = ret (some (.int (if (10 : Int) ^ 18 ≤ i then i else 0))) s
      simp only [ev, getS, bnd, nox, ret, ofO, binD, cmpM, cmpD]
      simp [ret]
      rw [h2]
      simp [ret, hi]
    · have hi : ¬ (1000000000000000000 : Int) ≤ i := hi
      have h2 : decide ((1000000000000000000 : Int) ≤ i) = false := decide_eq_false hi
      funext s
      show (bnd (nox (ev c (.ite (.cmp .ge (.v 2) (.bin .pow (.c (.int 10)) (.c (.int 18)))) (.v 2) (.c (.int 0))) [some (.scr ns), none, some (.int i)])) fun y => ret (some y)) s = ret (some (.int (if (10 : Int) ^ 18 ≤ i then i else 0))) s
      simp only [ev, getS, bnd, nox, ret, ofO, binD, cmpM, cmpD]
      simp [ret]
      rw [h2]
      simp [ret, hi]
  have e : ev c (begE g).2 [some (.scr ns), none, none] = bnd (lcL (fun d => match asg (.nm 2) d (wipeE [some (.scr ns), none, none] [2]) with
      | none => stk
      | some r' => bnd (nox (ev c (.c (.bl true)) r')) fun b => match b with
        | .bl true => bnd (nox (ev c (.ite (.cmp .ge (.v 2) (.bin .pow (.c (.int 10)) (.c (.int 18)))) (.v 2) (.c (.int 0))) r')) fun y => ret (some y)
        | .bl false => ret none
        | _ => stk) (ns.map D.int)) fun ys => ret (.lst ys) := by
    unfold begE
    rw [ev, ev]
    rfl
  rw [e, key]
  show Res.ok (D.lst _) st = _
  congr 2
  rw [List.map_map, leftOf, List.map_map]
  rfl
theorem locB_ok {sc : Scope} {x : Str} (h : locB sc x = true) : Loc sc x := by
  unfold locB locL at h
  rw [Bool.or_eq_true] at h
  exact h.imp of_decide_eq_true of_decide_eq_true
theorem locB_vis {sc : Scope} {x : Str} (h : locB sc x = true) : Vis sc x := (locB_ok h).elim .inl fun z => .inr (.inl z)
/-- the store's beginning -/
theorem fnZ_begun {g : Str} {k : Cc} {c : Cal} (F : FunD K x qual params bdy sc [] [] f fd) (S : FnScope N ps sc) (hN : N.length = 3) (hp : ps.length = 1) (hk : k.N = N) (hc : begP k sc bdy = some (begE g)) (hb : Binds K fd ps []) (hm : mg x = some (.ref f))
    (G : ∀ A, Rg kk A → Gb P w K mg base A kk c k) : FnZ P w K mg base (kk + 1) (begM (c g)) x := by
  subst hk
  refine ⟨f, fd, ps, hm, F.kp, hb, fn_g F S (fun vs H Q E h => h.1) (fun cdv A outer s H vs Q E hr h => ?_), fun ds st hl => ?_⟩
  · obtain ⟨hl, ds, W, F0, st, sr, rv, p⟩ := h
    obtain ⟨ns, dl, cs, rfl, rfl, e1, e2, hz, e3⟩ := begM_inv (fold := c g) (l := ds) (st := st) (fun e => by rw [e] at p; exact p)
    rw [e3] at p
    obtain ⟨v, rfl, r⟩ := rv.one
    have fs := fs_mk (P := P) (w := w) (K := K) (mg := mg) (base := base) (qual := qual) (f := f) (k := k) (cdv := cdv) (A := A) (outer := outer) (s := s) (H := H) (E := E) S rfl
    have gb := G _ hr
    unfold begP at hc
    split at hc
    · split at hc
      · rename_i hcc
        simp only [Bool.and_eq_true, decide_eq_true_eq] at hcc
        obtain ⟨⟨⟨⟨⟨⟨⟨⟨⟨⟨q1, q2⟩, q3⟩, q4⟩, q5⟩, q6⟩, ho⟩, hl'⟩, hi⟩, f1⟩, f2⟩ := hcc
        subst q1 q2 q3 q4 q5 q6
        simp only [Option.bind_eq_some_iff, Option.map_eq_some_iff] at hc
        obtain ⟨m1, hm1, m2, hm2, hmm⟩ := hc
        have b1 := fresh_ok (Wx := wxZ E) gb fs.fz f1 hm1
        have b2 := fresh_ok (Wx := wxZ E) gb fs.fz f2 hm2
        have ee1 : m1 = (begE g).1 := congrArg Prod.fst hmm
        have ee2 : m2 = (begE g).2 := congrArg Prod.snd hmm
        subst ee1 ee2
        unfold okName at ho
        simp only [Bool.and_eq_true, Bool.not_eq_true'] at ho
        have hx := idx_ok hi
        have hloc := locB_ok hl'
        have hvis := locB_vis hl'
        have hu : (cxZ P w K mg base k.N qual sc f cdv A outer s H E).A.units + 1 < cLine := hu_of hr.room
        refine ⟨t_begun _ (wxZ E) (vars (begE g).1) (vars (begE g).2) (ev c (begE g).1) (ev c (begE g).2), pss_cons (ps_set S.nd hx hloc (pe_disp (pps_cons pe_str b1 (pps_cons pe_str (pe_lst pa_nil) (pps_cons pe_str pe_int pps_nil))) rfl rfl (by simp) (show 3 ≤ 15 by decide)) rfl (.inl rfl))
          (pss_cons (ps_dput hu (pe_var hx hvis ho.1.1 ho.1.2) pe_str b2 (swaps_sub _)) (pss_one (ps_ret (pe_var hx hvis ho.1.1 ho.1.2)))), ?_⟩
        rw [start3 hN]
        refine beg_read (ds := dl) (cs := cs) (by simp [begE, vars, varss]) (by simp [begE, vars, varss]) sr r hz ?_ e2 beg_left fun a W' F' H' s' x' ha => p _ W' F' H' s' x' (by rw [Rep]; exact ⟨a, rfl, ha⟩)
        show ev c (.call g [.v 0]) _ none = _
        rw [ev, evs, evs, ev]
        exact e1
      · cases hc
    · cases hc
  · rw [hp] at hl
    exact Classical.byContradiction fun h => by
      obtain ⟨ns, _, _, e, _⟩ := begM_inv h
      subst e
      exact hl rfl
end

/-! ### the head -/
theorem walkZ {l : PySem.W.OpenLaw} {n k : Nat} {q : Program} {loose : List Str} {XP : (Str → Option Value) → Heap → Prop} {YP : World → Heap → Prop} {d : DefRec} {x : Str} {g : List D → M D}
    (hn : l.most = some n) (hn2 : n ≤ sizeLine) (hdf : d.params.defaults = []) (hr : Rg k callerA) (law : ∀ ns : List Int, ns.length ≤ n → ∃ st, g [.scr ns] none = .ok (.bl true) st)
    (D : ∀ (w : World) (mg : Str → Option Value) (fa : Addr) (h : Heap), YP w h → h.Ns mainGlobals mg → mg d.name = some (.ref fa) → ∃ (K : PySem.W.Frag) (fd : FuncData), K.In h ∧ (∀ (s : Shared) (u : Value), BindsTo s fd ⟨[u], []⟩ [(x, u)]) ∧
      ∀ base : Heap, K.In base → base.Ns mainGlobals mg → FnG l.prog w K mg base (L2.CX l.prog w) k fa fd [x] (spZ K mg g 1)) :
    PySem.W.WalkO q loose XP YP l.row.toRowW d [] (fun f vs => PySem.call f vs) := by
  refine Att.attach_call hn hdf fun w' t₀ t₁ mg mb fa ob pm' cd' doc' a us ns G Y _ _ _ mgl obj jn len gens => ?_
  obtain ⟨K, fd, KX, bi, ok⟩ := D w' mg fa _ Y G.T.g mgl
  refine law_g KX G.T.g G.T.b G.T.builtins G.T.nolimit gens obj jn (Nat.le_trans len hn2) hr ok bi (fun H hO hS => ?_) (fun H e s' h => ?_)
  · obtain ⟨st, e⟩ := law ns len
    refine ⟨rfl, [.scr ns], ⟨fun _ => none, H⟩, fun _ => False, none, ⟨Same.refl _, fun _ z => z.elim, fun b xs z => ?_, fun _ => rfl, fun _ z => z⟩, ?_, ?_⟩
    · rcases hO b with h0 | ⟨o, ys, h0⟩
      · rw [h0] at z; rcases z with z | z <;> cases z
      · rw [h0] at z; rcases z with z | z <;> cases z
    · rw [Reps]
      exact ⟨_, [], rfl, by rw [Rep]; exact ⟨a, rfl, hS⟩, by rw [Reps]⟩
    · rw [e]
      intro v W' F' H' _ _ rv
      rw [Rep] at rv; exact rv
  · obtain ⟨_, _, _, _, _, _, _, _, _, _, _, _, _, z⟩ := h
/-- a module's constant -/
def dvB : D → He.Dv → Bool
  | .non, .non => true
  | .bl a, .bl b => a == b
  | .int a, .int b => decide (a = b)
  | .str a, .str b => decide (a = b) && PyData.strOk a && decide (a.length ≤ sizeLine)
  | _, _ => false
def dvsB : List D → List He.Dv → Bool
  | [], [] => true
  | d :: ds, v :: vs => dvB d v && dvsB ds vs
  | _, _ => false
theorem dvB_ok {K : PySem.W.Frag} {W : Wd} {d : D} {v : He.Dv} (h : dvB d v = true) : Rep K W d (v.v K) := by
  unfold dvB at h
  split at h <;> first | (cases h; done) | skip
  · rw [Rep]; rfl
  · rw [Rep, eq_of_beq h]; rfl
  · rw [Rep, of_decide_eq_true h]; rfl
  · simp only [Bool.and_eq_true, decide_eq_true_eq] at h
    rw [Rep, ← h.1.1]; exact ⟨rfl, h.1.2, h.2⟩
theorem dvsB_ok {K : PySem.W.Frag} {W : Wd} : ∀ {ds : List D} {vs : List He.Dv}, dvsB ds vs = true → Reps K W ds (vs.map (He.Dv.v K))
  | [], [], _ => by rw [Reps]; rfl
  | [], _ :: _, h => by cases h
  | _ :: _, [], h => by cases h
  | d :: ds, v :: vs, h => by
    rw [dvsB, Bool.and_eq_true] at h
    rw [Reps, List.map_cons]
    exact ⟨_, _, rfl, dvB_ok h.1, dvsB_ok h.2⟩
section
variable {K : PySem.W.Frag} {h : Heap} {mg : Str → Option Value}
theorem gl_str (X : K.In h) (G : h.Ns mainGlobals mg) {x z : Str} (c : (He.Fa.str x z).ok K = true) (hz : sOk z) : ∃ u v, mg x = some u ∧ RelV v u ∧ ∀ W, Rep K W (.str z) v := by
  obtain ⟨t, e⟩ := He.str_ok X G c
  exact ⟨_, .str z, e, ⟨t, rfl⟩, fun W => by rw [Rep]; exact ⟨rfl, hz⟩⟩
theorem gl_int (X : K.In h) (G : h.Ns mainGlobals mg) {x : Str} {i : Int} (c : (He.Fa.int x i).ok K = true) : ∃ u v, mg x = some u ∧ RelV v u ∧ ∀ W, Rep K W (.int i) v := by
  obtain ⟨t, e⟩ := He.int_ok X G c
  exact ⟨_, .int i, e, ⟨t, rfl⟩, fun W => by rw [Rep]⟩
theorem gl_tup (X : K.In h) (G : h.Ns mainGlobals mg) {x : Str} {ds : List D} {vs : List He.Dv} (c : (He.Fa.glo x).ok K = true) (b : He.tupB K x vs = true) (hd : dvsB ds vs = true) : ∃ u v, mg x = some u ∧ RelV v u ∧ ∀ W, Rep K W (.tup ds) v :=
  ⟨_, .ref (He.ga K x), He.glo_ok X G c, rfl, fun W => by rw [Rep]; exact ⟨_, _, rfl, He.tupB_ok b W.hf, dvsB_ok hd⟩⟩
end
end Z
set_option Elab.async false
set_option linter.all false
set_option maxRecDepth 100000
set_option maxHeartbeats 2000000
namespace Z
open PySem PySem.Spec PyProof.Rows L2 TL

/-! ### triples over the evaluator -/
def St (k : Int) (st : Sto) : Prop := ∃ m, st = some m ∧ m.cells.length = 64 ∧ 0 ≤ m.at_ ∧ m.at_ ≤ k
theorem St.mono {k k' : Int} {st : Sto} (h : St k st) (l : k ≤ k') : St k' st := by
  obtain ⟨m, a, b, c, d⟩ := h
  exact ⟨m, a, b, c, Int.le_trans d l⟩
/-- at most c draws, then P -/
def Tr {α : Type} (c : Nat) (m : M α) (P : α → Prop) : Prop := ∀ (k : Int) (st : Sto), k + c ≤ 900000000 → St k st → ∃ a st', m st = .ok a st' ∧ St (k + c) st' ∧ P a
section
variable {α β : Type} {c d : Nat} {m : M α} {f : α → M β} {P : α → Prop} {Q : β → Prop}
theorem tr_ret {a : α} (h : P a) : Tr 0 (ret a) P := fun k st _ s => ⟨a, st, rfl, s.mono (by omega), h⟩
theorem tr_bnd (h : Tr c m P) (g : ∀ a, P a → Tr d (f a) Q) : Tr (c + d) (bnd m f) Q := fun k st hk s => by
  obtain ⟨a, st1, e1, s1, p⟩ := h k st (by omega) s
  obtain ⟨b, st2, e2, s2, q⟩ := g a p (k + c) st1 (by omega) s1
  refine ⟨b, st2, ?_, s2.mono (by omega), q⟩
  unfold Z.bnd
  rw [e1]; exact e2
theorem Tr.le (h : Tr c m P) (l : c ≤ d) : Tr d m P := fun k st hk s => by
  obtain ⟨a, st1, e1, s1, p⟩ := h k st (by omega) s
  exact ⟨a, st1, e1, s1.mono (by omega), p⟩
theorem Tr.imp {P' : α → Prop} (h : Tr c m P) (i : ∀ a, P a → P' a) : Tr c m P' := fun k st hk s => by
  obtain ⟨a, st1, e1, s1, p⟩ := h k st hk s
  exact ⟨a, st1, e1, s1, i a p⟩
theorem tr_nox (h : Tr c m P) : Tr c (nox m) P := fun k st hk s => by
  obtain ⟨a, st1, e1, s1, p⟩ := h k st hk s
  exact ⟨a, st1, by unfold Z.nox; rw [e1], s1, p⟩
theorem tr_evS {vs : List Nat} {me : Ev → M D} {r : Ev} {o : List Nat} {g : D → List Nat → M Fl} {P : D → Prop} {Q : Fl → Prop} (h : Tr c (me r) P) (t : ∀ a, P a → Tr d (g a (flp o vs a)) Q) : Tr (c + d) (evS vs me r o g) Q := fun k st hk s => by
  obtain ⟨a, st1, e1, s1, p⟩ := h k st (by omega) s
  obtain ⟨b, st2, e2, s2, q⟩ := t a p (k + c) st1 (by omega) s1
  refine ⟨b, st2, ?_, s2.mono (by omega), q⟩
  unfold Z.evS
  rw [e1]; exact e2
theorem tr_evR {vs : List Nat} {me : Ev → M D} {r : Ev} {o : List Nat} {g : D → List Nat → M Fl} {P : D → Prop} {Q : Fl → Prop} (h : Tr c (me r) P) (t : ∀ a, P a → Tr d (g a o) Q) : Tr (c + d) (evR vs me r o g) Q := fun k st hk s => by
  obtain ⟨a, st1, e1, s1, p⟩ := h k st (by omega) s
  obtain ⟨b, st2, e2, s2, q⟩ := t a p (k + c) st1 (by omega) s1
  refine ⟨b, st2, ?_, s2.mono (by omega), q⟩
  unfold Z.evR
  rw [e1]; exact e2
theorem tr_evF {vs : List Nat} {me : Ev → M D} {r : Ev} {o : List Nat} {g : D → List Nat → M Fl} {P : D → Prop} {Q : Fl → Prop} (h : Tr c (me r) P) (t : ∀ a, P a → Tr d (g a (offs o vs)) Q) : Tr (c + d) (evF vs me r o g) Q := fun k st hk s => by
  obtain ⟨a, st1, e1, s1, p⟩ := h k st (by omega) s
  obtain ⟨b, st2, e2, s2, q⟩ := t a p (k + c) st1 (by omega) s1
  refine ⟨b, st2, ?_, s2.mono (by omega), q⟩
  unfold Z.evF
  rw [e1]; exact e2
/-- a comprehension's items, one by one -/
theorem tr_lcL {g : D → M (Option D)} {P : Option D → Prop} : ∀ {ds : List D}, (∀ d ∈ ds, Tr c (g d) P) → Tr (c * ds.length) (lcL g ds) (fun ys => ys.length ≤ ds.length ∧ ∀ y ∈ ys, P (some y))
  | [], _ => tr_ret ⟨Nat.le_refl _, fun y hy => by cases hy⟩
  | d :: ds, h => by
    rw [lcL_cons]
    have h1 := h d (List.mem_cons_self ..)
    have h2 := tr_lcL (ds := ds) fun e he => h e (List.mem_cons_of_mem _ he)
    have := tr_bnd h1 fun o po => tr_bnd h2 (f := fun r => ret (match o with | some y => y :: r | none => r)) (Q := fun ys => ys.length ≤ (d :: ds).length ∧ ∀ y ∈ ys, P (some y)) fun r pr => tr_ret (by
      cases o with
      | none => exact ⟨Nat.le_succ_of_le pr.1, pr.2⟩
      | some y => exact ⟨Nat.succ_le_succ pr.1, fun z hz => by
          rcases List.mem_cons.mp hz with e | e
          · rw [e]; exact po
          · exact pr.2 z e⟩)
    exact this.le (by rw [List.length_cons, Nat.mul_add]; omega)
/-- a loop: one turn keeps what stands -/
theorem tr_forL {g : D → Ev → List Nat → M Fl} {I : Ev → List Nat → Prop} : ∀ {ds : List D} {r : Ev} {o : List Nat}, (∀ d ∈ ds, ∀ r o, I r o → Tr c (g d r o) (fun f => ∃ r' o', f = .nxt r' o' ∧ I r' o')) → I r o → Tr (c * ds.length) (forL g ds r o) (fun f => ∃ r' o', f = .nxt r' o' ∧ I r' o')
  | [], r, o, _, i => tr_ret ⟨r, o, rfl, i⟩
  | d :: ds, r, o, h, i => by
    rw [forL_cons]
    refine (tr_bnd (h d (List.mem_cons_self ..) r o i) (d := c * ds.length) fun f ⟨r', o', e, i'⟩ => ?_).le (by rw [List.length_cons, Nat.mul_add]; omega)
    subst e
    exact tr_forL (fun e he => h e (List.mem_cons_of_mem _ he)) i'
end
theorem bnd_ofO {α β : Type} (a : α) (f : α → M β) : bnd (ofO (some a)) f = f a := rfl
theorem evS_ret {vs : List Nat} {me : Ev → M D} {r : Ev} {o : List Nat} {g : D → List Nat → M Fl} {d : D} (h : me r = ret d) : evS vs me r o g = g d (flp o vs d) := by
  funext st
  unfold evS
  rw [h]; rfl
theorem Tr.of {α : Type} {m m' : M α} {c : Nat} {P : α → Prop} (e : m = m') (h : Tr c m' P) : Tr c m P := e ▸ h
/-- one draw -/
theorem tr_draw {mix : List D → M D} (hm : ∀ c k : Int, 0 ≤ k → k ≤ 1000000000 → ∃ z : Int, mix [.int c, .int k] = ret (.int z)) {n : Int} (h0 : 0 < n) (h1 : n < 1073741824) : Tr 1 (drawM mix [.obj 0, .int n]) (fun d => ∃ i : Int, d = .int i ∧ 0 ≤ i ∧ i < n) := fun k st hk s => by
  obtain ⟨m, rfl, hc, ha, hb⟩ := s
  have ok : drawOk m n = true := by
    unfold drawOk
    simp only [Bool.and_eq_true, decide_eq_true_eq]
    exact ⟨⟨⟨⟨hc, h0⟩, h1⟩, ha⟩, by omega⟩
  have e : drawM mix [.obj 0, .int n] (some m) = drawS mix m n (some m) := by
    show (if drawOk m n then drawS mix m n (some m) else Res.stk) = _
    rw [if_pos ok]
  rw [e]
  unfold drawS
  split
  · exact ⟨_, _, rfl, ⟨_, rfl, hc, by show 0 ≤ m.at_ + 1; omega, by show m.at_ + 1 ≤ k + 1; omega⟩, _, rfl, Int.emod_nonneg _ (by omega), Int.emod_lt_of_pos _ h0⟩
  · unfold drawR
    obtain ⟨z1, e1⟩ := hm (m.cells.getD (m.at_.toNat % 64) 0 + 31 * (m.at_ / 64)) m.at_ ha (by omega)
    obtain ⟨z2, e2⟩ := hm z1 (m.at_ + 7) (by omega) (by omega)
    rw [e1, ret_bnd, e2, ret_bnd]
    exact ⟨_, _, rfl, ⟨_, rfl, hc, by show 0 ≤ m.at_ + 1; omega, by show m.at_ + 1 ≤ k + 1; omega⟩, _, rfl, Int.emod_nonneg _ (by omega), Int.emod_lt_of_pos _ h0⟩
end Z
set_option Elab.async false
set_option linter.all false
set_option maxRecDepth 100000
set_option maxHeartbeats 2000000
namespace Z
open PySem PySem.Spec PyProof.Rows L2 TL

theorem len_app (x y : Str) : (x ++ y).length = x.length + y.length := by
  show (x.cps ++ y.cps).size = x.cps.size + y.cps.size
  exact Array.size_append
theorem one_len (c : Nat) : (⟨#[c]⟩ : Str).length = 1 := rfl
theorem size_line : sizeLine = 16777216 := rfl
/-! ### evaluation by rewriting -/
def ifD {α : Type} (x : D) (a b : M α) : M α := match x with
  | .bl true => a
  | .bl false => b
  | _ => stk
def notD (x : D) : M D := match x with | .bl b => ret (.bl (!b)) | _ => stk
def negD (x : D) : M D := match x with | .int i => ret (.int (-i)) | _ => stk
def revD (x : D) : M D := match x with | .lst xs => ret (.lst xs.reverse) | _ => stk
section
variable {α β : Type}
theorem ifD_t {a b : M α} : ifD (.bl true) a b = a := rfl
theorem ifD_f {a b : M α} : ifD (.bl false) a b = b := rfl
theorem ifD_b {t : Bool} {a b : M α} : ifD (.bl t) a b = if t = true then a else b := by cases t <;> rfl
theorem if_and {t u : Bool} : (if t = true then ret (D.bl u) else ret (D.bl false)) = ret (.bl (t && u)) := by cases t <;> rfl
theorem if_or {t u : Bool} : (if t = true then ret (D.bl true) else ret (D.bl u)) = ret (.bl (t || u)) := by cases t <;> rfl
theorem notD_b {t : Bool} : notD (.bl t) = ret (.bl (!t)) := rfl
theorem negD_i {i : Int} : negD (.int i) = ret (.int (-i)) := rfl
theorem revD_l {xs : List D} : revD (.lst xs) = ret (.lst xs.reverse) := rfl
theorem ofO_some {a : α} : ofO (some a) = ret a := rfl
theorem ofO_none : ofO (none : Option α) = stk := rfl
theorem stk_bnd {f : α → M β} : bnd stk f = stk := rfl
theorem bnd_if {p : Prop} [Decidable p] {a b : M α} {f : α → M β} : bnd (if p then a else b) f = if p then bnd a f else bnd b f := by split <;> rfl
theorem nox_ret {a : α} : nox (ret a) = ret a := rfl
theorem nox_if {p : Prop} [Decidable p] {a b : M α} : nox (if p then a else b) = if p then nox a else nox b := by split <;> rfl
theorem ofO_if {p : Prop} [Decidable p] {a b : Option α} : ofO (if p then a else b) = if p then ofO a else ofO b := by split <;> rfl
theorem bnd_bnd {γ : Type} {m : M α} {f : α → M β} {g : β → M γ} : bnd (bnd m f) g = bnd m fun a => bnd (f a) g := bnd_assoc ..
end
theorem getS_0 {a : Option D} {r : Ev} : getS (a :: r) 0 = a := rfl
theorem getS_s {a : Option D} {r : Ev} {n : Nat} : getS (a :: r) (n + 1) = getS r n := rfl
section
variable {c : Cal} {r : Ev}
theorem ev_c {d : D} : ev c (.c d) r = ret d := by rw [ev]
theorem ev_v {i : Nat} : ev c (.v i) r = ofO (getS r i) := by rw [ev]
theorem ev_bin {o : Bop} {a b : E} : ev c (.bin o a b) r = bnd (ev c a r) fun x => bnd (ev c b r) fun y => ofO (binD o x y) := by rw [ev]
theorem ev_neg {a : E} : ev c (.neg a) r = bnd (ev c a r) negD := by rw [ev]; rfl
theorem ev_not {a : E} : ev c (.not a) r = bnd (ev c a r) notD := by rw [ev]; rfl
theorem ev_cmp {o : Cop} {a b : E} : ev c (.cmp o a b) r = bnd (ev c a r) fun x => bnd (ev c b r) fun y => bnd (ofO (cmpD o x y)) fun t => ret (.bl t) := by rw [ev]; rfl
theorem ev_chn {o p : Cop} {a b d : E} : ev c (.chn o p a b d) r = bnd (ev c a r) fun x => bnd (ev c b r) fun y => bnd (ofO (cmpD o x y)) fun t =>
    if t = true then bnd (ev c d r) fun z => bnd (ofO (cmpD p y z)) fun t' => ret (.bl t') else ret (.bl false) := by rw [ev]; rfl
theorem ev_and {a b : E} : ev c (.and a b) r = bnd (ev c a r) fun x => ifD x (ev c b r) (ret (.bl false)) := by (rw [ev]) <;> rfl
theorem ev_or {a b : E} : ev c (.or a b) r = bnd (ev c a r) fun x => ifD x (ret (.bl true)) (ev c b r) := by (rw [ev]) <;> rfl
theorem ev_ite {t a b : E} : ev c (.ite t a b) r = bnd (ev c t r) fun x => ifD x (ev c a r) (ev c b r) := by (rw [ev]) <;> rfl
theorem ev_ix {a b : E} : ev c (.ix a b) r = bnd (ev c a r) fun x => bnd (ev c b r) fun y => ofO (ixD x y) := by rw [ev]
theorem ev_sl00 {a l h : E} : ev c (.sl a false false l h) r = bnd (ev c a r) fun x => ofO (slD x none none) := by rw [ev]; rfl
theorem ev_sl10 {a l h : E} : ev c (.sl a true false l h) r = bnd (ev c a r) fun x => bnd (ev c l r) fun y => bnd (intM y) fun l' => ofO (slD x l' none) := by
  rw [ev]; congr 1; funext x; show bnd (bnd (ev c l r) intM) _ = _; rw [bnd_bnd]; rfl
theorem ev_sl01 {a l h : E} : ev c (.sl a false true l h) r = bnd (ev c a r) fun x => bnd (ev c h r) fun y => bnd (intM y) fun h' => ofO (slD x none h') := by
  rw [ev]; congr 1; funext x; show bnd (bnd (ev c h r) intM) _ = _; rw [bnd_bnd]
theorem ev_sl11 {a l h : E} : ev c (.sl a true true l h) r = bnd (ev c a r) fun x => bnd (ev c l r) fun y => bnd (intM y) fun l' => bnd (ev c h r) fun z => bnd (intM z) fun h' => ofO (slD x l' h') := by
  rw [ev]; congr 1; funext x; show bnd (bnd (ev c l r) intM) _ = _; rw [bnd_bnd]; congr 1; funext y; congr 1; funext l'; show bnd (bnd (ev c h r) intM) _ = _; rw [bnd_bnd]
theorem intM_i {i : Int} : intM (.int i) = ret (some i) := rfl
theorem ev_rev {a : E} : ev c (.rev a) r = bnd (ev c a r) revD := by rw [ev]; rfl
theorem ev_tup {es : List E} : ev c (.tup es) r = bnd (evs c es r) fun ds => ret (.tup ds) := by rw [ev]
theorem ev_lst {es : List E} : ev c (.lst es) r = bnd (evs c es r) fun ds => ret (.lst ds) := by rw [ev]
theorem ev_dct {ks : List Key} {es : List E} : ev c (.dct ks es) r = bnd (evs c es r) fun ds => ret (.dct (ks.zip ds)) := by rw [ev]
theorem ev_call {f : Str} {es : List E} : ev c (.call f es) r = bnd (evs c es r) fun ds => c f ds := by rw [ev]
theorem ev_bi {b : Bi} {es : List E} : ev c (.bi b es) r = bnd (evs c es r) fun ds => ofO (biD b ds) := by rw [ev]
theorem ev_isi {a : E} {t : Ty} : ev c (.isi a t) r = bnd (ev c a r) fun x => bnd (ofO (isD t x)) fun b => ret (.bl b) := by rw [ev]
theorem ev_me {m : Me} {o : E} {es : List E} : ev c (.me m o es) r = bnd (ev c o r) fun x => if meT m x = true then bnd (evs c es r) fun ds => ofO (meD m x ds) else stk := by rw [ev]
theorem ev_mk {n : Str} {es : List E} : ev c (.mk n es) r = bnd (evs c es r) fun ds => ofO (mkD n ds) := by rw [ev]
theorem ev_isc {a : E} {n : Str} {ns : List Str} : ev c (.isc a n ns) r = bnd (ev c a r) fun x => ofO (iscD n ns x) := by rw [ev]
theorem ev_fld {a : E} {n : Str} {ns : List Str} : ev c (.fld a n ns) r = bnd (ev c a r) fun x => ofO (fldD n ns x) := by rw [ev]
theorem ev_get {o k d : E} : ev c (.get o k d) r = bnd (ev c o r) fun x => if isDct x = true then bnd (ev c k r) fun y => bnd (ev c d r) fun z => getM x y z else stk := by rw [ev]
def lcG (t : Tg) (w : List Nat) (r : Ev) (mc me : Ev → M D) (d : D) : M (Option D) := bnd (ofO (asg t d (wipeE r w))) fun r' => bnd (nox (mc r')) fun b => ifD b (bnd (nox (me r')) fun y => ret (some y)) (ret none)
theorem ev_lc {t : Tg} {w : List Nat} {it cnd elt : E} : ev c (.lc t w it cnd elt) r = bnd (ev c it r) fun x => bnd (ofO (itD x)) fun ds => bnd (lcL (lcG t w r (ev c cnd) (ev c elt)) ds) fun ys => ret (.lst ys) := by
  rw [show ev c (.lc t w it cnd elt) r = lcM t w (ev c it) (ev c cnd) (ev c elt) r from by (rw [ev]) <;> rfl]
  unfold lcM
  congr 1
  funext x
  cases e : itD x with
  | none => rfl
  | some ds =>
    show bnd (lcL (lcF t w r (ev c cnd) (ev c elt)) ds) _ = bnd (lcL (lcG t w r (ev c cnd) (ev c elt)) ds) _
    congr 2
    funext d
    unfold lcF lcG
    cases e : asg t d (wipeE r w) with
    | none => rfl
    | some r' => 
      show _ = bnd (nox (ev c cnd r')) _
      congr 1
theorem evs_0 : evs c [] r = ret [] := by rw [evs]
theorem evs_1 {e : E} {es : List E} : evs c (e :: es) r = bnd (ev c e r) fun d => bnd (evs c es r) fun ds => ret (d :: ds) := by rw [evs]
end
/-- the end of a value within a statement -/
def evB (m : M D) (vs : List Nat) (r : Ev) (o : List Nat) (k : D → List Nat → M Fl) : M Fl := fun st => match m st with
  | .ok d st' => k d (flp o vs d) st'
  | .exc e st' => .ok (.exc e r (offs o vs)) st'
  | .stk => .stk
def evBR (m : M D) (vs : List Nat) (r : Ev) (o : List Nat) (k : D → List Nat → M Fl) : M Fl := fun st => match m st with
  | .ok d st' => k d o st'
  | .exc e st' => .ok (.exc e r (offs o vs)) st'
  | .stk => .stk
def evBF (m : M D) (vs : List Nat) (r : Ev) (o : List Nat) (k : D → List Nat → M Fl) : M Fl := fun st => match m st with
  | .ok d st' => k d (offs o vs) st'
  | .exc e st' => .ok (.exc e r (offs o vs)) st'
  | .stk => .stk
section
variable {c : Cal} {fu : Nat} {r : Ev} {o vs : List Nat} {k : D → List Nat → M Fl}
theorem evR_eq {me : Ev → M D} : evR vs me r o k = evBR (me r) vs r o k := rfl
theorem evF_eq {me : Ev → M D} : evF vs me r o k = evBF (me r) vs r o k := rfl
theorem evB_ret {d : D} : evB (ret d) vs r o k = k d (flp o vs d) := rfl
theorem evBR_ret {d : D} : evBR (ret d) vs r o k = k d o := rfl
theorem evBF_ret {d : D} : evBF (ret d) vs r o k = k d (offs o vs) := rfl
theorem evB_if {p : Prop} [Decidable p] {a b : M D} : evB (if p then a else b) vs r o k = if p then evB a vs r o k else evB b vs r o k := by split <;> rfl
theorem evBR_if {p : Prop} [Decidable p] {a b : M D} : evBR (if p then a else b) vs r o k = if p then evBR a vs r o k else evBR b vs r o k := by split <;> rfl
theorem evBF_if {p : Prop} [Decidable p] {a b : M D} : evBF (if p then a else b) vs r o k = if p then evBF a vs r o k else evBF b vs r o k := by split <;> rfl
theorem flp_0 {d : D} : flp [] vs d = [] := by unfold flp; split <;> rfl
theorem offs_0 : offs [] vs = [] := rfl
theorem offs_c {i : Nat} : offs (i :: o) vs = if i ∈ vs then offs o vs else i :: offs o vs := by unfold offs; rw [List.filter_cons]; by_cases h : i ∈ vs <;> simp [h]
theorem flp_i {d : D} (h : imm d = true) : flp o vs d = o := by unfold flp; rw [if_pos h]
theorem flp_m {d : D} (h : imm d = false) : flp o vs d = offs o vs := by unfold flp; rw [if_neg (by rw [h]; decide)]
theorem flp_int {i : Int} : flp o vs (.int i) = o := rfl
theorem flp_bl {i : Bool} : flp o vs (.bl i) = o := rfl
theorem flp_str {i : Str} : flp o vs (.str i) = o := rfl
theorem flp_non : flp o vs .non = o := rfl
theorem flp_lst {xs : List D} : flp o vs (.lst xs) = offs o vs := rfl
theorem flp_dct {xs : List (Key × D)} : flp o vs (.dct xs) = offs o vs := rfl
theorem ex_pass : ex c fu .pass r o = ret (.nxt r o) := by rw [ex]
theorem ex_brk : ex c fu .brk r o = ret (.brk r o) := by rw [ex]
theorem ex_cnt : ex c fu .cnt r o = ret (.cnt r o) := by rw [ex]
theorem ex_ret {e : E} : ex c fu (.ret e) r o = evB (ev c e r) (vars e) r o fun d _ => ret (.ret d) := by rw [ex]; rfl
theorem ex_retn {e : E} : ex c fu (.retn e) r o = evB (ev c e r) (vars e) r o fun d _ => ret (if isMut d = true then .retn d else .ret d) := by rw [ex]; rfl
theorem ex_retv {i : Nat} : ex c fu (.retv i) r o = retF i r o := by rw [ex]
theorem ex_set {t : Tg} {e : E} : ex c fu (.set t e) r o = evB (ev c e r) (vars e) r o fun d o1 => tbl t (fun r' o' => ret (.nxt r' o')) d r o1 := by rw [ex]; rfl
theorem ex_own {i : Nat} {e : E} : ex c fu (.own i e) r o = evB (ev c e r) (vars e) r o fun d o1 => ownF i d r o1 := by rw [ex]; rfl
theorem ex_par {i j : Nat} {a b : E} : ex c fu (.par i j a b) r o = evB (ev c a r) (vars a) r o fun d o1 => evB (ev c b r) (vars b) r o1 fun d2 o2 => parF i j d d2 r o2 := by rw [ex]; rfl
theorem ex_app {i : Nat} {e : E} : ex c fu (.app i e) r o = if ownL i r o = true then evB (ev c e r) (vars e) r o fun d o1 => appF i d r o1 else stk := by rw [ex]; rfl
theorem ex_bad : ex c fu .bad r o = stk := by rw [ex]
theorem ex_ext {i : Nat} {e : E} : ex c fu (.ext i e) r o = if ownL i r o = true then evB (ev c e r) (vars e) r o fun d o1 => extF i d r o1 else stk := by rw [ex]; rfl
theorem ex_pop {i : Nat} : ex c fu (.pop i) r o = popF i r o := by rw [ex]
theorem ex_seti {i : Nat} {k e : E} : ex c fu (.seti i k e) r o = evB (ev c e r) (vars e) r o fun d o1 => if ownL i r o1 = true then evB (ev c k r) (vars k) r o1 fun x o2 => setF i x d r o2 else stk := by rw [ex]; rfl
theorem ex_raise {e : E} : ex c fu (.raise e) r o = evB (ev c e r) (vars e) r o fun d o1 => raiseF d r o1 := by rw [ex]; rfl
theorem ex_tryk {b : List T} {n : Str} {i j : Nat} {ns : List Str} : ex c fu (.tryk b n i j ns) r o = bnd (exs c fu b r o) fun f => tryF n i j ns f := by rw [ex]
theorem raiseF_e {n : Str} {fs : List (Str × D)} : raiseF (.exn n fs) r o = ret (.exc ⟨n, fs⟩ r o) := rfl
theorem tryF_n {n : Str} {i j : Nat} {ns : List Str} : tryF n i j ns (.nxt r o) = ret (.nxt r o) := rfl
theorem tryF_r {n : Str} {i j : Nat} {ns : List Str} {d : D} : tryF n i j ns (.ret d) = ret (.ret d) := rfl
theorem tryF_rn {n : Str} {i j : Nat} {ns : List Str} {d : D} : tryF n i j ns (.retn d) = ret (.retn d) := rfl
theorem tryF_x {n : Str} {i j : Nat} {ns : List Str} {e : Ex} : tryF n i j ns (.exc e r o) = if ns.contains e.cls = true then (if isub e.cls n = true then ret (.nxt (((r.set i (some (.exn e.cls e.fs))).set j (some (.exn e.cls e.fs))).set i none) (offs (offs (offs o [i]) [j]) [i])) else ret (.exc e r o)) else stk := rfl
theorem seqF_x {e : Ex} {k : Ev → List Nat → M Fl} : seqF (.exc e r o) k = ret (.exc e r o) := rfl
theorem ex_ex {e : E} : ex c fu (.ex e) r o = evB (ev c e r) (vars e) r o fun _ o1 => ret (.nxt r o1) := by rw [ex]; rfl
theorem ex_retc {t : E} {i : Nat} : ex c fu (.retc t i) r o = evB (ev c t r) (vars t) r o fun x o1 => ifD x (ret (.ret .non)) (retF i r o1) := by (rw [ex]) <;> rfl
theorem ex_ite {t : E} {a b : List T} : ex c fu (.ite t a b) r o = evB (ev c t r) (vars t) r o fun x o1 => ifD x (exs c fu a r o1) (exs c fu b r o1) := by (rw [ex]) <;> rfl
theorem ex_forR {t : Tg} {it : E} {b : List T} : ex c fu (.for_ t true it b) r o = evBR (ev c it r) (vars it) r o fun x o1 => bnd (ofO (itD x)) fun ds => forL (tbl t fun r' o' => exs c fu b r' o') ds r o1 := by
  rw [ex, evR_eq]
  congr 1
  funext x o1
  cases itD x <;> rfl
theorem ex_for {t : Tg} {it : E} {b : List T} : ex c fu (.for_ t false it b) r o = evBF (ev c it r) (vars it) r o fun x o1 => bnd (ofO (itD x)) fun ds => forL (tbl t fun r' o' => exs c fu b r' o') ds r o1 := by
  rw [ex, evF_eq]
  congr 1
  funext x o1
  cases itD x <;> rfl
theorem exs_0 : exs c fu [] r o = ret (.nxt r o) := by rw [exs]
theorem exs_1 {s : T} {ss : List T} : exs c fu (s :: ss) r o = bnd (ex c fu s r o) fun f => seqF f (exs c fu ss) := by rw [exs]
theorem seqF_n {k : Ev → List Nat → M Fl} : seqF (.nxt r o) k = k r o := rfl
theorem seqF_r {d : D} {k : Ev → List Nat → M Fl} : seqF (.ret d) k = ret (.ret d) := rfl
theorem seqF_rn {d : D} {k : Ev → List Nat → M Fl} : seqF (.retn d) k = ret (.retn d) := rfl
theorem seqF_b {k : Ev → List Nat → M Fl} : seqF (.brk r o) k = ret (.brk r o) := rfl
theorem seqF_c {k : Ev → List Nat → M Fl} : seqF (.cnt r o) k = ret (.cnt r o) := rfl
theorem tbl_nm {i : Nat} {f : Ev → List Nat → M Fl} {d : D} : tbl (.nm i) f d r o = f (r.set i (some d)) (offs o [i]) := by unfold tbl; rw [asg]; rfl
theorem tbl_tp2 {i j : Nat} {f : Ev → List Nat → M Fl} {a b : D} : tbl (.tp [.nm i, .nm j]) f (.tup [a, b]) r o = f ((r.set i (some a)).set j (some b)) (offs o [i, j]) := by
  unfold tbl; rw [asg, asgs, asg]; show (match (asgs [.nm j] [b] (r.set i (some a))) with | none => stk | some r' => _) = _; rw [asgs, asg]; rfl
theorem tbl_tp {ts : List Tg} {f : Ev → List Nat → M Fl} {ds : List D} : tbl (.tp ts) f (.tup ds) r o = bnd (ofO (asgs ts ds r)) fun r' => f r' (offs o (tgss ts)) := by
  unfold tbl
  rw [asg]
  cases asgs ts ds r with
  | none => rfl
  | some r' => show f r' (offs o (tgs (.tp ts))) = f r' (offs o (tgss ts)); rw [tgs]
theorem asg_nm {i : Nat} {d : D} : asg (.nm i) d r = some (r.set i (some d)) := by rw [asg]
theorem asg_tp {ts : List Tg} {ds : List D} : asg (.tp ts) (.tup ds) r = asgs ts ds r := by rw [asg]
theorem asgs_0 : asgs [] [] r = some r := by rw [asgs]
theorem asgs_1 {t : Tg} {ts : List Tg} {d : D} {ds : List D} : asgs (t :: ts) (d :: ds) r = (asg t d r).bind fun r' => asgs ts ds r' := by rw [asgs]
theorem tbl_e {t : Tg} {f : Ev → List Nat → M Fl} {d : D} {r' : Ev} (h : asg t d r = some r') : tbl t f d r o = f r' (offs o (tgs t)) := by unfold tbl; rw [h]
theorem ownF_n {i : Nat} : ownF i .non r o = ret (.nxt (r.set i (some .non)) (offs o [i])) := rfl
theorem ownF_l {i : Nat} {xs : List D} : ownF i (.lst xs) r o = ret (.nxt (r.set i (some (.lst xs))) (i :: offs o [i])) := rfl
theorem retF_e {i : Nat} {d : D} (h : getS r i = some d) : retF i r o = ret (if o.contains i = true then .retn d else .ret d) := by unfold retF; rw [h]
theorem ownL_e {i : Nat} {xs : List D} (h : getS r i = some (.lst xs)) (hi : o.contains i = true) : ownL i r o = true := by unfold ownL; rw [h, hi]; rfl
theorem appF_e {i : Nat} {d : D} {xs : List D} (h : getS r i = some (.lst xs)) (hi : o.contains i = true) (hl : xs.length < 16777216) : appF i d r o = ret (.nxt (r.set i (some (.lst (xs ++ [d])))) o) := by unfold appF; rw [hi, h]; simp only [if_true]; rw [if_pos hl]
theorem setF_e {i : Nat} {d : D} {xs : List D} {j : Int} {n : Nat} (h : getS r i = some (.lst xs)) (hi : o.contains i = true) (hl : ixN xs.length j = some n) : setF i (.int j) d r o = ret (.nxt (r.set i (some (.lst (xs.set n d)))) o) := by unfold setF; rw [hi, h]; simp only [if_true]; rw [hl]
def isL : Option D → Bool
  | some (.lst _) => true
  | _ => false
theorem isL_l {xs : List D} : isL (some (.lst xs)) = true := rfl
theorem ownL_d {i : Nat} : ownL i r o = (decide (i ∈ o) && isL (getS r i)) := by
  unfold ownL isL
  rw [show o.contains i = decide (i ∈ o) from by simp]
  all_goals (cases getS r i <;> first | rfl | (rename_i d; cases d <;> rfl))
def appG (x : Option D) (i : Nat) (d : D) (r : Ev) (o : List Nat) : M Fl := match x with
  | some (.lst ds) => if ds.length < 16777216 then ret (.nxt (r.set i (some (.lst (ds ++ [d])))) o) else stk
  | _ => stk
theorem appF_d {i : Nat} {d : D} : appF i d r o = if i ∈ o then appG (getS r i) i d r o else stk := by
  unfold appF
  by_cases h : i ∈ o
  · rw [if_pos (by simpa using h), if_pos h]; rfl
  · rw [if_neg (by simpa using h), if_neg h]
theorem appG_e {i : Nat} {d : D} {ds : List D} (h : ds.length < 16777216) : appG (some (.lst ds)) i d r o = ret (.nxt (r.set i (some (.lst (ds ++ [d])))) o) := if_pos h
def setH (x : Option Nat) (i : Nat) (ds : List D) (d : D) (r : Ev) (o : List Nat) : M Fl := match x with
  | some n => ret (.nxt (r.set i (some (.lst (ds.set n d)))) o)
  | none => stk
def setG (x : Option D) (i : Nat) (k d : D) (r : Ev) (o : List Nat) : M Fl := match x, k with
  | some (.lst ds), .int j => setH (ixN ds.length j) i ds d r o
  | _, _ => stk
theorem setF_d {i : Nat} {k d : D} : setF i k d r o = if i ∈ o then setG (getS r i) i k d r o else stk := by
  unfold setF
  by_cases h : i ∈ o
  · rw [if_pos (by simpa using h), if_pos h]
    cases getS r i with
    | none => rfl
    | some x =>
      cases x <;> first | rfl | (cases k <;> rfl)
  · rw [if_neg (by simpa using h), if_neg h]
theorem setG_e {i : Nat} {j : Int} {d : D} {ds : List D} : setG (some (.lst ds)) i (.int j) d r o = setH (ixN ds.length j) i ds d r o := rfl
theorem setH_e {i n : Nat} {d : D} {ds : List D} : setH (some n) i ds d r o = ret (.nxt (r.set i (some (.lst (ds.set n d)))) o) := rfl
def retG (x : Option D) (b : Bool) : M Fl := match x with
  | some d => ret (if b = true then .retn d else .ret d)
  | none => stk
theorem retF_d {i : Nat} : retF i r o = retG (getS r i) (decide (i ∈ o)) := by
  unfold retF retG
  rw [show o.contains i = decide (i ∈ o) from by simp]
  all_goals (cases getS r i <;> rfl)
theorem retG_t {d : D} : retG (some d) true = ret (.retn d) := rfl
theorem retG_f {d : D} : retG (some d) false = ret (.ret d) := rfl
def extG (x : Option D) (i : Nat) (d : D) (r : Ev) (o : List Nat) : M Fl := match x, d with
  | some (.lst ds), .lst es => if ds.length + es.length ≤ 16777216 then ret (.nxt (r.set i (some (.lst (ds ++ es)))) o) else stk
  | _, _ => stk
theorem extF_d {i : Nat} {d : D} : extF i d r o = if i ∈ o then extG (getS r i) i d r o else stk := by
  unfold extF
  by_cases h : i ∈ o
  · rw [if_pos (by simpa using h), if_pos h]
    all_goals (cases getS r i <;> first | rfl | (rename_i x; cases x <;> first | rfl | (cases d <;> rfl)))
  · rw [if_neg (by simpa using h), if_neg h]
theorem extG_e {i : Nat} {ds es : List D} (h : ds.length + es.length ≤ 16777216) : extG (some (.lst ds)) i (.lst es) r o = ret (.nxt (r.set i (some (.lst (ds ++ es)))) o) := if_pos h
def popG (x : Option D) (i : Nat) (r : Ev) (o : List Nat) : M Fl := match x with
  | some (.lst ds) => if ds.isEmpty = true then stk else ret (.nxt (r.set i (some (.lst ds.dropLast))) o)
  | _ => stk
theorem popF_d {i : Nat} : popF i r o = if i ∈ o then popG (getS r i) i r o else stk := by
  unfold popF
  by_cases h : i ∈ o
  · rw [if_pos (by simpa using h), if_pos h]
    all_goals (cases getS r i <;> first | rfl | (rename_i x; cases x <;> rfl))
  · rw [if_neg (by simpa using h), if_neg h]
theorem popG_e {i : Nat} {ds : List D} (h : ds.isEmpty = false) : popG (some (.lst ds)) i r o = ret (.nxt (r.set i (some (.lst ds.dropLast))) o) := if_neg (by rw [h]; decide)
theorem parF_e {i j : Nat} {a b : D} : parF i j a b r o = ret (.nxt ((r.set i (some a)).set j (some b)) (offs (offs o [i]) [j])) := rfl
end
def outM (m : M Fl) : M D := fun st => outR (m st)
theorem runZ_e {c : Cal} {fu n np : Nat} {body : List T} {ds : List D} (h : ds.length = np) : runZ c fu n np body ds = outM (exs c fu body (ini n ds) []) := by
  funext st; unfold runZ; rw [if_pos h]; rfl
/-- a refusal -/
def thr {α : Type} (e : Ex) : M α := fun s => .exc e s
theorem thr_bnd {α β : Type} {e : Ex} {f : α → M β} : bnd (thr e) f = thr e := rfl
theorem evB_thr {e : Ex} {vs : List Nat} {r : Ev} {o : List Nat} {k : D → List Nat → M Fl} : evB (thr e) vs r o k = ret (.exc e r (offs o vs)) := rfl
theorem evBR_thr {e : Ex} {vs : List Nat} {r : Ev} {o : List Nat} {k : D → List Nat → M Fl} : evBR (thr e) vs r o k = ret (.exc e r (offs o vs)) := rfl
theorem evBF_thr {e : Ex} {vs : List Nat} {r : Ev} {o : List Nat} {k : D → List Nat → M Fl} : evBF (thr e) vs r o k = ret (.exc e r (offs o vs)) := rfl
theorem outM_exc {e : Ex} {r : Ev} {o : List Nat} : outM (ret (.exc e r o)) = thr e := rfl
theorem outM_ret {d : D} : outM (ret (.ret d)) = ret d := rfl
theorem outM_retn {d : D} : outM (ret (.retn d)) = ret d := rfl
theorem outM_retif {d : D} {p : Prop} [Decidable p] : outM (ret (if p then .retn d else .ret d)) = ret d := by split <;> rfl
theorem outM_nxt {r : Ev} {o : List Nat} : outM (ret (.nxt r o)) = ret .non := rfl
theorem outM_if {p : Prop} [Decidable p] {a b : M Fl} : outM (if p then a else b) = if p then outM a else outM b := by split <;> rfl
def outMN (m : M Fl) : M D := fun st => outN (m st)
theorem runN_e {c : Cal} {fu n np : Nat} {body : List T} {ds : List D} (h : ds.length = np) : runN c fu n np body ds = outMN (exs c fu body (ini n ds) []) := by
  funext st; unfold runN; rw [if_pos h]; rfl
theorem outMN_retn {d : D} : outMN (ret (.retn d)) = ret d := rfl
theorem outMN_ret {d : D} (h : isMut d = false) : outMN (ret (.ret d)) = ret d := by funext st; show (if isMut d = true then Res.stk else Res.ok d st) = _; rw [if_neg (by rw [h]; decide)]; rfl
theorem outMN_nxt {r : Ev} {o : List Nat} : outMN (ret (.nxt r o)) = ret .non := rfl
theorem ini_1 {n : Nat} {d : D} {ds : List D} : ini (n + 1) (d :: ds) = some d :: ini n ds := by unfold ini; simp
theorem ini_0 {n : Nat} : ini n [] = List.replicate n none := by unfold ini; simp
theorem runZ_0 {c : Cal} {fu n : Nat} {body : List T} : runZ c fu n 0 body [] = outM (exs c fu body (ini n []) []) := runZ_e rfl
theorem runN_0 {c : Cal} {fu n : Nat} {body : List T} : runN c fu n 0 body [] = outMN (exs c fu body (ini n []) []) := runN_e rfl
theorem runZ_1 {c : Cal} {fu n : Nat} {body : List T} {d0 : D} : runZ c fu n 1 body [d0] = outM (exs c fu body (ini n [d0]) []) := runZ_e rfl
theorem runN_1 {c : Cal} {fu n : Nat} {body : List T} {d0 : D} : runN c fu n 1 body [d0] = outMN (exs c fu body (ini n [d0]) []) := runN_e rfl
theorem runZ_2 {c : Cal} {fu n : Nat} {body : List T} {d0 d1 : D} : runZ c fu n 2 body [d0, d1] = outM (exs c fu body (ini n [d0, d1]) []) := runZ_e rfl
theorem runN_2 {c : Cal} {fu n : Nat} {body : List T} {d0 d1 : D} : runN c fu n 2 body [d0, d1] = outMN (exs c fu body (ini n [d0, d1]) []) := runN_e rfl
theorem runZ_3 {c : Cal} {fu n : Nat} {body : List T} {d0 d1 d2 : D} : runZ c fu n 3 body [d0, d1, d2] = outM (exs c fu body (ini n [d0, d1, d2]) []) := runZ_e rfl
theorem runN_3 {c : Cal} {fu n : Nat} {body : List T} {d0 d1 d2 : D} : runN c fu n 3 body [d0, d1, d2] = outMN (exs c fu body (ini n [d0, d1, d2]) []) := runN_e rfl
theorem runZ_4 {c : Cal} {fu n : Nat} {body : List T} {d0 d1 d2 d3 : D} : runZ c fu n 4 body [d0, d1, d2, d3] = outM (exs c fu body (ini n [d0, d1, d2, d3]) []) := runZ_e rfl
theorem runN_4 {c : Cal} {fu n : Nat} {body : List T} {d0 d1 d2 d3 : D} : runN c fu n 4 body [d0, d1, d2, d3] = outMN (exs c fu body (ini n [d0, d1, d2, d3]) []) := runN_e rfl
theorem runZ_5 {c : Cal} {fu n : Nat} {body : List T} {d0 d1 d2 d3 d4 : D} : runZ c fu n 5 body [d0, d1, d2, d3, d4] = outM (exs c fu body (ini n [d0, d1, d2, d3, d4]) []) := runZ_e rfl
theorem runN_5 {c : Cal} {fu n : Nat} {body : List T} {d0 d1 d2 d3 d4 : D} : runN c fu n 5 body [d0, d1, d2, d3, d4] = outMN (exs c fu body (ini n [d0, d1, d2, d3, d4]) []) := runN_e rfl
theorem runZ_6 {c : Cal} {fu n : Nat} {body : List T} {d0 d1 d2 d3 d4 d5 : D} : runZ c fu n 6 body [d0, d1, d2, d3, d4, d5] = outM (exs c fu body (ini n [d0, d1, d2, d3, d4, d5]) []) := runZ_e rfl
theorem runN_6 {c : Cal} {fu n : Nat} {body : List T} {d0 d1 d2 d3 d4 d5 : D} : runN c fu n 6 body [d0, d1, d2, d3, d4, d5] = outMN (exs c fu body (ini n [d0, d1, d2, d3, d4, d5]) []) := runN_e rfl
theorem runZ_7 {c : Cal} {fu n : Nat} {body : List T} {d0 d1 d2 d3 d4 d5 d6 : D} : runZ c fu n 7 body [d0, d1, d2, d3, d4, d5, d6] = outM (exs c fu body (ini n [d0, d1, d2, d3, d4, d5, d6]) []) := runZ_e rfl
theorem runN_7 {c : Cal} {fu n : Nat} {body : List T} {d0 d1 d2 d3 d4 d5 d6 : D} : runN c fu n 7 body [d0, d1, d2, d3, d4, d5, d6] = outMN (exs c fu body (ini n [d0, d1, d2, d3, d4, d5, d6]) []) := runN_e rfl
theorem runZ_8 {c : Cal} {fu n : Nat} {body : List T} {d0 d1 d2 d3 d4 d5 d6 d7 : D} : runZ c fu n 8 body [d0, d1, d2, d3, d4, d5, d6, d7] = outM (exs c fu body (ini n [d0, d1, d2, d3, d4, d5, d6, d7]) []) := runZ_e rfl
theorem runN_8 {c : Cal} {fu n : Nat} {body : List T} {d0 d1 d2 d3 d4 d5 d6 d7 : D} : runN c fu n 8 body [d0, d1, d2, d3, d4, d5, d6, d7] = outMN (exs c fu body (ini n [d0, d1, d2, d3, d4, d5, d6, d7]) []) := runN_e rfl
/-! ### triples for these -/
section
variable {c d : Nat} {r : Ev} {o vs : List Nat} {k : D → List Nat → M Fl} {m : M D} {P : D → Prop}
theorem tr_evB {Q : Fl → Prop} (h : Tr c m P) (t : ∀ a, P a → Tr d (k a (flp o vs a)) Q) : Tr (c + d) (evB m vs r o k) Q := tr_evS (me := fun _ => m) h t
theorem tr_evBR {Q : Fl → Prop} (h : Tr c m P) (t : ∀ a, P a → Tr d (k a o) Q) : Tr (c + d) (evBR m vs r o k) Q := tr_evR (me := fun _ => m) h t
theorem tr_evBF {Q : Fl → Prop} (h : Tr c m P) (t : ∀ a, P a → Tr d (k a (offs o vs)) Q) : Tr (c + d) (evBF m vs r o k) Q := tr_evF (me := fun _ => m) h t
theorem tr_outM {Q : Fl → Prop} {f : M Fl} (h : Tr c f Q) (hq : ∀ x, Q x → ∃ a, (x = .ret a ∨ x = .retn a ∨ (a = .non ∧ ∃ r o, x = .nxt r o)) ∧ P a) : Tr c (outM f) P := fun k st hk s => by
  obtain ⟨x, st1, e1, s1, p⟩ := h k st hk s
  obtain ⟨a, e, pa⟩ := hq x p
  refine ⟨a, st1, ?_, s1, pa⟩
  unfold outM
  rw [e1]
  rcases e with rfl | rfl | ⟨rfl, r, o, rfl⟩ <;> rfl
end
end Z
set_option Elab.async false
set_option linter.all false
set_option maxRecDepth 100000
set_option maxHeartbeats 2000000
namespace Z
open PySem PySem.Spec PyProof.Rows L2 TL

/-! ### values, by rewriting -/
def occB (y x : Str) : Bool := !(Builtin.Str.occurrences y x 0 y.length 1).isEmpty
theorem zv_isi_int_non : isD .int .non = some false := rfl
theorem zv_isi_int_bl {b : Bool} : isD .int (.bl b) = some true := rfl
theorem zv_isi_int_int {i : Int} : isD .int (.int i) = some true := rfl
theorem zv_isi_int_str {x : Str} : isD .int (.str x) = some false := rfl
theorem zv_isi_int_tup {xs : List D} : isD .int (.tup xs) = some false := rfl
theorem zv_isi_int_lst {xs : List D} : isD .int (.lst xs) = some false := rfl
theorem zv_isi_int_dct {kvs : List (Key × D)} : isD .int (.dct kvs) = some false := rfl
theorem zv_isi_bool_non : isD .bool .non = some false := rfl
theorem zv_isi_bool_bl {b : Bool} : isD .bool (.bl b) = some true := rfl
theorem zv_isi_bool_int {i : Int} : isD .bool (.int i) = some false := rfl
theorem zv_isi_bool_str {x : Str} : isD .bool (.str x) = some false := rfl
theorem zv_isi_bool_tup {xs : List D} : isD .bool (.tup xs) = some false := rfl
theorem zv_isi_bool_lst {xs : List D} : isD .bool (.lst xs) = some false := rfl
theorem zv_isi_bool_dct {kvs : List (Key × D)} : isD .bool (.dct kvs) = some false := rfl
theorem zv_isi_str_non : isD .str .non = some false := rfl
theorem zv_isi_str_bl {b : Bool} : isD .str (.bl b) = some false := rfl
theorem zv_isi_str_int {i : Int} : isD .str (.int i) = some false := rfl
theorem zv_isi_str_str {x : Str} : isD .str (.str x) = some true := rfl
theorem zv_isi_str_tup {xs : List D} : isD .str (.tup xs) = some false := rfl
theorem zv_isi_str_lst {xs : List D} : isD .str (.lst xs) = some false := rfl
theorem zv_isi_str_dct {kvs : List (Key × D)} : isD .str (.dct kvs) = some false := rfl
theorem zv_isi_tuple_non : isD .tuple .non = some false := rfl
theorem zv_isi_tuple_bl {b : Bool} : isD .tuple (.bl b) = some false := rfl
theorem zv_isi_tuple_int {i : Int} : isD .tuple (.int i) = some false := rfl
theorem zv_isi_tuple_str {x : Str} : isD .tuple (.str x) = some false := rfl
theorem zv_isi_tuple_tup {xs : List D} : isD .tuple (.tup xs) = some true := rfl
theorem zv_isi_tuple_lst {xs : List D} : isD .tuple (.lst xs) = some false := rfl
theorem zv_isi_tuple_dct {kvs : List (Key × D)} : isD .tuple (.dct kvs) = some false := rfl
theorem zv_isi_list_non : isD .list .non = some false := rfl
theorem zv_isi_list_bl {b : Bool} : isD .list (.bl b) = some false := rfl
theorem zv_isi_list_int {i : Int} : isD .list (.int i) = some false := rfl
theorem zv_isi_list_str {x : Str} : isD .list (.str x) = some false := rfl
theorem zv_isi_list_tup {xs : List D} : isD .list (.tup xs) = some false := rfl
theorem zv_isi_list_lst {xs : List D} : isD .list (.lst xs) = some true := rfl
theorem zv_isi_list_dct {kvs : List (Key × D)} : isD .list (.dct kvs) = some false := rfl
theorem zv_isi_dict_non : isD .dict .non = some false := rfl
theorem zv_isi_dict_bl {b : Bool} : isD .dict (.bl b) = some false := rfl
theorem zv_isi_dict_int {i : Int} : isD .dict (.int i) = some false := rfl
theorem zv_isi_dict_str {x : Str} : isD .dict (.str x) = some false := rfl
theorem zv_isi_dict_tup {xs : List D} : isD .dict (.tup xs) = some false := rfl
theorem zv_isi_dict_lst {xs : List D} : isD .dict (.lst xs) = some false := rfl
theorem zv_isi_dict_dct {kvs : List (Key × D)} : isD .dict (.dct kvs) = some true := rfl
theorem zv_lt_ii {i j : Int} : cmpD .lt (.int i) (.int j) = some (decide (i < j)) := rfl
theorem zv_le_ii {i j : Int} : cmpD .le (.int i) (.int j) = some (decide (i ≤ j)) := rfl
theorem zv_gt_ii {i j : Int} : cmpD .gt (.int i) (.int j) = some (decide (j < i)) := rfl
theorem zv_ge_ii {i j : Int} : cmpD .ge (.int i) (.int j) = some (decide (j ≤ i)) := rfl
theorem zv_eq {a b : D} : cmpD .eq a b = eqD a b := rfl
theorem zv_ne {a b : D} : cmpD .ne a b = (eqD a b).map (!·) := rfl
theorem zv_is_non : cmpD .is .non .non = some true := rfl
theorem zv_isnot_non : cmpD .isnot .non .non = some false := rfl
theorem zv_is_bl {b : Bool} : cmpD .is (.bl b) .non = some false := rfl
theorem zv_isnot_bl {b : Bool} : cmpD .isnot (.bl b) .non = some true := rfl
theorem zv_is_int {i : Int} : cmpD .is (.int i) .non = some false := rfl
theorem zv_isnot_int {i : Int} : cmpD .isnot (.int i) .non = some true := rfl
theorem zv_is_str {x : Str} : cmpD .is (.str x) .non = some false := rfl
theorem zv_isnot_str {x : Str} : cmpD .isnot (.str x) .non = some true := rfl
theorem zv_is_tup {xs : List D} : cmpD .is (.tup xs) .non = some false := rfl
theorem zv_isnot_tup {xs : List D} : cmpD .isnot (.tup xs) .non = some true := rfl
theorem zv_is_lst {xs : List D} : cmpD .is (.lst xs) .non = some false := rfl
theorem zv_isnot_lst {xs : List D} : cmpD .isnot (.lst xs) .non = some true := rfl
theorem zv_is_dct {kvs : List (Key × D)} : cmpD .is (.dct kvs) .non = some false := rfl
theorem zv_isnot_dct {kvs : List (Key × D)} : cmpD .isnot (.dct kvs) .non = some true := rfl
theorem zv_is_exn {c : Str} {fs : List (Str × D)} : cmpD .is (.exn c fs) .non = some false := rfl
theorem zv_isnot_exn {c : Str} {fs : List (Str × D)} : cmpD .isnot (.exn c fs) .non = some true := rfl
theorem zv_in_ss {x y : Str} : cmpD .isin (.str x) (.str y) = some (occB y x) := rfl
theorem zv_notin_ss {x y : Str} : cmpD .notin (.str x) (.str y) = some (!occB y x) := rfl
theorem zv_add {i j : Int} : binD .add (.int i) (.int j) = some (.int (i + j)) := rfl
theorem zv_sub {i j : Int} : binD .sub (.int i) (.int j) = some (.int (i - j)) := rfl
theorem zv_mul {i j : Int} (h : (-(2 ^ 64) < i ∧ i < 2 ^ 64) ∨ (-(2 ^ 64) < j ∧ j < 2 ^ 64)) : binD .mul (.int i) (.int j) = some (.int (i * j)) := if_pos h
theorem zv_mod {i j : Int} (h : 0 < j) : binD .mod (.int i) (.int j) = some (.int (i % j)) := (if_pos (show j ≠ 0 by omega)).trans (by rw [Int.fmod_eq_emod_of_nonneg _ (by omega)])
theorem zv_fdiv {i j : Int} (h : 0 < j) (h2 : j < 1073741824) : binD .fdiv (.int i) (.int j) = some (.int (i / j)) := (if_pos (show j ≠ 0 ∧ j.natAbs < 1073741824 by omega)).trans (by rw [Int.fdiv_eq_ediv_of_nonneg _ (by omega)])
theorem zv_adds {x y : Str} (h : x.length + y.length ≤ sizeLine) : binD .add (.str x) (.str y) = some (.str (x ++ y)) := if_pos h
theorem zv_mull {xs : List D} {k : Int} (h0 : -(2 ^ 63) ≤ k) (h1 : k < 2 ^ 63) (h2 : xs.length * k.toNat ≤ sizeLine) : binD .mul (.lst xs) (.int k) = some (.lst (List.replicate k.toNat xs).flatten) := if_pos ⟨h0, h1, h2⟩
theorem zv_addl {xs ys : List D} (h : xs.length + ys.length ≤ sizeLine) : binD .add (.lst xs) (.lst ys) = some (.lst (xs ++ ys)) := if_pos h
theorem zv_addt {xs ys : List D} (h : xs.length + ys.length ≤ sizeLine) : binD .add (.tup xs) (.tup ys) = some (.tup (xs ++ ys)) := if_pos h
theorem zv_pow {i j : Int} (h1 : 0 ≤ j) (h2 : j ≤ 1000000) (h3 : i.natAbs < 2 ^ 64) : binD .pow (.int i) (.int j) = some (.int (i ^ j.toNat)) := if_pos ⟨h1, h2, h3⟩
theorem zv_len_s {x : Str} : biD .len [.str x] = some (.int x.length) := rfl
theorem zv_len_l {xs : List D} : biD .len [.lst xs] = some (.int xs.length) := rfl
theorem zv_len_t {xs : List D} : biD .len [.tup xs] = some (.int xs.length) := rfl
theorem zv_len_r {xs : List Int} : biD .len [.scr xs] = some (.int xs.length) := rfl
theorem zv_int_i {i : Int} : biD .int [.int i] = some (.int i) := rfl
theorem zv_int_b {b : Bool} : biD .int [.bl b] = some (.int (if b = true then 1 else 0)) := rfl
theorem zv_list_l {xs : List D} : biD .list [.lst xs] = some (.lst xs) := rfl
theorem zv_list_t {xs : List D} : biD .list [.tup xs] = some (.lst xs) := rfl
theorem zv_tuple_l {xs : List D} : biD .tuple [.lst xs] = some (.tup xs) := rfl
theorem zv_tuple_t {xs : List D} : biD .tuple [.tup xs] = some (.tup xs) := rfl
theorem zv_all {xs : List D} : biD .all [.lst xs] = (blsD xs).map fun ns => .bl (ns.all id) := rfl
theorem zv_any {xs : List D} : biD .any [.lst xs] = (blsD xs).map fun ns => .bl (ns.any id) := rfl
theorem zv_sum {xs : List D} : biD .sum [.lst xs] = (intsD xs).map fun ns => .int ns.sum := rfl
theorem zv_max2 {i j : Int} : biD .max [.int i, .int j] = some (.int (if j > i then j else i)) := rfl
theorem zv_min2 {i j : Int} : biD .min [.int i, .int j] = some (.int (if j < i then j else i)) := rfl
theorem zv_abs {i : Int} : biD .abs [.int i] = some (.int (if i < 0 then -i else i)) := rfl
theorem zv_repr_n : biD .repr [.non] = some (.str "None") := rfl
theorem zv_repr_b {b : Bool} : biD .repr [.bl b] = some (.str (if b = true then "True" else "False")) := rfl
theorem zv_repr_i {i : Int} (h : i.natAbs.log2 < 1920) : biD .repr [.int i] = some (.str (toString i)) := if_pos h
theorem zv_repr_l {xs : List D} : biD .repr [.lst xs] = reprD (.lst xs) := rfl
theorem zv_repr_t {xs : List D} : biD .repr [.tup xs] = reprD (.tup xs) := rfl
theorem zv_range {i : Int} (h1 : -1000000 ≤ i) (h2 : i ≤ 1000000) : biD .range [.int i] = some (.lst (rngD 0 i.toNat)) := if_pos ⟨h1, h2⟩
theorem zv_range2 {i j : Int} (h1 : -1000000 ≤ i) (h2 : i ≤ 1000000) (h3 : -1000000 ≤ j) (h4 : j ≤ 1000000) : biD .range [.int i, .int j] = some (.lst (rngD i (j - i).toNat)) := if_pos ⟨h1, h2, h3, h4⟩
theorem zv_enum {xs : List D} : biD .enumerate [.lst xs] = some (.lst (enumD 0 xs)) := rfl
theorem zv_zip {xs ys : List D} : biD .zip [.lst xs, .lst ys] = some (.lst (zipD xs ys)) := rfl
theorem zv_it_l {xs : List D} : itD (.lst xs) = some xs := rfl
theorem zv_it_t {xs : List D} : itD (.tup xs) = some xs := rfl
theorem zv_it_s {x : Str} : itD (.str x) = some (x.cps.toList.map sgn) := rfl
theorem zv_it_r {xs : List Int} : itD (.scr xs) = some (xs.map D.int) := rfl
theorem zv_ix_l {xs : List D} {i : Int} : ixD (.lst xs) (.int i) = atI xs i := rfl
theorem zv_ix_t {xs : List D} {i : Int} : ixD (.tup xs) (.int i) = atI xs i := rfl
theorem zv_ix_s {x : Str} {i : Int} : ixD (.str x) (.int i) = (atI x.cps.toList i).map sgn := rfl
theorem zv_sl_l {xs : List D} {l h : Option Int} : slD (.lst xs) l h = some (.lst (cutD xs l h)) := rfl
theorem zv_sl_t {xs : List D} {l h : Option Int} : slD (.tup xs) l h = some (.tup (cutD xs l h)) := rfl
theorem zv_sl_s {x : Str} {l h : Option Int} : slD (.str x) l h = some (.str (cutS x l h)) := rfl
theorem zv_me_join {x : Str} : meT .join (.str x) = true := rfl
theorem zv_me_lstrip {x : Str} : meT .lstrip (.str x) = true := rfl
theorem zv_me_index {x : Str} : meT .index (.str x) = true := rfl
theorem zv_lstrip {x y : Str} (h : x.length ≤ sizeLine) : meD .lstrip (.str x) [.str y] = some (.str (Txt.lstripChars x y)) := if_pos h
theorem zv_muls {x : Str} {k : Int} (h0 : -(2 ^ 63) ≤ k) (h1 : k < 2 ^ 63) (h2 : x.length * k.toNat ≤ sizeLine) : binD .mul (.str x) (.int k) = some (.str (repS x k.toNat)) := if_pos ⟨h0, h1, h2⟩
theorem zv_me_split {x : Str} : meT .split (.str x) = true := rfl
theorem zv_isDct_non : isDct .non = false := rfl
theorem zv_isDct_bl {b : Bool} : isDct (.bl b) = false := rfl
theorem zv_isDct_int {i : Int} : isDct (.int i) = false := rfl
theorem zv_isDct_str {x : Str} : isDct (.str x) = false := rfl
theorem zv_isDct_tup {xs : List D} : isDct (.tup xs) = false := rfl
theorem zv_isDct_lst {xs : List D} : isDct (.lst xs) = false := rfl
theorem zv_isDct_dct {kvs : List (Key × D)} : isDct (.dct kvs) = true := rfl
theorem zv_isMut_non : isMut .non = false := rfl
theorem zv_isMut_bl {b : Bool} : isMut (.bl b) = false := rfl
theorem zv_isMut_int {i : Int} : isMut (.int i) = false := rfl
theorem zv_isMut_str {x : Str} : isMut (.str x) = false := rfl
theorem zv_isMut_tup {xs : List D} : isMut (.tup xs) = false := rfl
theorem zv_isMut_lst {xs : List D} : isMut (.lst xs) = true := rfl
theorem zv_isMut_dct {kvs : List (Key × D)} : isMut (.dct kvs) = true := rfl
theorem zv_eq_ii {i j : Int} : eqD (.int i) (.int j) = some (decide (i = j)) := by unfold eqD; exact (if_pos rfl).trans (congrArg some rfl)
theorem zv_eq_ss {x y : Str} : eqD (.str x) (.str y) = some (decide (x = y)) := by unfold eqD; exact (if_pos rfl).trans (congrArg some rfl)
theorem zv_eq_bb {x y : Bool} : eqD (.bl x) (.bl y) = some (x == y) := by unfold eqD; exact (if_pos rfl).trans (congrArg some rfl)
theorem zv_eq_nn : eqD .non .non = some true := by unfold eqD; exact (if_pos rfl).trans (congrArg some rfl)
theorem zv_eq_nbl {b : Bool} : eqD .non (.bl b) = some false := by unfold eqD; exact (if_pos rfl).trans (congrArg some rfl)
theorem zv_eq_bln {b : Bool} : eqD (.bl b) .non = some false := by unfold eqD; exact (if_pos rfl).trans (congrArg some rfl)
theorem zv_eq_nint {i : Int} : eqD .non (.int i) = some false := by unfold eqD; exact (if_pos rfl).trans (congrArg some rfl)
theorem zv_eq_intn {i : Int} : eqD (.int i) .non = some false := by unfold eqD; exact (if_pos rfl).trans (congrArg some rfl)
theorem zv_eq_nstr {x : Str} : eqD .non (.str x) = some false := by unfold eqD; exact (if_pos rfl).trans (congrArg some rfl)
theorem zv_eq_strn {x : Str} : eqD (.str x) .non = some false := by unfold eqD; exact (if_pos rfl).trans (congrArg some rfl)
theorem zv_eq_is {i : Int} {x : Str} : eqD (.int i) (.str x) = some false := by unfold eqD; exact (if_pos rfl).trans (congrArg some rfl)
theorem zv_eq_si {i : Int} {x : Str} : eqD (.str x) (.int i) = some false := by unfold eqD; exact (if_pos rfl).trans (congrArg some rfl)
theorem eqD_self {x : D} (h : plain x = true) (h0 : PyData.plain (toPy x) = true) (hd : (toPy x).depth ≤ 64) : eqD x x = some true := by
  rw [eqD, if_pos (by simp [h, hd])]
  exact congrArg some (PySem.SeqAt.eqv_refl_plain _ h0)
mutual
theorem plain_py : ∀ x : D, plain x = true → PyData.plain (toPy x) = true
  | .non, _ => rfl
  | .bl _, _ => rfl
  | .int _, _ => rfl
  | .str _, _ => rfl
  | .tup xs, h => by rw [toPy, PyData.plain]; rw [plain] at h; exact plains_py xs h
  | .lst xs, h => by rw [toPy, PyData.plain]; rw [plain] at h; exact plains_py xs h
theorem plains_py : ∀ xs : List D, plains xs = true → PyData.plainAll (toPys xs) = true
  | [], _ => rfl
  | x :: xs, h => by
    rw [plains, Bool.and_eq_true] at h
    rw [toPys, PyData.plainAll, plain_py x h.1, plains_py xs h.2]; rfl
end
theorem eqD_nil {xs : List D} (h : plains xs = true) : eqD (.lst xs) (.lst []) = some xs.isEmpty := by
  have hd : min (toPy (.lst xs)).depth (toPy (.lst [])).depth ≤ 64 := Nat.le_trans (Nat.min_le_right _ _) (by decide)
  rw [eqD, if_pos (by rw [show plain (.lst xs) = true from h, decide_eq_true hd]; rfl)]
  cases xs <;> rfl
/-- a comprehension whose turns give what g says -/
theorem lcL_fm {f : D → M (Option D)} {g : D → Option D} : ∀ {ds : List D}, (∀ d ∈ ds, f d = ret (g d)) → lcL f ds = ret (ds.filterMap g)
  | [], _ => rfl
  | d :: ds, hf => by
    rw [lcL_cons, hf d (List.mem_cons_self ..), ret_bnd, lcL_fm fun e he => hf e (List.mem_cons_of_mem _ he), ret_bnd, List.filterMap_cons]
    cases g d <;> rfl
theorem blsD_map : ∀ bs : List Bool, blsD (bs.map D.bl) = some bs
  | [] => rfl
  | b :: bs => by rw [List.map_cons, blsD, blsD_map bs]; rfl
theorem mem_of_at {α : Type} {xs : List α} {i : Int} {d : α} (h : atI xs i = some d) : d ∈ xs := by
  unfold atI at h
  rw [Option.bind_eq_some_iff] at h
  obtain ⟨j, _, h⟩ := h
  exact List.mem_of_getElem? h
theorem at_some {α : Type} {xs : List α} {i : Int} (h0 : 0 ≤ i) (h1 : i < xs.length) : ∃ d, atI xs i = some d ∧ d ∈ xs := by
  obtain ⟨n, rfl⟩ := Int.eq_ofNat_of_zero_le h0
  have hn : n < xs.length := by omega
  have e : atI xs (n : Int) = some xs[n] := atI_nat (List.getElem?_eq_getElem hn)
  exact ⟨_, e, mem_of_at e⟩
theorem flat_map (xs : List Str) : (xs.map D.str).all flatB = true := by
  induction xs with
  | nil => rfl
  | cons x xs ih => rw [List.map_cons, List.all_cons, ih]; rfl
theorem any_strs (x : Str) (ys : List Str) : ((ys.map D.str).any fun y => eqB y (.str x)) = decide (x ∈ ys) := by
  induction ys with
  | nil => rfl
  | cons y ys ih =>
    rw [List.map_cons, List.any_cons, ih]
    have : eqB (.str y) (.str x) = decide (y = x) := rfl
    rw [this]
    by_cases h : y = x
    · subst h; simp
    · have h' : ¬ x = y := fun e => h e.symm
      simp [h, h']
theorem in_ts (x : Str) (ys : List Str) : cmpD .isin (.str x) (.tup (ys.map D.str)) = some (decide (x ∈ ys)) := by
  rw [← any_strs]; exact if_pos (by rw [flat_map]; rfl)
theorem in_ls (x : Str) (ys : List Str) : cmpD .isin (.str x) (.lst (ys.map D.str)) = some (decide (x ∈ ys)) := by
  rw [← any_strs]; exact if_pos (by rw [flat_map]; rfl)
theorem notin_ts (x : Str) (ys : List Str) : cmpD .notin (.str x) (.tup (ys.map D.str)) = some (!decide (x ∈ ys)) := by
  rw [← any_strs]; exact if_pos (by rw [flat_map]; rfl)
theorem notin_ls (x : Str) (ys : List Str) : cmpD .notin (.str x) (.lst (ys.map D.str)) = some (!decide (x ∈ ys)) := by
  rw [← any_strs]; exact if_pos (by rw [flat_map]; rfl)
theorem mem_iff_of {xs ys : List Str} (h1 : xs.all ys.contains = true) (h2 : ys.all xs.contains = true) (x : Str) : x ∈ xs ↔ x ∈ ys := by
  rw [List.all_eq_true] at h1 h2
  exact ⟨fun h => by simpa using h1 x h, fun h => by simpa using h2 x h⟩
theorem lcL_mapB {α : Type} {f : D → M (Option D)} {s : α → D} {p : α → Bool} : ∀ {l : List α}, (∀ c ∈ l, f (s c) = ret (some (.bl (p c)))) → lcL f (l.map s) = ret ((l.map p).map D.bl)
  | [], _ => rfl
  | c :: l, h => by
    rw [List.map_cons, lcL_cons, h c (List.mem_cons_self ..), ret_bnd, lcL_mapB fun e he => h e (List.mem_cons_of_mem _ he)]; rfl
theorem lcL_mapF {α : Type} {f : D → M (Option D)} {s : α → D} {p : α → Bool} : ∀ {l : List α}, (∀ c ∈ l, f (s c) = ret (if p c = true then some (s c) else none)) → lcL f (l.map s) = ret ((l.filter p).map s)
  | [], _ => rfl
  | c :: l, h => by
    rw [List.map_cons, lcL_cons, h c (List.mem_cons_self ..), ret_bnd, lcL_mapF fun e he => h e (List.mem_cons_of_mem _ he), ret_bnd, List.filter_cons]
    cases p c <;> rfl
theorem lcL_mapG {α β : Type} {f : D → M (Option D)} {s : α → D} {t : β → D} {g : α → β} : ∀ {l : List α}, (∀ c ∈ l, f (s c) = ret (some (t (g c)))) → lcL f (l.map s) = ret ((l.map g).map t)
  | [], _ => rfl
  | c :: l, h => by
    rw [List.map_cons, lcL_cons, h c (List.mem_cons_self ..), ret_bnd, lcL_mapG fun e he => h e (List.mem_cons_of_mem _ he)]; rfl
theorem plains_sgn : ∀ l : List Nat, plains (l.map sgn) = true
  | [] => rfl
  | c :: l => by rw [List.map_cons, plains, plains_sgn l]; rfl
theorem all_map {α : Type} (l : List α) (p : α → Bool) : (l.map p).all id = l.all p := by
  rw [List.all_map]; rfl
theorem isEmpty_map' {α β : Type} (l : List α) (f : α → β) : (l.map f).isEmpty = l.isEmpty := by cases l <;> rfl
theorem isEmpty_filter {α : Type} (l : List α) (p : α → Bool) : (l.filter p).isEmpty = l.all fun c => !p c := by
  induction l with
  | nil => rfl
  | cons c l ih =>
    rw [List.filter_cons, List.all_cons]
    cases p c with
    | true => rfl
    | false => exact ih
end Z
set_option Elab.async false
set_option linter.all false
set_option maxRecDepth 100000
set_option maxHeartbeats 2000000
namespace Z
open PySem PySem.Spec PyProof.Rows L2 TL

/-! ### the laws' own mixing and folding -/
def bMixed : List T := [(.set (.nm 2) (.bin .add (.bin .add (.bin .mod (.bin .mul (.bin .mul (.v 0) (.bin .add (.c (.int 1)) (.bin .mul (.c (.int 2)) (.v 1)))) (.c (.int 48271))) (.c (.int 2147483647))) (.bin .mul (.bin .mul (.c (.int 7919)) (.v 1)) (.v 1))) (.bin .mul (.c (.int 104729)) (.v 1)))), (.ret (.bin .fdiv (.bin .mod (.bin .mul (.v 2) (.c (.int 69621))) (.c (.int 2147483629))) (.c (.int 7))))]
theorem mixed_ok {c : Cal} (x k : Int) (h0 : 0 ≤ k) (h1 : k ≤ 1000000000) : ∃ z : Int, runZ c 100000 3 2 bMixed [.int x, .int k] = ret (.int z) := by
  rw [bMixed]
  simp -implicitDefEqProofs (disch := first | assumption | omega | (simp only [len_app, size_line, one_len, List.length_append, List.length_cons, List.length_nil, List.length_map]; omega)) only [ret_bnd, stk_bnd, bnd_bnd, ofO_some, ofO_none, bnd_if, nox_ret, nox_if, ofO_if, getS_0, getS_s, ev_c, ev_v, ev_bin, ev_neg, ev_not, ev_cmp, ev_chn, ev_and, ev_or, ev_ite, ev_ix, ev_sl00, ev_sl10, ev_sl01, ev_sl11, intM_i, ev_rev, ev_tup, ev_lst, ev_dct, ev_call, ev_bi, ev_isi, ev_me, ev_get, ev_lc, evs_0, evs_1, evB_ret, evBR_ret, evBF_ret, evB_if, evBR_if, evBF_if, flp_0, offs_0, flp_int, flp_bl, flp_str, flp_non, flp_lst, flp_dct, offs_c, vars, varss, List.mem_cons, List.mem_append, List.not_mem_nil, or_false, false_or, or_self, or_true, true_or, Nat.reduceEqDiff, decide_true, decide_false, isL_l, ownL_d, appF_d, setF_d, setG_e, setH_e, retF_d, retG_t, retG_f, eq_self, ex_pass, ex_brk, ex_cnt, ex_ret, ex_retn, ex_retv, ex_retc, ex_set, ex_own, ex_par, ex_app, ex_seti, ex_bad, ex_ext, ex_pop, extF_d, popF_d, ex_ex, ex_ite, ex_forR, ex_for, exs_0, exs_1, seqF_n, seqF_r, seqF_rn, seqF_b, seqF_c, tbl_nm, tbl_tp, tgs, tgss, asg_nm, asg_tp, asgs_0, asgs_1, ownF_l, ownF_n, parF_e, outM_ret, outM_retn, outM_retif, outM_nxt, outM_if, outMN_retn, outMN_nxt, ini_1, ini_0, ifD_t, ifD_f, ifD_b, if_and, if_or, notD_b, negD_i, revD_l, runZ_0, runN_0, runZ_1, runN_1, runZ_2, runN_2, runZ_3, runN_3, runZ_4, runN_4, runZ_5, runN_5, runZ_6, runN_6, runZ_7, runN_7, runZ_8, runN_8, List.replicate_succ, List.replicate_zero, reduceIte, ite_true, ite_false, Bool.not_true, Bool.not_false, Bool.true_and, Bool.false_and, Bool.and_true, Bool.and_false, Bool.false_eq_true, List.set_cons_zero, List.set_cons_succ, Option.bind_some, zv_isi_int_non, zv_isi_int_bl, zv_isi_int_int, zv_isi_int_str, zv_isi_int_tup, zv_isi_int_lst, zv_isi_int_dct, zv_isi_bool_non, zv_isi_bool_bl, zv_isi_bool_int, zv_isi_bool_str, zv_isi_bool_tup, zv_isi_bool_lst, zv_isi_bool_dct, zv_isi_str_non, zv_isi_str_bl, zv_isi_str_int, zv_isi_str_str, zv_isi_str_tup, zv_isi_str_lst, zv_isi_str_dct, zv_isi_tuple_non, zv_isi_tuple_bl, zv_isi_tuple_int, zv_isi_tuple_str, zv_isi_tuple_tup, zv_isi_tuple_lst, zv_isi_tuple_dct, zv_isi_list_non, zv_isi_list_bl, zv_isi_list_int, zv_isi_list_str, zv_isi_list_tup, zv_isi_list_lst, zv_isi_list_dct, zv_isi_dict_non, zv_isi_dict_bl, zv_isi_dict_int, zv_isi_dict_str, zv_isi_dict_tup, zv_isi_dict_lst, zv_isi_dict_dct, zv_lt_ii, zv_le_ii, zv_gt_ii, zv_ge_ii, zv_eq, zv_ne, zv_is_non, zv_isnot_non, zv_is_bl, zv_isnot_bl, zv_is_int, zv_isnot_int, zv_is_str, zv_isnot_str, zv_is_tup, zv_isnot_tup, zv_is_lst, zv_isnot_lst, zv_is_dct, zv_isnot_dct, zv_is_exn, zv_isnot_exn, zv_in_ss, zv_notin_ss, zv_add, zv_sub, zv_len_s, zv_len_l, zv_len_t, zv_len_r, zv_int_i, zv_int_b, zv_list_l, zv_list_t, zv_tuple_l, zv_tuple_t, zv_all, zv_any, zv_sum, zv_max2, zv_min2, zv_abs, zv_repr_n, zv_repr_b, zv_repr_l, zv_repr_t, zv_enum, zv_zip, zv_it_l, zv_it_t, zv_it_s, zv_it_r, zv_ix_l, zv_ix_t, zv_ix_s, zv_sl_l, zv_sl_t, zv_sl_s, zv_me_join, zv_me_lstrip, zv_me_index, zv_me_split, zv_isDct_non, zv_isDct_bl, zv_isDct_int, zv_isDct_str, zv_isDct_tup, zv_isDct_lst, zv_isDct_dct, zv_isMut_non, zv_isMut_bl, zv_isMut_int, zv_isMut_str, zv_isMut_tup, zv_isMut_lst, zv_isMut_dct, zv_eq_ii, zv_eq_ss, zv_eq_bb, zv_eq_nn, zv_eq_nbl, zv_eq_bln, zv_eq_nint, zv_eq_intn, zv_eq_nstr, zv_eq_strn, zv_eq_is, zv_eq_si, appG_e, extG_e, popG_e, zv_mul, zv_mod, zv_fdiv, zv_adds, zv_mull, zv_addl, zv_addt, zv_pow, zv_repr_i, zv_range, zv_range2, zv_lstrip, zv_muls]
  exact ⟨_, rfl⟩
def bFolded : List T := [(.own 1 (.lc (.nm 2) [2] (.bi .range [(.c (.int 64))]) (.c (.bl true)) (.bin .add (.c (.int 17)) (.v 2)))), (.for_ (.tp [(.nm 2), (.nm 3)]) false (.bi .enumerate [(.v 0)]) [(.seti 1 (.bin .mod (.v 2) (.c (.int 64))) (.bin .mod (.bin .add (.bin .mul (.ix (.v 1) (.bin .mod (.v 2) (.c (.int 64)))) (.c (.int 48271))) (.v 3)) (.c (.int 2147483647))))]), (.for_ (.nm 2) true (.bi .range [(.c (.int 1)), (.c (.int 64))]) [(.seti 1 (.v 2) (.bin .mod (.bin .add (.ix (.v 1) (.v 2)) (.bin .mul (.ix (.v 1) (.bin .sub (.v 2) (.c (.int 1)))) (.c (.int 16807)))) (.c (.int 2147483647))))]), (.retv 1)]
theorem enum_r {ns : List Int} (h : ns.length ≤ 16777216) : biD .enumerate [.scr ns] = some (.lst (enumD 0 (ns.map D.int))) := if_pos h
/-- pure loops: each turn keeps what stands -/
theorem forL_inv {f : D → Ev → List Nat → M Fl} {I : Ev → List Nat → Prop} : ∀ {ds : List D} {r : Ev} {o : List Nat}, (∀ d ∈ ds, ∀ r o, I r o → ∃ r' o', f d r o = ret (.nxt r' o') ∧ I r' o') → I r o → ∃ r' o', forL f ds r o = ret (.nxt r' o') ∧ I r' o'
  | [], r, o, _, i => ⟨r, o, rfl, i⟩
  | d :: ds, r, o, h, i => by
    obtain ⟨r1, o1, e, i1⟩ := h d (List.mem_cons_self ..) r o i
    obtain ⟨r2, o2, e2, i2⟩ := Z.forL_inv (fun e he => h e (List.mem_cons_of_mem _ he)) i1
    exact ⟨r2, o2, by rw [forL_cons, e, ret_bnd]; exact e2, i2⟩
theorem forL_use {β : Type} {C : M β → Prop} {k : Fl → M β} {f : D → Ev → List Nat → M Fl} (I : Ev → List Nat → Prop) {ds : List D} {r : Ev} {o : List Nat} (h0 : I r o)
    (h : ∀ d ∈ ds, ∀ r o, I r o → ∃ r' o', f d r o = ret (.nxt r' o') ∧ I r' o') (hk : ∀ r' o', I r' o' → C (k (.nxt r' o'))) : C (bnd (forL f ds r o) k) := by
  obtain ⟨r', o', e, i⟩ := Z.forL_inv h h0
  rw [e, ret_bnd]; exact hk r' o' i
theorem enum_mem {n : Nat} {ds : List D} {x : D} : x ∈ enumD n ds → ∃ k : Nat, ∃ d ∈ ds, n ≤ k ∧ k < n + ds.length ∧ x = .tup [.int k, d] := by
  induction ds generalizing n with
  | nil => intro h; cases h
  | cons d ds ih =>
    intro h
    rw [enumD] at h
    rcases List.mem_cons.mp h with rfl | h
    · exact ⟨n, d, List.mem_cons_self .., Nat.le_refl _, by simp, rfl⟩
    · obtain ⟨k, e, he, h1, h2, h3⟩ := ih h
      exact ⟨k, e, List.mem_cons_of_mem _ he, by omega, by rw [List.length_cons]; omega, h3⟩
theorem rng_mem {a : Int} {n : Nat} {x : D} (h : x ∈ rngD a n) : ∃ k : Nat, k < n ∧ x = .int (a + k) := by
  unfold rngD at h
  obtain ⟨k, hk, rfl⟩ := List.mem_map.mp h
  exact ⟨k, List.mem_range.mp hk, rfl⟩
/-- sixty-four numbers -/
def I64 (s : D) (r : Ev) (o : List Nat) : Prop := ∃ (xs : List Int) (a b : Option D), xs.length = 64 ∧ r = [some s, some (.lst (xs.map D.int)), a, b] ∧ o = [1]
theorem ix64 {xs : List Int} {i : Int} (hx : xs.length = 64) (h0 : 0 ≤ i) (h1 : i < 64) : ∃ z : Int, ∃ n : Nat, atI (xs.map D.int) i = some (.int z) ∧ ixN (xs.map D.int).length i = some n := by
  obtain ⟨d, e, hd⟩ := at_some (xs := xs.map D.int) (i := i) h0 (by rw [List.length_map, hx]; exact h1)
  obtain ⟨z, _, rfl⟩ := List.mem_map.mp hd
  obtain ⟨n, rfl⟩ := Int.eq_ofNat_of_zero_le h0
  exact ⟨z, n, e, ixN_at (by rw [List.length_map, hx]; omega)⟩
theorem set_ints (xs : List Int) (n : Nat) (z : Int) : (xs.map D.int).set n (.int z) = (xs.set n z).map D.int := by rw [List.map_set]
theorem fold64_ok {c : Cal} (ns : List Int) (hn : ns.length ≤ 63) : ∃ ds, runN c 100000 4 1 bFolded [.scr ns] = ret (.lst ds) ∧ ∃ cs, intsD ds = some cs ∧ cs.length = 64 := by
  rw [bFolded]
  simp -implicitDefEqProofs (disch := first | assumption | omega | (simp only [len_app, size_line, one_len, List.length_append, List.length_cons, List.length_nil, List.length_map]; omega)) only [ret_bnd, stk_bnd, bnd_bnd, ofO_some, ofO_none, bnd_if, nox_ret, nox_if, ofO_if, getS_0, getS_s, ev_c, ev_v, ev_bin, ev_neg, ev_not, ev_cmp, ev_chn, ev_and, ev_or, ev_ite, ev_ix, ev_sl00, ev_sl10, ev_sl01, ev_sl11, intM_i, ev_rev, ev_tup, ev_lst, ev_dct, ev_call, ev_bi, ev_isi, ev_me, ev_get, ev_lc, evs_0, evs_1, evB_ret, evBR_ret, evBF_ret, evB_if, evBR_if, evBF_if, flp_0, offs_0, flp_int, flp_bl, flp_str, flp_non, flp_lst, flp_dct, offs_c, vars, varss, List.mem_cons, List.mem_append, List.not_mem_nil, or_false, false_or, or_self, or_true, true_or, Nat.reduceEqDiff, decide_true, decide_false, isL_l, ownL_d, appF_d, setF_d, setG_e, setH_e, retF_d, retG_t, retG_f, eq_self, ex_pass, ex_brk, ex_cnt, ex_ret, ex_retn, ex_retv, ex_retc, ex_set, ex_own, ex_par, ex_app, ex_seti, ex_bad, ex_ext, ex_pop, extF_d, popF_d, ex_ex, ex_ite, ex_forR, ex_for, exs_0, exs_1, seqF_n, seqF_r, seqF_rn, seqF_b, seqF_c, tbl_nm, tbl_tp, tgs, tgss, asg_nm, asg_tp, asgs_0, asgs_1, ownF_l, ownF_n, parF_e, outM_ret, outM_retn, outM_retif, outM_nxt, outM_if, outMN_retn, outMN_nxt, ini_1, ini_0, ifD_t, ifD_f, ifD_b, if_and, if_or, notD_b, negD_i, revD_l, runZ_0, runN_0, runZ_1, runN_1, runZ_2, runN_2, runZ_3, runN_3, runZ_4, runN_4, runZ_5, runN_5, runZ_6, runN_6, runZ_7, runN_7, runZ_8, runN_8, List.replicate_succ, List.replicate_zero, reduceIte, ite_true, ite_false, Bool.not_true, Bool.not_false, Bool.true_and, Bool.false_and, Bool.and_true, Bool.and_false, Bool.false_eq_true, List.set_cons_zero, List.set_cons_succ, Option.bind_some, zv_isi_int_non, zv_isi_int_bl, zv_isi_int_int, zv_isi_int_str, zv_isi_int_tup, zv_isi_int_lst, zv_isi_int_dct, zv_isi_bool_non, zv_isi_bool_bl, zv_isi_bool_int, zv_isi_bool_str, zv_isi_bool_tup, zv_isi_bool_lst, zv_isi_bool_dct, zv_isi_str_non, zv_isi_str_bl, zv_isi_str_int, zv_isi_str_str, zv_isi_str_tup, zv_isi_str_lst, zv_isi_str_dct, zv_isi_tuple_non, zv_isi_tuple_bl, zv_isi_tuple_int, zv_isi_tuple_str, zv_isi_tuple_tup, zv_isi_tuple_lst, zv_isi_tuple_dct, zv_isi_list_non, zv_isi_list_bl, zv_isi_list_int, zv_isi_list_str, zv_isi_list_tup, zv_isi_list_lst, zv_isi_list_dct, zv_isi_dict_non, zv_isi_dict_bl, zv_isi_dict_int, zv_isi_dict_str, zv_isi_dict_tup, zv_isi_dict_lst, zv_isi_dict_dct, zv_lt_ii, zv_le_ii, zv_gt_ii, zv_ge_ii, zv_eq, zv_ne, zv_is_non, zv_isnot_non, zv_is_bl, zv_isnot_bl, zv_is_int, zv_isnot_int, zv_is_str, zv_isnot_str, zv_is_tup, zv_isnot_tup, zv_is_lst, zv_isnot_lst, zv_is_dct, zv_isnot_dct, zv_is_exn, zv_isnot_exn, zv_in_ss, zv_notin_ss, zv_add, zv_sub, zv_len_s, zv_len_l, zv_len_t, zv_len_r, zv_int_i, zv_int_b, zv_list_l, zv_list_t, zv_tuple_l, zv_tuple_t, zv_all, zv_any, zv_sum, zv_max2, zv_min2, zv_abs, zv_repr_n, zv_repr_b, zv_repr_l, zv_repr_t, zv_enum, zv_zip, zv_it_l, zv_it_t, zv_it_s, zv_it_r, zv_ix_l, zv_ix_t, zv_ix_s, zv_sl_l, zv_sl_t, zv_sl_s, zv_me_join, zv_me_lstrip, zv_me_index, zv_me_split, zv_isDct_non, zv_isDct_bl, zv_isDct_int, zv_isDct_str, zv_isDct_tup, zv_isDct_lst, zv_isDct_dct, zv_isMut_non, zv_isMut_bl, zv_isMut_int, zv_isMut_str, zv_isMut_tup, zv_isMut_lst, zv_isMut_dct, zv_eq_ii, zv_eq_ss, zv_eq_bb, zv_eq_nn, zv_eq_nbl, zv_eq_bln, zv_eq_nint, zv_eq_intn, zv_eq_nstr, zv_eq_strn, zv_eq_is, zv_eq_si, appG_e, extG_e, popG_e, zv_mul, zv_mod, zv_fdiv, zv_adds, zv_mull, zv_addl, zv_addt, zv_pow, zv_repr_i, zv_range, zv_range2, zv_lstrip, zv_muls, enum_r (show ns.length ≤ 16777216 by omega)]
  have e0 : ∀ {f}, (∀ i : Int, f (.int i) = ret (some (.int (17 + i)))) → ∃ xs : List Int, lcL f (rngD 0 ((64 : Int)).toNat) = ret (xs.map D.int) ∧ xs.length = 64 := fun {f} h => by
    refine ⟨(List.range 64).map fun k => (17 + (0 + ((k : Nat) : Int))), ?_, by simp⟩
    unfold rngD
    rw [lcL_mapG (t := D.int) (g := fun k : Nat => 17 + (0 + (k : Int)))]
    · rfl
    · intro k hk; exact h _
  have turn : ∀ (xs : List Int) (i : Int), xs.length = 64 → 0 ≤ i → i < 64 → ∃ z : Int, ∃ n : Nat, atI (xs.map D.int) i = some (.int z) ∧ ixN (xs.map D.int).length i = some n := fun xs i => ix64
  obtain ⟨xs, h1, h2⟩ := e0 (f := lcG (Tg.nm 2) [2] [some (D.scr ns), none, none, none] (ev c (E.c (D.bl true))) (ev c (E.bin Bop.add (E.c (D.int 17)) (E.v 2)))) (by
    intro i
    simp -implicitDefEqProofs (disch := first | assumption | omega | (simp only [len_app, size_line, one_len, List.length_append, List.length_cons, List.length_nil, List.length_map]; omega)) only [ret_bnd, stk_bnd, bnd_bnd, ofO_some, ofO_none, bnd_if, nox_ret, nox_if, ofO_if, getS_0, getS_s, ev_c, ev_v, ev_bin, ev_neg, ev_not, ev_cmp, ev_chn, ev_and, ev_or, ev_ite, ev_ix, ev_sl00, ev_sl10, ev_sl01, ev_sl11, intM_i, ev_rev, ev_tup, ev_lst, ev_dct, ev_call, ev_bi, ev_isi, ev_me, ev_get, ev_lc, evs_0, evs_1, evB_ret, evBR_ret, evBF_ret, evB_if, evBR_if, evBF_if, flp_0, offs_0, flp_int, flp_bl, flp_str, flp_non, flp_lst, flp_dct, offs_c, vars, varss, List.mem_cons, List.mem_append, List.not_mem_nil, or_false, false_or, or_self, or_true, true_or, Nat.reduceEqDiff, decide_true, decide_false, isL_l, ownL_d, appF_d, setF_d, setG_e, setH_e, retF_d, retG_t, retG_f, eq_self, ex_pass, ex_brk, ex_cnt, ex_ret, ex_retn, ex_retv, ex_retc, ex_set, ex_own, ex_par, ex_app, ex_seti, ex_bad, ex_ext, ex_pop, extF_d, popF_d, ex_ex, ex_ite, ex_forR, ex_for, exs_0, exs_1, seqF_n, seqF_r, seqF_rn, seqF_b, seqF_c, tbl_nm, tbl_tp, tgs, tgss, asg_nm, asg_tp, asgs_0, asgs_1, ownF_l, ownF_n, parF_e, outM_ret, outM_retn, outM_retif, outM_nxt, outM_if, outMN_retn, outMN_nxt, ini_1, ini_0, ifD_t, ifD_f, ifD_b, if_and, if_or, notD_b, negD_i, revD_l, runZ_0, runN_0, runZ_1, runN_1, runZ_2, runN_2, runZ_3, runN_3, runZ_4, runN_4, runZ_5, runN_5, runZ_6, runN_6, runZ_7, runN_7, runZ_8, runN_8, List.replicate_succ, List.replicate_zero, reduceIte, ite_true, ite_false, Bool.not_true, Bool.not_false, Bool.true_and, Bool.false_and, Bool.and_true, Bool.and_false, Bool.false_eq_true, List.set_cons_zero, List.set_cons_succ, Option.bind_some, zv_isi_int_non, zv_isi_int_bl, zv_isi_int_int, zv_isi_int_str, zv_isi_int_tup, zv_isi_int_lst, zv_isi_int_dct, zv_isi_bool_non, zv_isi_bool_bl, zv_isi_bool_int, zv_isi_bool_str, zv_isi_bool_tup, zv_isi_bool_lst, zv_isi_bool_dct, zv_isi_str_non, zv_isi_str_bl, zv_isi_str_int, zv_isi_str_str, zv_isi_str_tup, zv_isi_str_lst, zv_isi_str_dct, zv_isi_tuple_non, zv_isi_tuple_bl, zv_isi_tuple_int, zv_isi_tuple_str, zv_isi_tuple_tup, zv_isi_tuple_lst, zv_isi_tuple_dct, zv_isi_list_non, zv_isi_list_bl, zv_isi_list_int, zv_isi_list_str, zv_isi_list_tup, zv_isi_list_lst, zv_isi_list_dct, zv_isi_dict_non, zv_isi_dict_bl, zv_isi_dict_int, zv_isi_dict_str, zv_isi_dict_tup, zv_isi_dict_lst, zv_isi_dict_dct, zv_lt_ii, zv_le_ii, zv_gt_ii, zv_ge_ii, zv_eq, zv_ne, zv_is_non, zv_isnot_non, zv_is_bl, zv_isnot_bl, zv_is_int, zv_isnot_int, zv_is_str, zv_isnot_str, zv_is_tup, zv_isnot_tup, zv_is_lst, zv_isnot_lst, zv_is_dct, zv_isnot_dct, zv_is_exn, zv_isnot_exn, zv_in_ss, zv_notin_ss, zv_add, zv_sub, zv_len_s, zv_len_l, zv_len_t, zv_len_r, zv_int_i, zv_int_b, zv_list_l, zv_list_t, zv_tuple_l, zv_tuple_t, zv_all, zv_any, zv_sum, zv_max2, zv_min2, zv_abs, zv_repr_n, zv_repr_b, zv_repr_l, zv_repr_t, zv_enum, zv_zip, zv_it_l, zv_it_t, zv_it_s, zv_it_r, zv_ix_l, zv_ix_t, zv_ix_s, zv_sl_l, zv_sl_t, zv_sl_s, zv_me_join, zv_me_lstrip, zv_me_index, zv_me_split, zv_isDct_non, zv_isDct_bl, zv_isDct_int, zv_isDct_str, zv_isDct_tup, zv_isDct_lst, zv_isDct_dct, zv_isMut_non, zv_isMut_bl, zv_isMut_int, zv_isMut_str, zv_isMut_tup, zv_isMut_lst, zv_isMut_dct, zv_eq_ii, zv_eq_ss, zv_eq_bb, zv_eq_nn, zv_eq_nbl, zv_eq_bln, zv_eq_nint, zv_eq_intn, zv_eq_nstr, zv_eq_strn, zv_eq_is, zv_eq_si, appG_e, extG_e, popG_e, zv_mul, zv_mod, zv_fdiv, zv_adds, zv_mull, zv_addl, zv_addt, zv_pow, zv_repr_i, zv_range, zv_range2, zv_lstrip, zv_muls, lcG, wipeE])
  rw [h1]
  simp -implicitDefEqProofs (disch := first | assumption | omega | (simp only [len_app, size_line, one_len, List.length_append, List.length_cons, List.length_nil, List.length_map]; omega)) only [ret_bnd, stk_bnd, bnd_bnd, ofO_some, ofO_none, bnd_if, nox_ret, nox_if, ofO_if, getS_0, getS_s, ev_c, ev_v, ev_bin, ev_neg, ev_not, ev_cmp, ev_chn, ev_and, ev_or, ev_ite, ev_ix, ev_sl00, ev_sl10, ev_sl01, ev_sl11, intM_i, ev_rev, ev_tup, ev_lst, ev_dct, ev_call, ev_bi, ev_isi, ev_me, ev_get, ev_lc, evs_0, evs_1, evB_ret, evBR_ret, evBF_ret, evB_if, evBR_if, evBF_if, flp_0, offs_0, flp_int, flp_bl, flp_str, flp_non, flp_lst, flp_dct, offs_c, vars, varss, List.mem_cons, List.mem_append, List.not_mem_nil, or_false, false_or, or_self, or_true, true_or, Nat.reduceEqDiff, decide_true, decide_false, isL_l, ownL_d, appF_d, setF_d, setG_e, setH_e, retF_d, retG_t, retG_f, eq_self, ex_pass, ex_brk, ex_cnt, ex_ret, ex_retn, ex_retv, ex_retc, ex_set, ex_own, ex_par, ex_app, ex_seti, ex_bad, ex_ext, ex_pop, extF_d, popF_d, ex_ex, ex_ite, ex_forR, ex_for, exs_0, exs_1, seqF_n, seqF_r, seqF_rn, seqF_b, seqF_c, tbl_nm, tbl_tp, tgs, tgss, asg_nm, asg_tp, asgs_0, asgs_1, ownF_l, ownF_n, parF_e, outM_ret, outM_retn, outM_retif, outM_nxt, outM_if, outMN_retn, outMN_nxt, ini_1, ini_0, ifD_t, ifD_f, ifD_b, if_and, if_or, notD_b, negD_i, revD_l, runZ_0, runN_0, runZ_1, runN_1, runZ_2, runN_2, runZ_3, runN_3, runZ_4, runN_4, runZ_5, runN_5, runZ_6, runN_6, runZ_7, runN_7, runZ_8, runN_8, List.replicate_succ, List.replicate_zero, reduceIte, ite_true, ite_false, Bool.not_true, Bool.not_false, Bool.true_and, Bool.false_and, Bool.and_true, Bool.and_false, Bool.false_eq_true, List.set_cons_zero, List.set_cons_succ, Option.bind_some, zv_isi_int_non, zv_isi_int_bl, zv_isi_int_int, zv_isi_int_str, zv_isi_int_tup, zv_isi_int_lst, zv_isi_int_dct, zv_isi_bool_non, zv_isi_bool_bl, zv_isi_bool_int, zv_isi_bool_str, zv_isi_bool_tup, zv_isi_bool_lst, zv_isi_bool_dct, zv_isi_str_non, zv_isi_str_bl, zv_isi_str_int, zv_isi_str_str, zv_isi_str_tup, zv_isi_str_lst, zv_isi_str_dct, zv_isi_tuple_non, zv_isi_tuple_bl, zv_isi_tuple_int, zv_isi_tuple_str, zv_isi_tuple_tup, zv_isi_tuple_lst, zv_isi_tuple_dct, zv_isi_list_non, zv_isi_list_bl, zv_isi_list_int, zv_isi_list_str, zv_isi_list_tup, zv_isi_list_lst, zv_isi_list_dct, zv_isi_dict_non, zv_isi_dict_bl, zv_isi_dict_int, zv_isi_dict_str, zv_isi_dict_tup, zv_isi_dict_lst, zv_isi_dict_dct, zv_lt_ii, zv_le_ii, zv_gt_ii, zv_ge_ii, zv_eq, zv_ne, zv_is_non, zv_isnot_non, zv_is_bl, zv_isnot_bl, zv_is_int, zv_isnot_int, zv_is_str, zv_isnot_str, zv_is_tup, zv_isnot_tup, zv_is_lst, zv_isnot_lst, zv_is_dct, zv_isnot_dct, zv_is_exn, zv_isnot_exn, zv_in_ss, zv_notin_ss, zv_add, zv_sub, zv_len_s, zv_len_l, zv_len_t, zv_len_r, zv_int_i, zv_int_b, zv_list_l, zv_list_t, zv_tuple_l, zv_tuple_t, zv_all, zv_any, zv_sum, zv_max2, zv_min2, zv_abs, zv_repr_n, zv_repr_b, zv_repr_l, zv_repr_t, zv_enum, zv_zip, zv_it_l, zv_it_t, zv_it_s, zv_it_r, zv_ix_l, zv_ix_t, zv_ix_s, zv_sl_l, zv_sl_t, zv_sl_s, zv_me_join, zv_me_lstrip, zv_me_index, zv_me_split, zv_isDct_non, zv_isDct_bl, zv_isDct_int, zv_isDct_str, zv_isDct_tup, zv_isDct_lst, zv_isDct_dct, zv_isMut_non, zv_isMut_bl, zv_isMut_int, zv_isMut_str, zv_isMut_tup, zv_isMut_lst, zv_isMut_dct, zv_eq_ii, zv_eq_ss, zv_eq_bb, zv_eq_nn, zv_eq_nbl, zv_eq_bln, zv_eq_nint, zv_eq_intn, zv_eq_nstr, zv_eq_strn, zv_eq_is, zv_eq_si, appG_e, extG_e, popG_e, zv_mul, zv_mod, zv_fdiv, zv_adds, zv_mull, zv_addl, zv_addt, zv_pow, zv_repr_i, zv_range, zv_range2, zv_lstrip, zv_muls, enum_r (show ns.length ≤ 16777216 by omega)]
  refine forL_use (C := fun m => ∃ ds, outMN m = ret (.lst ds) ∧ ∃ cs, intsD ds = some cs ∧ cs.length = 64) (I64 (.scr ns)) ⟨xs, none, none, h2, rfl, rfl⟩ ?_ ?_
  · rintro d hd r o ⟨ys, a, b, hl, rfl, rfl⟩
    obtain ⟨k, x, hx, _, hk, rfl⟩ := enum_mem hd
    obtain ⟨z, _, rfl⟩ := List.mem_map.mp hx
    obtain ⟨w, n, e1, e2⟩ := ix64 (xs := ys) (i := (k : Int) % 64) hl (by omega) (by omega)
    rw [tbl_tp2]
    simp -implicitDefEqProofs (disch := first | assumption | omega | (simp only [len_app, size_line, one_len, List.length_append, List.length_cons, List.length_nil, List.length_map]; omega)) only [ret_bnd, stk_bnd, bnd_bnd, ofO_some, ofO_none, bnd_if, nox_ret, nox_if, ofO_if, getS_0, getS_s, ev_c, ev_v, ev_bin, ev_neg, ev_not, ev_cmp, ev_chn, ev_and, ev_or, ev_ite, ev_ix, ev_sl00, ev_sl10, ev_sl01, ev_sl11, intM_i, ev_rev, ev_tup, ev_lst, ev_dct, ev_call, ev_bi, ev_isi, ev_me, ev_get, ev_lc, evs_0, evs_1, evB_ret, evBR_ret, evBF_ret, evB_if, evBR_if, evBF_if, flp_0, offs_0, flp_int, flp_bl, flp_str, flp_non, flp_lst, flp_dct, offs_c, vars, varss, List.mem_cons, List.mem_append, List.not_mem_nil, or_false, false_or, or_self, or_true, true_or, Nat.reduceEqDiff, decide_true, decide_false, isL_l, ownL_d, appF_d, setF_d, setG_e, setH_e, retF_d, retG_t, retG_f, eq_self, ex_pass, ex_brk, ex_cnt, ex_ret, ex_retn, ex_retv, ex_retc, ex_set, ex_own, ex_par, ex_app, ex_seti, ex_bad, ex_ext, ex_pop, extF_d, popF_d, ex_ex, ex_ite, ex_forR, ex_for, exs_0, exs_1, seqF_n, seqF_r, seqF_rn, seqF_b, seqF_c, tbl_nm, tbl_tp, tgs, tgss, asg_nm, asg_tp, asgs_0, asgs_1, ownF_l, ownF_n, parF_e, outM_ret, outM_retn, outM_retif, outM_nxt, outM_if, outMN_retn, outMN_nxt, ini_1, ini_0, ifD_t, ifD_f, ifD_b, if_and, if_or, notD_b, negD_i, revD_l, runZ_0, runN_0, runZ_1, runN_1, runZ_2, runN_2, runZ_3, runN_3, runZ_4, runN_4, runZ_5, runN_5, runZ_6, runN_6, runZ_7, runN_7, runZ_8, runN_8, List.replicate_succ, List.replicate_zero, reduceIte, ite_true, ite_false, Bool.not_true, Bool.not_false, Bool.true_and, Bool.false_and, Bool.and_true, Bool.and_false, Bool.false_eq_true, List.set_cons_zero, List.set_cons_succ, Option.bind_some, zv_isi_int_non, zv_isi_int_bl, zv_isi_int_int, zv_isi_int_str, zv_isi_int_tup, zv_isi_int_lst, zv_isi_int_dct, zv_isi_bool_non, zv_isi_bool_bl, zv_isi_bool_int, zv_isi_bool_str, zv_isi_bool_tup, zv_isi_bool_lst, zv_isi_bool_dct, zv_isi_str_non, zv_isi_str_bl, zv_isi_str_int, zv_isi_str_str, zv_isi_str_tup, zv_isi_str_lst, zv_isi_str_dct, zv_isi_tuple_non, zv_isi_tuple_bl, zv_isi_tuple_int, zv_isi_tuple_str, zv_isi_tuple_tup, zv_isi_tuple_lst, zv_isi_tuple_dct, zv_isi_list_non, zv_isi_list_bl, zv_isi_list_int, zv_isi_list_str, zv_isi_list_tup, zv_isi_list_lst, zv_isi_list_dct, zv_isi_dict_non, zv_isi_dict_bl, zv_isi_dict_int, zv_isi_dict_str, zv_isi_dict_tup, zv_isi_dict_lst, zv_isi_dict_dct, zv_lt_ii, zv_le_ii, zv_gt_ii, zv_ge_ii, zv_eq, zv_ne, zv_is_non, zv_isnot_non, zv_is_bl, zv_isnot_bl, zv_is_int, zv_isnot_int, zv_is_str, zv_isnot_str, zv_is_tup, zv_isnot_tup, zv_is_lst, zv_isnot_lst, zv_is_dct, zv_isnot_dct, zv_is_exn, zv_isnot_exn, zv_in_ss, zv_notin_ss, zv_add, zv_sub, zv_len_s, zv_len_l, zv_len_t, zv_len_r, zv_int_i, zv_int_b, zv_list_l, zv_list_t, zv_tuple_l, zv_tuple_t, zv_all, zv_any, zv_sum, zv_max2, zv_min2, zv_abs, zv_repr_n, zv_repr_b, zv_repr_l, zv_repr_t, zv_enum, zv_zip, zv_it_l, zv_it_t, zv_it_s, zv_it_r, zv_ix_l, zv_ix_t, zv_ix_s, zv_sl_l, zv_sl_t, zv_sl_s, zv_me_join, zv_me_lstrip, zv_me_index, zv_me_split, zv_isDct_non, zv_isDct_bl, zv_isDct_int, zv_isDct_str, zv_isDct_tup, zv_isDct_lst, zv_isDct_dct, zv_isMut_non, zv_isMut_bl, zv_isMut_int, zv_isMut_str, zv_isMut_tup, zv_isMut_lst, zv_isMut_dct, zv_eq_ii, zv_eq_ss, zv_eq_bb, zv_eq_nn, zv_eq_nbl, zv_eq_bln, zv_eq_nint, zv_eq_intn, zv_eq_nstr, zv_eq_strn, zv_eq_is, zv_eq_si, appG_e, extG_e, popG_e, zv_mul, zv_mod, zv_fdiv, zv_adds, zv_mull, zv_addl, zv_addt, zv_pow, zv_repr_i, zv_range, zv_range2, zv_lstrip, zv_muls, e1, e2]
    exact ⟨_, _, rfl, ys.set n ((w * 48271 + z) % 2147483647), _, _, by rw [List.length_set, hl], by rw [← set_ints], rfl⟩
  · rintro r o ⟨ys, a, b, hl, rfl, rfl⟩
    simp -implicitDefEqProofs (disch := first | assumption | omega | (simp only [len_app, size_line, one_len, List.length_append, List.length_cons, List.length_nil, List.length_map]; omega)) only [ret_bnd, stk_bnd, bnd_bnd, ofO_some, ofO_none, bnd_if, nox_ret, nox_if, ofO_if, getS_0, getS_s, ev_c, ev_v, ev_bin, ev_neg, ev_not, ev_cmp, ev_chn, ev_and, ev_or, ev_ite, ev_ix, ev_sl00, ev_sl10, ev_sl01, ev_sl11, intM_i, ev_rev, ev_tup, ev_lst, ev_dct, ev_call, ev_bi, ev_isi, ev_me, ev_get, ev_lc, evs_0, evs_1, evB_ret, evBR_ret, evBF_ret, evB_if, evBR_if, evBF_if, flp_0, offs_0, flp_int, flp_bl, flp_str, flp_non, flp_lst, flp_dct, offs_c, vars, varss, List.mem_cons, List.mem_append, List.not_mem_nil, or_false, false_or, or_self, or_true, true_or, Nat.reduceEqDiff, decide_true, decide_false, isL_l, ownL_d, appF_d, setF_d, setG_e, setH_e, retF_d, retG_t, retG_f, eq_self, ex_pass, ex_brk, ex_cnt, ex_ret, ex_retn, ex_retv, ex_retc, ex_set, ex_own, ex_par, ex_app, ex_seti, ex_bad, ex_ext, ex_pop, extF_d, popF_d, ex_ex, ex_ite, ex_forR, ex_for, exs_0, exs_1, seqF_n, seqF_r, seqF_rn, seqF_b, seqF_c, tbl_nm, tbl_tp, tgs, tgss, asg_nm, asg_tp, asgs_0, asgs_1, ownF_l, ownF_n, parF_e, outM_ret, outM_retn, outM_retif, outM_nxt, outM_if, outMN_retn, outMN_nxt, ini_1, ini_0, ifD_t, ifD_f, ifD_b, if_and, if_or, notD_b, negD_i, revD_l, runZ_0, runN_0, runZ_1, runN_1, runZ_2, runN_2, runZ_3, runN_3, runZ_4, runN_4, runZ_5, runN_5, runZ_6, runN_6, runZ_7, runN_7, runZ_8, runN_8, List.replicate_succ, List.replicate_zero, reduceIte, ite_true, ite_false, Bool.not_true, Bool.not_false, Bool.true_and, Bool.false_and, Bool.and_true, Bool.and_false, Bool.false_eq_true, List.set_cons_zero, List.set_cons_succ, Option.bind_some, zv_isi_int_non, zv_isi_int_bl, zv_isi_int_int, zv_isi_int_str, zv_isi_int_tup, zv_isi_int_lst, zv_isi_int_dct, zv_isi_bool_non, zv_isi_bool_bl, zv_isi_bool_int, zv_isi_bool_str, zv_isi_bool_tup, zv_isi_bool_lst, zv_isi_bool_dct, zv_isi_str_non, zv_isi_str_bl, zv_isi_str_int, zv_isi_str_str, zv_isi_str_tup, zv_isi_str_lst, zv_isi_str_dct, zv_isi_tuple_non, zv_isi_tuple_bl, zv_isi_tuple_int, zv_isi_tuple_str, zv_isi_tuple_tup, zv_isi_tuple_lst, zv_isi_tuple_dct, zv_isi_list_non, zv_isi_list_bl, zv_isi_list_int, zv_isi_list_str, zv_isi_list_tup, zv_isi_list_lst, zv_isi_list_dct, zv_isi_dict_non, zv_isi_dict_bl, zv_isi_dict_int, zv_isi_dict_str, zv_isi_dict_tup, zv_isi_dict_lst, zv_isi_dict_dct, zv_lt_ii, zv_le_ii, zv_gt_ii, zv_ge_ii, zv_eq, zv_ne, zv_is_non, zv_isnot_non, zv_is_bl, zv_isnot_bl, zv_is_int, zv_isnot_int, zv_is_str, zv_isnot_str, zv_is_tup, zv_isnot_tup, zv_is_lst, zv_isnot_lst, zv_is_dct, zv_isnot_dct, zv_is_exn, zv_isnot_exn, zv_in_ss, zv_notin_ss, zv_add, zv_sub, zv_len_s, zv_len_l, zv_len_t, zv_len_r, zv_int_i, zv_int_b, zv_list_l, zv_list_t, zv_tuple_l, zv_tuple_t, zv_all, zv_any, zv_sum, zv_max2, zv_min2, zv_abs, zv_repr_n, zv_repr_b, zv_repr_l, zv_repr_t, zv_enum, zv_zip, zv_it_l, zv_it_t, zv_it_s, zv_it_r, zv_ix_l, zv_ix_t, zv_ix_s, zv_sl_l, zv_sl_t, zv_sl_s, zv_me_join, zv_me_lstrip, zv_me_index, zv_me_split, zv_isDct_non, zv_isDct_bl, zv_isDct_int, zv_isDct_str, zv_isDct_tup, zv_isDct_lst, zv_isDct_dct, zv_isMut_non, zv_isMut_bl, zv_isMut_int, zv_isMut_str, zv_isMut_tup, zv_isMut_lst, zv_isMut_dct, zv_eq_ii, zv_eq_ss, zv_eq_bb, zv_eq_nn, zv_eq_nbl, zv_eq_bln, zv_eq_nint, zv_eq_intn, zv_eq_nstr, zv_eq_strn, zv_eq_is, zv_eq_si, appG_e, extG_e, popG_e, zv_mul, zv_mod, zv_fdiv, zv_adds, zv_mull, zv_addl, zv_addt, zv_pow, zv_repr_i, zv_range, zv_range2, zv_lstrip, zv_muls]
    refine forL_use (C := fun m => ∃ ds, outMN m = ret (.lst ds) ∧ ∃ cs, intsD ds = some cs ∧ cs.length = 64) (I64 (.scr ns)) ⟨ys, _, _, hl, rfl, rfl⟩ ?_ ?_
    · rintro d hd r o ⟨ys, a, b, hl, rfl, rfl⟩
      obtain ⟨k, hk, rfl⟩ := rng_mem hd
      obtain ⟨w, n, e1, e2⟩ := ix64 (xs := ys) (i := 1 + (k : Int)) hl (by omega) (by omega)
      obtain ⟨w2, n2, e3, e4⟩ := ix64 (xs := ys) (i := 1 + (k : Int) - 1) hl (by omega) (by omega)
      simp -implicitDefEqProofs (disch := first | assumption | omega | (simp only [len_app, size_line, one_len, List.length_append, List.length_cons, List.length_nil, List.length_map]; omega)) only [ret_bnd, stk_bnd, bnd_bnd, ofO_some, ofO_none, bnd_if, nox_ret, nox_if, ofO_if, getS_0, getS_s, ev_c, ev_v, ev_bin, ev_neg, ev_not, ev_cmp, ev_chn, ev_and, ev_or, ev_ite, ev_ix, ev_sl00, ev_sl10, ev_sl01, ev_sl11, intM_i, ev_rev, ev_tup, ev_lst, ev_dct, ev_call, ev_bi, ev_isi, ev_me, ev_get, ev_lc, evs_0, evs_1, evB_ret, evBR_ret, evBF_ret, evB_if, evBR_if, evBF_if, flp_0, offs_0, flp_int, flp_bl, flp_str, flp_non, flp_lst, flp_dct, offs_c, vars, varss, List.mem_cons, List.mem_append, List.not_mem_nil, or_false, false_or, or_self, or_true, true_or, Nat.reduceEqDiff, decide_true, decide_false, isL_l, ownL_d, appF_d, setF_d, setG_e, setH_e, retF_d, retG_t, retG_f, eq_self, ex_pass, ex_brk, ex_cnt, ex_ret, ex_retn, ex_retv, ex_retc, ex_set, ex_own, ex_par, ex_app, ex_seti, ex_bad, ex_ext, ex_pop, extF_d, popF_d, ex_ex, ex_ite, ex_forR, ex_for, exs_0, exs_1, seqF_n, seqF_r, seqF_rn, seqF_b, seqF_c, tbl_nm, tbl_tp, tgs, tgss, asg_nm, asg_tp, asgs_0, asgs_1, ownF_l, ownF_n, parF_e, outM_ret, outM_retn, outM_retif, outM_nxt, outM_if, outMN_retn, outMN_nxt, ini_1, ini_0, ifD_t, ifD_f, ifD_b, if_and, if_or, notD_b, negD_i, revD_l, runZ_0, runN_0, runZ_1, runN_1, runZ_2, runN_2, runZ_3, runN_3, runZ_4, runN_4, runZ_5, runN_5, runZ_6, runN_6, runZ_7, runN_7, runZ_8, runN_8, List.replicate_succ, List.replicate_zero, reduceIte, ite_true, ite_false, Bool.not_true, Bool.not_false, Bool.true_and, Bool.false_and, Bool.and_true, Bool.and_false, Bool.false_eq_true, List.set_cons_zero, List.set_cons_succ, Option.bind_some, zv_isi_int_non, zv_isi_int_bl, zv_isi_int_int, zv_isi_int_str, zv_isi_int_tup, zv_isi_int_lst, zv_isi_int_dct, zv_isi_bool_non, zv_isi_bool_bl, zv_isi_bool_int, zv_isi_bool_str, zv_isi_bool_tup, zv_isi_bool_lst, zv_isi_bool_dct, zv_isi_str_non, zv_isi_str_bl, zv_isi_str_int, zv_isi_str_str, zv_isi_str_tup, zv_isi_str_lst, zv_isi_str_dct, zv_isi_tuple_non, zv_isi_tuple_bl, zv_isi_tuple_int, zv_isi_tuple_str, zv_isi_tuple_tup, zv_isi_tuple_lst, zv_isi_tuple_dct, zv_isi_list_non, zv_isi_list_bl, zv_isi_list_int, zv_isi_list_str, zv_isi_list_tup, zv_isi_list_lst, zv_isi_list_dct, zv_isi_dict_non, zv_isi_dict_bl, zv_isi_dict_int, zv_isi_dict_str, zv_isi_dict_tup, zv_isi_dict_lst, zv_isi_dict_dct, zv_lt_ii, zv_le_ii, zv_gt_ii, zv_ge_ii, zv_eq, zv_ne, zv_is_non, zv_isnot_non, zv_is_bl, zv_isnot_bl, zv_is_int, zv_isnot_int, zv_is_str, zv_isnot_str, zv_is_tup, zv_isnot_tup, zv_is_lst, zv_isnot_lst, zv_is_dct, zv_isnot_dct, zv_is_exn, zv_isnot_exn, zv_in_ss, zv_notin_ss, zv_add, zv_sub, zv_len_s, zv_len_l, zv_len_t, zv_len_r, zv_int_i, zv_int_b, zv_list_l, zv_list_t, zv_tuple_l, zv_tuple_t, zv_all, zv_any, zv_sum, zv_max2, zv_min2, zv_abs, zv_repr_n, zv_repr_b, zv_repr_l, zv_repr_t, zv_enum, zv_zip, zv_it_l, zv_it_t, zv_it_s, zv_it_r, zv_ix_l, zv_ix_t, zv_ix_s, zv_sl_l, zv_sl_t, zv_sl_s, zv_me_join, zv_me_lstrip, zv_me_index, zv_me_split, zv_isDct_non, zv_isDct_bl, zv_isDct_int, zv_isDct_str, zv_isDct_tup, zv_isDct_lst, zv_isDct_dct, zv_isMut_non, zv_isMut_bl, zv_isMut_int, zv_isMut_str, zv_isMut_tup, zv_isMut_lst, zv_isMut_dct, zv_eq_ii, zv_eq_ss, zv_eq_bb, zv_eq_nn, zv_eq_nbl, zv_eq_bln, zv_eq_nint, zv_eq_intn, zv_eq_nstr, zv_eq_strn, zv_eq_is, zv_eq_si, appG_e, extG_e, popG_e, zv_mul, zv_mod, zv_fdiv, zv_adds, zv_mull, zv_addl, zv_addt, zv_pow, zv_repr_i, zv_range, zv_range2, zv_lstrip, zv_muls, e1, e2, e3, e4]
      exact ⟨_, _, rfl, ys.set n ((w + w2 * 16807) % 2147483647), _, _, by rw [List.length_set, hl], by rw [← set_ints], rfl⟩
    · rintro r o ⟨ys, a, b, hl, rfl, rfl⟩
      simp -implicitDefEqProofs (disch := first | assumption | omega | (simp only [len_app, size_line, one_len, List.length_append, List.length_cons, List.length_nil, List.length_map]; omega)) only [ret_bnd, stk_bnd, bnd_bnd, ofO_some, ofO_none, bnd_if, nox_ret, nox_if, ofO_if, getS_0, getS_s, ev_c, ev_v, ev_bin, ev_neg, ev_not, ev_cmp, ev_chn, ev_and, ev_or, ev_ite, ev_ix, ev_sl00, ev_sl10, ev_sl01, ev_sl11, intM_i, ev_rev, ev_tup, ev_lst, ev_dct, ev_call, ev_bi, ev_isi, ev_me, ev_get, ev_lc, evs_0, evs_1, evB_ret, evBR_ret, evBF_ret, evB_if, evBR_if, evBF_if, flp_0, offs_0, flp_int, flp_bl, flp_str, flp_non, flp_lst, flp_dct, offs_c, vars, varss, List.mem_cons, List.mem_append, List.not_mem_nil, or_false, false_or, or_self, or_true, true_or, Nat.reduceEqDiff, decide_true, decide_false, isL_l, ownL_d, appF_d, setF_d, setG_e, setH_e, retF_d, retG_t, retG_f, eq_self, ex_pass, ex_brk, ex_cnt, ex_ret, ex_retn, ex_retv, ex_retc, ex_set, ex_own, ex_par, ex_app, ex_seti, ex_bad, ex_ext, ex_pop, extF_d, popF_d, ex_ex, ex_ite, ex_forR, ex_for, exs_0, exs_1, seqF_n, seqF_r, seqF_rn, seqF_b, seqF_c, tbl_nm, tbl_tp, tgs, tgss, asg_nm, asg_tp, asgs_0, asgs_1, ownF_l, ownF_n, parF_e, outM_ret, outM_retn, outM_retif, outM_nxt, outM_if, outMN_retn, outMN_nxt, ini_1, ini_0, ifD_t, ifD_f, ifD_b, if_and, if_or, notD_b, negD_i, revD_l, runZ_0, runN_0, runZ_1, runN_1, runZ_2, runN_2, runZ_3, runN_3, runZ_4, runN_4, runZ_5, runN_5, runZ_6, runN_6, runZ_7, runN_7, runZ_8, runN_8, List.replicate_succ, List.replicate_zero, reduceIte, ite_true, ite_false, Bool.not_true, Bool.not_false, Bool.true_and, Bool.false_and, Bool.and_true, Bool.and_false, Bool.false_eq_true, List.set_cons_zero, List.set_cons_succ, Option.bind_some, zv_isi_int_non, zv_isi_int_bl, zv_isi_int_int, zv_isi_int_str, zv_isi_int_tup, zv_isi_int_lst, zv_isi_int_dct, zv_isi_bool_non, zv_isi_bool_bl, zv_isi_bool_int, zv_isi_bool_str, zv_isi_bool_tup, zv_isi_bool_lst, zv_isi_bool_dct, zv_isi_str_non, zv_isi_str_bl, zv_isi_str_int, zv_isi_str_str, zv_isi_str_tup, zv_isi_str_lst, zv_isi_str_dct, zv_isi_tuple_non, zv_isi_tuple_bl, zv_isi_tuple_int, zv_isi_tuple_str, zv_isi_tuple_tup, zv_isi_tuple_lst, zv_isi_tuple_dct, zv_isi_list_non, zv_isi_list_bl, zv_isi_list_int, zv_isi_list_str, zv_isi_list_tup, zv_isi_list_lst, zv_isi_list_dct, zv_isi_dict_non, zv_isi_dict_bl, zv_isi_dict_int, zv_isi_dict_str, zv_isi_dict_tup, zv_isi_dict_lst, zv_isi_dict_dct, zv_lt_ii, zv_le_ii, zv_gt_ii, zv_ge_ii, zv_eq, zv_ne, zv_is_non, zv_isnot_non, zv_is_bl, zv_isnot_bl, zv_is_int, zv_isnot_int, zv_is_str, zv_isnot_str, zv_is_tup, zv_isnot_tup, zv_is_lst, zv_isnot_lst, zv_is_dct, zv_isnot_dct, zv_is_exn, zv_isnot_exn, zv_in_ss, zv_notin_ss, zv_add, zv_sub, zv_len_s, zv_len_l, zv_len_t, zv_len_r, zv_int_i, zv_int_b, zv_list_l, zv_list_t, zv_tuple_l, zv_tuple_t, zv_all, zv_any, zv_sum, zv_max2, zv_min2, zv_abs, zv_repr_n, zv_repr_b, zv_repr_l, zv_repr_t, zv_enum, zv_zip, zv_it_l, zv_it_t, zv_it_s, zv_it_r, zv_ix_l, zv_ix_t, zv_ix_s, zv_sl_l, zv_sl_t, zv_sl_s, zv_me_join, zv_me_lstrip, zv_me_index, zv_me_split, zv_isDct_non, zv_isDct_bl, zv_isDct_int, zv_isDct_str, zv_isDct_tup, zv_isDct_lst, zv_isDct_dct, zv_isMut_non, zv_isMut_bl, zv_isMut_int, zv_isMut_str, zv_isMut_tup, zv_isMut_lst, zv_isMut_dct, zv_eq_ii, zv_eq_ss, zv_eq_bb, zv_eq_nn, zv_eq_nbl, zv_eq_bln, zv_eq_nint, zv_eq_intn, zv_eq_nstr, zv_eq_strn, zv_eq_is, zv_eq_si, appG_e, extG_e, popG_e, zv_mul, zv_mod, zv_fdiv, zv_adds, zv_mull, zv_addl, zv_addt, zv_pow, zv_repr_i, zv_range, zv_range2, zv_lstrip, zv_muls]
      exact ⟨_, rfl, _, intsD_map ys, hl⟩
end Z
set_option Elab.async false
set_option linter.all false
set_option maxRecDepth 100000
set_option maxHeartbeats 2000000
namespace Z
open PySem PySem.Spec PyProof.Rows L2 TL

/-! ### draws within -/
def Strict {α β : Type} (Φ : M α → M β) : Prop := ∀ m st a st', m st = .ok a st' → Φ m st = Φ (ret a) st'
theorem tr_ctx {α β : Type} {Φ : M α → M β} {c d : Nat} {m : M α} {P : α → Prop} {Q : β → Prop} (s : Strict Φ) (h : Tr c m P) (l : c ≤ d) (t : ∀ a, P a → Tr (d - c) (Φ (ret a)) Q) : Tr d (Φ m) Q := fun k st hk hs => by
  obtain ⟨a, st1, e1, s1, p⟩ := h k st (by omega) hs
  obtain ⟨b, st2, e2, s2, q⟩ := t a p (k + c) st1 (by omega) s1
  exact ⟨b, st2, (s m st a st1 e1).trans e2, s2.mono (by omega), q⟩
theorem st_id {α : Type} : Strict (fun m : M α => m) := fun m st a st' e => e
def rsB {α β : Type} (x : Res α) (f : α → M β) : Res β := match x with
  | .ok a s' => f a s'
  | .exc e s' => .exc e s'
  | .stk => .stk
def rsX {α : Type} (x : Res α) : Res α := match x with
  | .exc _ _ => .stk
  | r => r
def rsE (x : Res D) (g : D → List Nat) (r : Ev) (e : List Nat) (k : D → List Nat → M Fl) : Res Fl := match x with
  | .ok d st' => k d (g d) st'
  | .exc z st' => .ok (.exc z r e) st'
  | .stk => .stk
theorem st_bnd {α β γ : Type} {Φ : M α → M β} {f : β → M γ} (h : Strict Φ) : Strict (fun m => bnd (Φ m) f) := fun m st a st' e => by
  show rsB (Φ m st) f = rsB (Φ (ret a) st') f
  rw [h m st a st' e]
theorem st_nox {α β : Type} {Φ : M α → M β} (h : Strict Φ) : Strict (fun m => nox (Φ m)) := fun m st a st' e => by
  show rsX (Φ m st) = rsX (Φ (ret a) st')
  rw [h m st a st' e]
theorem st_outM {α : Type} {Φ : M α → M Fl} (h : Strict Φ) : Strict (fun m => outM (Φ m)) := fun m st a st' e => by
  show outR (Φ m st) = outR (Φ (ret a) st')
  rw [h m st a st' e]
theorem st_outMN {α : Type} {Φ : M α → M Fl} (h : Strict Φ) : Strict (fun m => outMN (Φ m)) := fun m st a st' e => by
  show outN (Φ m st) = outN (Φ (ret a) st')
  rw [h m st a st' e]
section
variable {α : Type} {Φ : M α → M D} {vs : List Nat} {r : Ev} {o : List Nat} {k : D → List Nat → M Fl}
theorem st_evB (h : Strict Φ) : Strict (fun m => evB (Φ m) vs r o k) := fun m st a st' e => by
  show rsE (Φ m st) (flp o vs) r (offs o vs) k = rsE (Φ (ret a) st') (flp o vs) r (offs o vs) k
  rw [h m st a st' e]
theorem st_evBR (h : Strict Φ) : Strict (fun m => evBR (Φ m) vs r o k) := fun m st a st' e => by
  show rsE (Φ m st) (fun _ => o) r (offs o vs) k = rsE (Φ (ret a) st') (fun _ => o) r (offs o vs) k
  rw [h m st a st' e]
theorem st_evBF (h : Strict Φ) : Strict (fun m => evBF (Φ m) vs r o k) := fun m st a st' e => by
  show rsE (Φ m st) (fun _ => offs o vs) r (offs o vs) k = rsE (Φ (ret a) st') (fun _ => offs o vs) r (offs o vs) k
  rw [h m st a st' e]
end

theorem trx_bB0 {α : Type} {γ : Type} {c d : Nat} {m : M α} {P : α → Prop} {g : α → M D} {vs : List Nat} {r : Ev} {o : List Nat} {k : D → List Nat → M Fl} {K : Fl → M γ} {Q : γ → Prop} (h : Tr c m P) (l : c ≤ d) (t : ∀ a, P a → Tr (d - c) (bnd (evB (g a) vs r o k) K) Q) : Tr d (bnd (evB (bnd m g) vs r o k) K) Q := tr_ctx (Φ := fun m => bnd (evB (bnd m g) vs r o k) K) (st_bnd (st_evB (st_bnd st_id))) h l t
theorem trx_bBM {α : Type} {c d : Nat} {m : M α} {P : α → Prop} {g : α → M D} {vs : List Nat} {r : Ev} {o : List Nat} {k : D → List Nat → M Fl} {K : Fl → M Fl} {Q : D → Prop} (h : Tr c m P) (l : c ≤ d) (t : ∀ a, P a → Tr (d - c) (outM (bnd (evB (g a) vs r o k) K)) Q) : Tr d (outM (bnd (evB (bnd m g) vs r o k) K)) Q := tr_ctx (Φ := fun m => outM (bnd (evB (bnd m g) vs r o k) K)) (st_outM (st_bnd (st_evB (st_bnd st_id)))) h l t
theorem trx_bBN {α : Type} {c d : Nat} {m : M α} {P : α → Prop} {g : α → M D} {vs : List Nat} {r : Ev} {o : List Nat} {k : D → List Nat → M Fl} {K : Fl → M Fl} {Q : D → Prop} (h : Tr c m P) (l : c ≤ d) (t : ∀ a, P a → Tr (d - c) (outMN (bnd (evB (g a) vs r o k) K)) Q) : Tr d (outMN (bnd (evB (bnd m g) vs r o k) K)) Q := tr_ctx (Φ := fun m => outMN (bnd (evB (bnd m g) vs r o k) K)) (st_outMN (st_bnd (st_evB (st_bnd st_id)))) h l t
theorem trx_bR0 {α : Type} {γ : Type} {c d : Nat} {m : M α} {P : α → Prop} {g : α → M D} {vs : List Nat} {r : Ev} {o : List Nat} {k : D → List Nat → M Fl} {K : Fl → M γ} {Q : γ → Prop} (h : Tr c m P) (l : c ≤ d) (t : ∀ a, P a → Tr (d - c) (bnd (evBR (g a) vs r o k) K) Q) : Tr d (bnd (evBR (bnd m g) vs r o k) K) Q := tr_ctx (Φ := fun m => bnd (evBR (bnd m g) vs r o k) K) (st_bnd (st_evBR (st_bnd st_id))) h l t
theorem trx_bRM {α : Type} {c d : Nat} {m : M α} {P : α → Prop} {g : α → M D} {vs : List Nat} {r : Ev} {o : List Nat} {k : D → List Nat → M Fl} {K : Fl → M Fl} {Q : D → Prop} (h : Tr c m P) (l : c ≤ d) (t : ∀ a, P a → Tr (d - c) (outM (bnd (evBR (g a) vs r o k) K)) Q) : Tr d (outM (bnd (evBR (bnd m g) vs r o k) K)) Q := tr_ctx (Φ := fun m => outM (bnd (evBR (bnd m g) vs r o k) K)) (st_outM (st_bnd (st_evBR (st_bnd st_id)))) h l t
theorem trx_bRN {α : Type} {c d : Nat} {m : M α} {P : α → Prop} {g : α → M D} {vs : List Nat} {r : Ev} {o : List Nat} {k : D → List Nat → M Fl} {K : Fl → M Fl} {Q : D → Prop} (h : Tr c m P) (l : c ≤ d) (t : ∀ a, P a → Tr (d - c) (outMN (bnd (evBR (g a) vs r o k) K)) Q) : Tr d (outMN (bnd (evBR (bnd m g) vs r o k) K)) Q := tr_ctx (Φ := fun m => outMN (bnd (evBR (bnd m g) vs r o k) K)) (st_outMN (st_bnd (st_evBR (st_bnd st_id)))) h l t
theorem trx_bF0 {α : Type} {γ : Type} {c d : Nat} {m : M α} {P : α → Prop} {g : α → M D} {vs : List Nat} {r : Ev} {o : List Nat} {k : D → List Nat → M Fl} {K : Fl → M γ} {Q : γ → Prop} (h : Tr c m P) (l : c ≤ d) (t : ∀ a, P a → Tr (d - c) (bnd (evBF (g a) vs r o k) K) Q) : Tr d (bnd (evBF (bnd m g) vs r o k) K) Q := tr_ctx (Φ := fun m => bnd (evBF (bnd m g) vs r o k) K) (st_bnd (st_evBF (st_bnd st_id))) h l t
theorem trx_bFM {α : Type} {c d : Nat} {m : M α} {P : α → Prop} {g : α → M D} {vs : List Nat} {r : Ev} {o : List Nat} {k : D → List Nat → M Fl} {K : Fl → M Fl} {Q : D → Prop} (h : Tr c m P) (l : c ≤ d) (t : ∀ a, P a → Tr (d - c) (outM (bnd (evBF (g a) vs r o k) K)) Q) : Tr d (outM (bnd (evBF (bnd m g) vs r o k) K)) Q := tr_ctx (Φ := fun m => outM (bnd (evBF (bnd m g) vs r o k) K)) (st_outM (st_bnd (st_evBF (st_bnd st_id)))) h l t
theorem trx_bFN {α : Type} {c d : Nat} {m : M α} {P : α → Prop} {g : α → M D} {vs : List Nat} {r : Ev} {o : List Nat} {k : D → List Nat → M Fl} {K : Fl → M Fl} {Q : D → Prop} (h : Tr c m P) (l : c ≤ d) (t : ∀ a, P a → Tr (d - c) (outMN (bnd (evBF (g a) vs r o k) K)) Q) : Tr d (outMN (bnd (evBF (bnd m g) vs r o k) K)) Q := tr_ctx (Φ := fun m => outMN (bnd (evBF (bnd m g) vs r o k) K)) (st_outMN (st_bnd (st_evBF (st_bnd st_id)))) h l t
theorem trx_bX {α γ : Type} {c d : Nat} {m : M α} {P : α → Prop} {β : Type} {g : α → M β} {K : β → M γ} {Q : γ → Prop} (h : Tr c m P) (l : c ≤ d) (t : ∀ a, P a → Tr (d - c) (bnd (nox (g a)) K) Q) : Tr d (bnd (nox (bnd m g)) K) Q := tr_ctx (Φ := fun m => bnd (nox (bnd m g)) K) (st_bnd (st_nox (st_bnd st_id))) h l t
theorem trx_pB0  {γ : Type} {c d : Nat} {m : M D} {P : D → Prop} {vs : List Nat} {r : Ev} {o : List Nat} {k : D → List Nat → M Fl} {K : Fl → M γ} {Q : γ → Prop} (h : Tr c m P) (l : c ≤ d) (t : ∀ a, P a → Tr (d - c) (bnd (evB (ret a) vs r o k) K) Q) : Tr d (bnd (evB (m) vs r o k) K) Q := tr_ctx (Φ := fun m => bnd (evB (m) vs r o k) K) (st_bnd (st_evB (st_id))) h l t
theorem trx_pBM  {c d : Nat} {m : M D} {P : D → Prop} {vs : List Nat} {r : Ev} {o : List Nat} {k : D → List Nat → M Fl} {K : Fl → M Fl} {Q : D → Prop} (h : Tr c m P) (l : c ≤ d) (t : ∀ a, P a → Tr (d - c) (outM (bnd (evB (ret a) vs r o k) K)) Q) : Tr d (outM (bnd (evB (m) vs r o k) K)) Q := tr_ctx (Φ := fun m => outM (bnd (evB (m) vs r o k) K)) (st_outM (st_bnd (st_evB (st_id)))) h l t
theorem trx_pBN  {c d : Nat} {m : M D} {P : D → Prop} {vs : List Nat} {r : Ev} {o : List Nat} {k : D → List Nat → M Fl} {K : Fl → M Fl} {Q : D → Prop} (h : Tr c m P) (l : c ≤ d) (t : ∀ a, P a → Tr (d - c) (outMN (bnd (evB (ret a) vs r o k) K)) Q) : Tr d (outMN (bnd (evB (m) vs r o k) K)) Q := tr_ctx (Φ := fun m => outMN (bnd (evB (m) vs r o k) K)) (st_outMN (st_bnd (st_evB (st_id)))) h l t
theorem trx_pR0  {γ : Type} {c d : Nat} {m : M D} {P : D → Prop} {vs : List Nat} {r : Ev} {o : List Nat} {k : D → List Nat → M Fl} {K : Fl → M γ} {Q : γ → Prop} (h : Tr c m P) (l : c ≤ d) (t : ∀ a, P a → Tr (d - c) (bnd (evBR (ret a) vs r o k) K) Q) : Tr d (bnd (evBR (m) vs r o k) K) Q := tr_ctx (Φ := fun m => bnd (evBR (m) vs r o k) K) (st_bnd (st_evBR (st_id))) h l t
theorem trx_pRM  {c d : Nat} {m : M D} {P : D → Prop} {vs : List Nat} {r : Ev} {o : List Nat} {k : D → List Nat → M Fl} {K : Fl → M Fl} {Q : D → Prop} (h : Tr c m P) (l : c ≤ d) (t : ∀ a, P a → Tr (d - c) (outM (bnd (evBR (ret a) vs r o k) K)) Q) : Tr d (outM (bnd (evBR (m) vs r o k) K)) Q := tr_ctx (Φ := fun m => outM (bnd (evBR (m) vs r o k) K)) (st_outM (st_bnd (st_evBR (st_id)))) h l t
theorem trx_pRN  {c d : Nat} {m : M D} {P : D → Prop} {vs : List Nat} {r : Ev} {o : List Nat} {k : D → List Nat → M Fl} {K : Fl → M Fl} {Q : D → Prop} (h : Tr c m P) (l : c ≤ d) (t : ∀ a, P a → Tr (d - c) (outMN (bnd (evBR (ret a) vs r o k) K)) Q) : Tr d (outMN (bnd (evBR (m) vs r o k) K)) Q := tr_ctx (Φ := fun m => outMN (bnd (evBR (m) vs r o k) K)) (st_outMN (st_bnd (st_evBR (st_id)))) h l t
theorem trx_pF0  {γ : Type} {c d : Nat} {m : M D} {P : D → Prop} {vs : List Nat} {r : Ev} {o : List Nat} {k : D → List Nat → M Fl} {K : Fl → M γ} {Q : γ → Prop} (h : Tr c m P) (l : c ≤ d) (t : ∀ a, P a → Tr (d - c) (bnd (evBF (ret a) vs r o k) K) Q) : Tr d (bnd (evBF (m) vs r o k) K) Q := tr_ctx (Φ := fun m => bnd (evBF (m) vs r o k) K) (st_bnd (st_evBF (st_id))) h l t
theorem trx_pFM  {c d : Nat} {m : M D} {P : D → Prop} {vs : List Nat} {r : Ev} {o : List Nat} {k : D → List Nat → M Fl} {K : Fl → M Fl} {Q : D → Prop} (h : Tr c m P) (l : c ≤ d) (t : ∀ a, P a → Tr (d - c) (outM (bnd (evBF (ret a) vs r o k) K)) Q) : Tr d (outM (bnd (evBF (m) vs r o k) K)) Q := tr_ctx (Φ := fun m => outM (bnd (evBF (m) vs r o k) K)) (st_outM (st_bnd (st_evBF (st_id)))) h l t
theorem trx_pFN  {c d : Nat} {m : M D} {P : D → Prop} {vs : List Nat} {r : Ev} {o : List Nat} {k : D → List Nat → M Fl} {K : Fl → M Fl} {Q : D → Prop} (h : Tr c m P) (l : c ≤ d) (t : ∀ a, P a → Tr (d - c) (outMN (bnd (evBF (ret a) vs r o k) K)) Q) : Tr d (outMN (bnd (evBF (m) vs r o k) K)) Q := tr_ctx (Φ := fun m => outMN (bnd (evBF (m) vs r o k) K)) (st_outMN (st_bnd (st_evBF (st_id)))) h l t
theorem trx_pX {α γ : Type} {c d : Nat} {m : M α} {P : α → Prop} {K : α → M γ} {Q : γ → Prop} (h : Tr c m P) (l : c ≤ d) (t : ∀ a, P a → Tr (d - c) (bnd (nox (ret a)) K) Q) : Tr d (bnd (nox (m)) K) Q := tr_ctx (Φ := fun m => bnd (nox (m)) K) (st_bnd (st_nox (st_id))) h l t
theorem trx_oM {α : Type} {c d : Nat} {m : M α} {P : α → Prop} {g : α → M Fl} {Q : D → Prop} (h : Tr c m P) (l : c ≤ d) (t : ∀ a, P a → Tr (d - c) (outM (g a)) Q) : Tr d (outM (bnd m g)) Q := tr_ctx (Φ := fun m => outM (bnd m g)) (st_outM (st_bnd st_id)) h l t
theorem trx_oN {α : Type} {c d : Nat} {m : M α} {P : α → Prop} {g : α → M Fl} {Q : D → Prop} (h : Tr c m P) (l : c ≤ d) (t : ∀ a, P a → Tr (d - c) (outMN (g a)) Q) : Tr d (outMN (bnd m g)) Q := tr_ctx (Φ := fun m => outMN (bnd m g)) (st_outMN (st_bnd st_id)) h l t

theorem trx_q {α β : Type} {c d : Nat} {m : M α} {f : α → M β} {P : α → Prop} {Q : β → Prop} (h : Tr c m P) (l : c ≤ d) (t : ∀ a, P a → Tr (d - c) (f a) Q) : Tr d (bnd m f) Q := tr_ctx (Φ := fun m => bnd m f) (st_bnd st_id) h l t
theorem trx_z {α : Type} {c d : Nat} {m : M α} {P Q : α → Prop} (h : Tr c m P) (l : c ≤ d) (t : ∀ a, P a → Tr (d - c) (ret a) Q) : Tr d m Q := tr_ctx (Φ := fun m => m) st_id h l t
theorem tr_if {α : Type} {p : Prop} [Decidable p] {d : Nat} {a b : M α} {Q : α → Prop} (h1 : p → Tr d a Q) (h2 : ¬ p → Tr d b Q) : Tr d (if p then a else b) Q := by
  split
  · exact h1 ‹_›
  · exact h2 ‹_›
theorem tr_rt {α : Type} {a : α} {d : Nat} {P : α → Prop} (h : P a) : Tr d (ret a) P := (tr_ret h).le (Nat.zero_le _)
/-- the law's beginning -/
theorem begin_use {m : M D} {c : Nat} {vs : List Nat} {r : Ev} {o : List Nat} {k : D → List Nat → M Fl} {K : Fl → M Fl} {st0 : Sto} (e : m none = .ok (.obj 0) st0) (hs : St 0 st0)
    (h : Tr c (outM (bnd (k (.obj 0) (flp o vs (.obj 0))) K)) (fun d => d = .bl true)) (hc : c ≤ 900000000) : ∃ st, outM (bnd (evB m vs r o k) K) none = .ok (.bl true) st := by
  obtain ⟨a, st1, e1, s1, p⟩ := h 0 st0 (by omega) hs
  subst p
  refine ⟨st1, ?_⟩
  rw [← e1]
  unfold outM bnd evB
  rw [e]
theorem begM_ok {fold : List D → M D} {ns : List Int} (hn : ns.length ≤ 63) (h : ∃ ds, fold [.scr ns] = ret (.lst ds) ∧ ∃ cs, intsD ds = some cs ∧ cs.length = 64) : ∃ st, begM fold [.scr ns] none = .ok (.obj 0) st ∧ St 0 st := by
  obtain ⟨ds, e, cs, e2, hl⟩ := h
  refine ⟨some ⟨cs, leftOf ns, 0⟩, ?_, _, rfl, hl, by show (0 : Int) ≤ 0; omega, by show (0 : Int) ≤ 0; omega⟩
  have e' : fold [.scr ns] none = .ok (.lst ds) none := by rw [e]; rfl
  unfold begM
  simp only [e', e2]
  exact if_pos (by omega)
/-- a list's item by a drawn number -/
theorem tr_ixl {xs : List D} {Q : D → Prop} {i : Int} (h0 : 0 ≤ i) (h1 : i < xs.length) (h : ∀ x ∈ xs, Q x) : Tr 0 (ofO (atI xs i)) Q := by
  obtain ⟨x, e, hx⟩ := at_some h0 h1
  rw [e]
  exact tr_ret (h x hx)
/-- a loop of at most N turns -/
theorem tr_forN {c N : Nat} {g : D → Ev → List Nat → M Fl} {I : Ev → List Nat → Prop} {ds : List D} {r : Ev} {o : List Nat} (hN : ds.length ≤ N) (i : I r o) (h : ∀ d ∈ ds, ∀ r o, I r o → Tr c (g d r o) (fun f => ∃ r' o', f = .nxt r' o' ∧ I r' o')) : Tr (c * N) (forL g ds r o) (fun f => ∃ r' o', f = .nxt r' o' ∧ I r' o') :=
  (tr_forL h i).le (Nat.mul_le_mul_left _ hN)
/-- a comprehension of at most N turns -/
theorem tr_lcN {c N : Nat} {g : D → M (Option D)} {P : Option D → Prop} {ds : List D} (hN : ds.length ≤ N) (h : ∀ d ∈ ds, Tr c (g d) P) : Tr (c * N) (lcL g ds) (fun ys => ys.length ≤ ds.length ∧ ∀ y ∈ ys, P (some y)) :=
  (tr_lcL h).le (Nat.mul_le_mul_left _ hN)
theorem rng_len {a : Int} {n : Nat} : (rngD a n).length = n := by unfold rngD; simp
end Z
set_option Elab.async false
set_option linter.all false
set_option maxRecDepth 100000
set_option maxHeartbeats 2000000
namespace Z
open PySem PySem.Spec PyProof.Rows L2 TL

/-! ### texts -/
theorem sJoin_len (z : Str) : ∀ ys : List Str, (Str.join z ys).length ≤ (ys.map (·.length)).sum + ys.length * z.length
  | [] => Nat.zero_le _
  | [x] => by show x.length ≤ x.length + 0 + 1 * z.length; omega
  | x :: y :: r => by
    have ih := sJoin_len z (y :: r)
    show (x ++ z ++ Str.join z (y :: r)).length ≤ _
    rw [len_app, len_app, List.map_cons, List.sum_cons, List.length_cons, Nat.succ_mul]
    omega
theorem sum_le {B : Nat} : ∀ {ys : List Str}, (∀ y ∈ ys, y.length ≤ B) → (ys.map (·.length)).sum ≤ ys.length * B
  | [], _ => Nat.zero_le _
  | y :: ys, h => by
    have := sum_le fun z hz => h z (List.mem_cons_of_mem _ hz)
    have := h y (List.mem_cons_self ..)
    rw [List.map_cons, List.sum_cons, List.length_cons, Nat.succ_mul]
    omega
/-- texts of at most B signs -/
def isTx (B : Nat) (d : D) : Prop := ∃ x : Str, d = .str x ∧ x.length ≤ B
theorem strsD_of {B : Nat} : ∀ {ds : List D}, (∀ d ∈ ds, isTx B d) → ∃ ys, strsD ds = some ys ∧ ys.length = ds.length ∧ ∀ y ∈ ys, y.length ≤ B
  | [], _ => ⟨[], rfl, rfl, fun y hy => by cases hy⟩
  | d :: ds, h => by
    obtain ⟨x, rfl, hx⟩ := h d (List.mem_cons_self ..)
    obtain ⟨ys, e, hl, hy⟩ := strsD_of fun z hz => h z (List.mem_cons_of_mem _ hz)
    refine ⟨x :: ys, by rw [strsD, e]; rfl, by simp [hl], fun y hy' => ?_⟩
    rcases List.mem_cons.mp hy' with rfl | q
    · exact hx
    · exact hy y q
theorem join_ok {B N : Nat} {z : Str} {ds : List D} (h : ∀ d ∈ ds, isTx B d) (hN : ds.length ≤ N) (hz : N * (B + z.length) ≤ 16777216) : ∃ x : Str, meD .join (.str z) [.lst ds] = some (.str x) ∧ x.length ≤ N * (B + z.length) := by
  obtain ⟨ys, e, hl, hy⟩ := strsD_of h
  have h1 := sum_le hy
  have h2 : ys.length * B + ys.length * z.length ≤ N * (B + z.length) := by
    rw [← Nat.mul_add]; exact Nat.mul_le_mul_right _ (by omega)
  have h3 := sJoin_len z ys
  refine ⟨Txt.join z ys, ?_, ?_⟩
  · show (strsD ds).bind _ = _
    rw [e]
    show (if (ys.map (·.length)).sum + ys.length * z.length ≤ 16777216 then some (D.str (Txt.join z ys)) else none) = _
    rw [if_pos (by omega)]
  · rw [join_eq]; omega
/-- a text's sign by a number -/
theorem sgn_ok {x : Str} {i : Int} (h0 : 0 ≤ i) (h1 : i < x.length) : ∃ c ∈ x.cps.toList, (atI x.cps.toList i).map sgn = some (.str ⟨#[c]⟩) := by
  obtain ⟨c, e, hc⟩ := at_some (xs := x.cps.toList) h0 (by rw [Array.length_toList]; exact h1)
  exact ⟨c, hc, by rw [e]; rfl⟩
end Z
set_option Elab.async false
set_option linter.all false
set_option maxRecDepth 100000
set_option maxHeartbeats 2000000
namespace Z
open PySem PySem.Spec PyProof.Rows L2 TL

/-! ### what leaves the store as it is -/
def liftR {α : Type} (x : Res α) (st : Sto) : Res α := match x with
  | .ok a _ => .ok a st
  | .exc e _ => .exc e st
  | .stk => .stk
def Pur {α : Type} (m : M α) : Prop := ∀ st, m st = liftR (m none) st
section
variable {α β : Type}
theorem pu_ret {a : α} : Pur (ret a) := fun st => rfl
theorem pu_stk : Pur (stk : M α) := fun st => rfl
theorem pu_ofO {a : Option α} : Pur (ofO a) := by cases a <;> exact fun st => rfl
theorem pu_bnd {m : M α} {f : α → M β} (h : Pur m) (g : ∀ a, Pur (f a)) : Pur (bnd m f) := fun st => by
  show rsB (m st) f = liftR (rsB (m none) f) st
  rw [h st]
  cases e : m none with
  | ok a s => show f a st = liftR (f a s) st; rw [g a st, g a s]; cases f a none <;> rfl
  | exc e s => rfl
  | stk => rfl
theorem pu_nox {m : M α} (h : Pur m) : Pur (nox m) := fun st => by
  show rsX (m st) = liftR (rsX (m none)) st
  rw [h st]
  cases m none <;> rfl
theorem pu_ifD {x : D} {a b : M α} (h : Pur a) (g : Pur b) : Pur (ifD x a b) := by
  unfold ifD
  split
  · exact h
  · exact g
  · exact pu_stk
theorem pu_if {p : Prop} [Decidable p] {a b : M α} (h : Pur a) (g : Pur b) : Pur (if p then a else b) := by split <;> assumption
theorem pu_evB {m : M D} {vs : List Nat} {r : Ev} {o : List Nat} {k : D → List Nat → M Fl} (h : Pur m) (g : ∀ d o, Pur (k d o)) : Pur (evB m vs r o k) := fun st => by
  show rsE (m st) (flp o vs) r (offs o vs) k = liftR (rsE (m none) (flp o vs) r (offs o vs) k) st
  rw [h st]
  cases e : m none with
  | ok a s => show k a _ st = liftR (k a _ s) st; rw [g a _ st, g a _ s]; cases k a _ none <;> rfl
  | exc e s => rfl
  | stk => rfl
theorem pu_evBR {m : M D} {vs : List Nat} {r : Ev} {o : List Nat} {k : D → List Nat → M Fl} (h : Pur m) (g : ∀ d o, Pur (k d o)) : Pur (evBR m vs r o k) := fun st => by
  show rsE (m st) (fun _ => o) r (offs o vs) k = liftR (rsE (m none) (fun _ => o) r (offs o vs) k) st
  rw [h st]
  cases e : m none with
  | ok a s => show k a _ st = liftR (k a _ s) st; rw [g a _ st, g a _ s]; cases k a _ none <;> rfl
  | exc e s => rfl
  | stk => rfl
theorem pu_evBF {m : M D} {vs : List Nat} {r : Ev} {o : List Nat} {k : D → List Nat → M Fl} (h : Pur m) (g : ∀ d o, Pur (k d o)) : Pur (evBF m vs r o k) := fun st => by
  show rsE (m st) (fun _ => offs o vs) r (offs o vs) k = liftR (rsE (m none) (fun _ => offs o vs) r (offs o vs) k) st
  rw [h st]
  cases e : m none with
  | ok a s => show k a _ st = liftR (k a _ s) st; rw [g a _ st, g a _ s]; cases k a _ none <;> rfl
  | exc e s => rfl
  | stk => rfl
theorem pu_lcL {f : D → M (Option D)} (h : ∀ d, Pur (f d)) : ∀ ds : List D, Pur (lcL f ds)
  | [] => pu_ret
  | d :: ds => by rw [lcL_cons]; exact pu_bnd (h d) fun o => pu_bnd (pu_lcL h ds) fun _ => pu_ret
end
theorem pu_seqF {f : Fl} {k : Ev → List Nat → M Fl} (h : ∀ r o, Pur (k r o)) : Pur (seqF f k) := by
  cases f <;> first | exact h _ _ | exact pu_ret
theorem pu_forL {f : D → Ev → List Nat → M Fl} (h : ∀ d r o, Pur (f d r o)) : ∀ (ds : List D) (r : Ev) (o : List Nat), Pur (forL f ds r o)
  | [], r, o => pu_ret
  | d :: ds, r, o => by
    rw [forL_cons]
    refine pu_bnd (h d r o) fun x => ?_
    cases x <;> first | exact pu_forL h ds _ _ | exact pu_ret
theorem pu_whL {cnd : Ev → List Nat → (D → List Nat → M Fl) → M Fl} {f : Ev → List Nat → M Fl} (h : ∀ r o k, (∀ d o, Pur (k d o)) → Pur (cnd r o k)) (g : ∀ r o, Pur (f r o)) : ∀ (n : Nat) (r : Ev) (o : List Nat), Pur (whL cnd f n r o)
  | 0, r, o => pu_stk
  | n + 1, r, o => by
    refine h r o _ fun d o1 => ?_
    cases d <;> first | exact pu_stk | skip
    rename_i b
    cases b with
    | false => exact pu_ret
    | true =>
      refine pu_bnd (g r o1) fun x => ?_
      cases x <;> first | exact pu_whL h g n _ _ | exact pu_ret
theorem pu_tbl {t : Tg} {f : Ev → List Nat → M Fl} {d : D} {r : Ev} {o : List Nat} (h : ∀ r o, Pur (f r o)) : Pur (tbl t f d r o) := by
  unfold tbl
  split
  · exact pu_stk
  · exact h _ _
section
variable {c : Cal} (hc : ∀ f ds, Pur (c f ds))
include hc
mutual
theorem pu_ev : ∀ (e : E) (r : Ev), Pur (ev c e r)
  | .c d, r => by rw [ev_c]; exact pu_ret
  | .v i, r => by rw [ev_v]; exact pu_ofO
  | .bin o a b, r => by rw [ev_bin]; exact pu_bnd (pu_ev a r) fun _ => pu_bnd (pu_ev b r) fun _ => pu_ofO
  | .neg a, r => by rw [ev_neg]; exact pu_bnd (pu_ev a r) fun x => by cases x <;> first | exact pu_ret | exact pu_stk
  | .not a, r => by rw [ev_not]; exact pu_bnd (pu_ev a r) fun x => by cases x <;> first | exact pu_ret | exact pu_stk
  | .cmp o a b, r => by rw [ev_cmp]; exact pu_bnd (pu_ev a r) fun _ => pu_bnd (pu_ev b r) fun _ => pu_bnd pu_ofO fun _ => pu_ret
  | .chn o p a b d, r => by rw [ev_chn]; exact pu_bnd (pu_ev a r) fun _ => pu_bnd (pu_ev b r) fun _ => pu_bnd pu_ofO fun _ => pu_if (pu_bnd (pu_ev d r) fun _ => pu_bnd pu_ofO fun _ => pu_ret) pu_ret
  | .and a b, r => by rw [ev_and]; exact pu_bnd (pu_ev a r) fun _ => pu_ifD (pu_ev b r) pu_ret
  | .or a b, r => by rw [ev_or]; exact pu_bnd (pu_ev a r) fun _ => pu_ifD pu_ret (pu_ev b r)
  | .ite t a b, r => by rw [ev_ite]; exact pu_bnd (pu_ev t r) fun _ => pu_ifD (pu_ev a r) (pu_ev b r)
  | .ix a b, r => by rw [ev_ix]; exact pu_bnd (pu_ev a r) fun _ => pu_bnd (pu_ev b r) fun _ => pu_ofO
  | .sl a false false l h, r => by rw [ev_sl00]; exact pu_bnd (pu_ev a r) fun _ => pu_ofO
  | .sl a true false l h, r => by rw [ev_sl10]; exact pu_bnd (pu_ev a r) fun _ => pu_bnd (pu_ev l r) fun y => pu_bnd (by cases y <;> first | exact pu_ret | exact pu_stk) fun _ => pu_ofO
  | .sl a false true l h, r => by rw [ev_sl01]; exact pu_bnd (pu_ev a r) fun _ => pu_bnd (pu_ev h r) fun y => pu_bnd (by cases y <;> first | exact pu_ret | exact pu_stk) fun _ => pu_ofO
  | .sl a true true l h, r => by rw [ev_sl11]; exact pu_bnd (pu_ev a r) fun _ => pu_bnd (pu_ev l r) fun y => pu_bnd (by cases y <;> first | exact pu_ret | exact pu_stk) fun _ => pu_bnd (pu_ev h r) fun z => pu_bnd (by cases z <;> first | exact pu_ret | exact pu_stk) fun _ => pu_ofO
  | .rev a, r => by rw [ev_rev]; exact pu_bnd (pu_ev a r) fun x => by cases x <;> first | exact pu_ret | exact pu_stk
  | .tup es, r => by rw [ev_tup]; exact pu_bnd (pu_evs es r) fun _ => pu_ret
  | .lst es, r => by rw [ev_lst]; exact pu_bnd (pu_evs es r) fun _ => pu_ret
  | .dct ks es, r => by rw [ev_dct]; exact pu_bnd (pu_evs es r) fun _ => pu_ret
  | .call f es, r => by rw [ev_call]; exact pu_bnd (pu_evs es r) fun ds => hc f ds
  | .bi b es, r => by rw [ev_bi]; exact pu_bnd (pu_evs es r) fun _ => pu_ofO
  | .isi a t, r => by rw [ev_isi]; exact pu_bnd (pu_ev a r) fun _ => pu_bnd pu_ofO fun _ => pu_ret
  | .me m o es, r => by rw [ev_me]; exact pu_bnd (pu_ev o r) fun _ => pu_if (pu_bnd (pu_evs es r) fun _ => pu_ofO) pu_stk
  | .get o k d, r => by
    rw [ev_get]
    refine pu_bnd (pu_ev o r) fun x => pu_if (pu_bnd (pu_ev k r) fun y => pu_bnd (pu_ev d r) fun z => ?_) pu_stk
    cases x <;> first | exact pu_stk | skip
    show Pur (match keyOf y with | some key => ret _ | none => stk)
    cases keyOf y <;> first | exact pu_ret | exact pu_stk
  | .mk n es, r => by rw [ev_mk]; exact pu_bnd (pu_evs es r) fun _ => pu_ofO
  | .isc a n ns, r => by rw [ev_isc]; exact pu_bnd (pu_ev a r) fun _ => pu_ofO
  | .fld a n ns, r => by rw [ev_fld]; exact pu_bnd (pu_ev a r) fun _ => pu_ofO
  | .lc t w it cnd elt, r => by
    rw [ev_lc]
    exact pu_bnd (pu_ev it r) fun x => pu_bnd pu_ofO fun ds => pu_bnd (pu_lcL (fun d => pu_bnd pu_ofO fun r' => pu_bnd (pu_nox (pu_ev cnd r')) fun b => pu_ifD (pu_bnd (pu_nox (pu_ev elt r')) fun _ => pu_ret) pu_ret) ds) fun _ => pu_ret
theorem pu_evs : ∀ (es : List E) (r : Ev), Pur (evs c es r)
  | [], r => by rw [evs_0]; exact pu_ret
  | e :: es, r => by rw [evs_1]; exact pu_bnd (pu_ev e r) fun _ => pu_bnd (pu_evs es r) fun _ => pu_ret
end
variable {fu : Nat}
mutual
theorem pu_ex : ∀ (s : T) (r : Ev) (o : List Nat), Pur (ex c fu s r o)
  | .pass, r, o => by rw [ex_pass]; exact pu_ret
  | .brk, r, o => by rw [ex_brk]; exact pu_ret
  | .cnt, r, o => by rw [ex_cnt]; exact pu_ret
  | .bad, r, o => by rw [ex_bad]; exact pu_stk
  | .ret e, r, o => by rw [ex_ret]; exact pu_evB (pu_ev hc e r) fun _ _ => pu_ret
  | .retn e, r, o => by rw [ex_retn]; exact pu_evB (pu_ev hc e r) fun _ _ => pu_ret
  | .retv i, r, o => by
    rw [ex_retv, retF_d]
    cases getS r i <;> first | exact pu_ret | exact pu_stk
  | .retc t i, r, o => by
    rw [ex_retc]
    refine pu_evB (pu_ev hc t r) fun _ o => pu_ifD pu_ret ?_
    rw [retF_d]
    cases getS r i <;> first | exact pu_ret | exact pu_stk
  | .set t e, r, o => by rw [ex_set]; exact pu_evB (pu_ev hc e r) fun _ _ => pu_tbl fun _ _ => pu_ret
  | .own i e, r, o => by rw [ex_own]; exact pu_evB (pu_ev hc e r) fun d _ => by unfold ownF; exact pu_if pu_ret pu_ret
  | .par i j a b, r, o => by rw [ex_par]; exact pu_evB (pu_ev hc a r) fun _ _ => pu_evB (pu_ev hc b r) fun _ _ => pu_ret
  | .app i e, r, o => by
    rw [ex_app]
    refine pu_if (pu_evB (pu_ev hc e r) fun d o => ?_) pu_stk
    rw [appF_d]
    refine pu_if ?_ pu_stk
    cases getS r i <;> first | exact pu_stk | (rename_i x; cases x <;> first | exact pu_stk | exact pu_if pu_ret pu_stk)
  | .ext i e, r, o => by
    rw [ex_ext]
    refine pu_if (pu_evB (pu_ev hc e r) fun d o => ?_) pu_stk
    rw [extF_d]
    refine pu_if ?_ pu_stk
    cases getS r i <;> first | exact pu_stk | (rename_i x; cases x <;> first | exact pu_stk | (cases d <;> first | exact pu_stk | exact pu_if pu_ret pu_stk))
  | .pop i, r, o => by
    rw [ex_pop, popF_d]
    refine pu_if ?_ pu_stk
    cases getS r i <;> first | exact pu_stk | (rename_i x; cases x <;> first | exact pu_stk | exact pu_if pu_stk pu_ret)
  | .seti i k e, r, o => by
    rw [ex_seti]
    refine pu_evB (pu_ev hc e r) fun d o => pu_if (pu_evB (pu_ev hc k r) fun x o => ?_) pu_stk
    rw [setF_d]
    refine pu_if ?_ pu_stk
    cases getS r i <;> first | exact pu_stk | skip
    rename_i y
    cases y <;> first | exact pu_stk | skip
    rename_i ds
    cases x <;> first | exact pu_stk | skip
    rename_i j
    rw [setG_e]
    cases ixN ds.length j <;> first | exact pu_stk | exact pu_ret
  | .ex e, r, o => by rw [ex_ex]; exact pu_evB (pu_ev hc e r) fun _ _ => pu_ret
  | .raise e, r, o => by rw [ex_raise]; exact pu_evB (pu_ev hc e r) fun d _ => by cases d <;> first | exact pu_stk | exact pu_ret
  | .tryk b n i j ns, r, o => by rw [ex_tryk]; exact pu_bnd (pu_exs b r o) fun f => by cases f <;> first | exact pu_ret | exact pu_if (pu_if pu_ret pu_ret) pu_stk
  | .ite t a b, r, o => by rw [ex_ite]; exact pu_evB (pu_ev hc t r) fun _ _ => pu_ifD (pu_exs a r _) (pu_exs b r _)
  | .for_ t true it b, r, o => by rw [ex_forR]; exact pu_evBR (pu_ev hc it r) fun _ _ => pu_bnd pu_ofO fun ds => pu_forL (fun d r o => pu_tbl fun r o => pu_exs b r o) ds _ _
  | .for_ t false it b, r, o => by rw [ex_for]; exact pu_evBF (pu_ev hc it r) fun _ _ => pu_bnd pu_ofO fun ds => pu_forL (fun d r o => pu_tbl fun r o => pu_exs b r o) ds _ _
  | .while_ t b, r, o => by
    rw [ex]
    exact pu_whL (fun r o k hk => pu_evB (pu_ev hc t r) hk) (fun r o => pu_exs b r o) fu r o
theorem pu_exs : ∀ (ss : List T) (r : Ev) (o : List Nat), Pur (exs c fu ss r o)
  | [], r, o => by rw [exs_0]; exact pu_ret
  | s :: ss, r, o => by rw [exs_1]; exact pu_bnd (pu_ex s r o) fun f => pu_seqF fun r o => pu_exs ss r o
end
omit hc in
theorem pu_outR {f : M Fl} (h : Pur f) : Pur (outM f) := fun st => by
  show outR (f st) = liftR (outR (f none)) st
  rw [h st]
  cases e : f none with
  | ok a s => cases a <;> rfl
  | exc e s => rfl
  | stk => rfl
omit hc in
theorem pu_outN {f : M Fl} (h : Pur f) : Pur (outMN f) := fun st => by
  show outN (f st) = liftR (outN (f none)) st
  rw [h st]
  cases e : f none with
  | ok a s =>
    cases a <;> first | rfl | skip
    rename_i d
    show (if isMut d = true then Res.stk else Res.ok d st) = liftR (if isMut d = true then Res.stk else Res.ok d s) st
    split <;> rfl
  | exc e s => rfl
  | stk => rfl
theorem pu_runZ {n np : Nat} {body : List T} (ds : List D) : Pur (runZ c fu n np body ds) := by
  by_cases h : ds.length = np
  · rw [runZ_e h]; exact pu_outR (pu_exs hc _ _ _)
  · rw [show runZ c fu n np body ds = stk from funext fun st => if_neg h]; exact pu_stk
theorem pu_runN {n np : Nat} {body : List T} (ds : List D) : Pur (runN c fu n np body ds) := by
  by_cases h : ds.length = np
  · rw [runN_e h]; exact pu_outN (pu_exs hc _ _ _)
  · rw [show runN c fu n np body ds = stk from funext fun st => if_neg h]; exact pu_stk
end
theorem pu_cal {l : List (Str × (List D → M D))} (h : ∀ p ∈ l, ∀ ds, Pur (p.2 ds)) (f : Str) (ds : List D) : Pur (calOf l f ds) := by
  unfold calOf
  cases e : l.lookup f with
  | none => exact pu_stk
  | some g => exact h (f, g) (lookup_mem' e) ds
/-- .. is known by its run without a store -/
theorem pu_true {m : M D} (h : Pur m) {d : D} (e : m none = .ok d none) : m = ret d := funext fun st => by
  rw [h st, e]; rfl
def isT (m : M D) : Bool := match m none with
  | .ok (.bl true) none => true
  | _ => false
theorem pu_isT {m : M D} (h : Pur m) (e : isT m = true) : m = ret (.bl true) := by
  refine pu_true h ?_
  unfold isT at e
  split at e
  · assumption
  · cases e
theorem FnN.mono {P : Program} {w : World} {K : PySem.W.Frag} {mg : Str → Option Value} {base : Heap} {j k : Nat} {g : List D → M D} {f : Str} (F : FnN P w K mg base j g f) (h : j ≤ k) : FnN P w K mg base k g f := by
  obtain ⟨fa, fd, ps, a, b, c, d, e⟩ := F.ex
  exact ⟨fa, fd, ps, a, b, c, d.mono h, e⟩
end Z
set_option Elab.async false
set_option linter.all false
set_option maxRecDepth 100000
set_option maxHeartbeats 2000000
namespace Z
open PySem PySem.Spec PyProof.Rows L2 TL

/-! ### what the written part says of the classes of refusals -/
def clsDef (s : Stmt) : Stmt := match s with
  | .ClassDef _ _ _ (b :: _) _ _ _ _ _ _ _ => b
  | s => s
def excCB (K : PySem.W.Frag) (D : Addr) : Bool :=
  decide (PySem.W.findIn K (.ref D) "__getattribute__" = some (some (.builtin "BaseException.__getattribute__"))) && (decide (PySem.W.findIn K (.ref D) "__getattr__" = some none) && (decide (PySem.W.subIn K (.ref D) (.type "BaseException") = some true) && (PySem.W.hasDictIn K D &&
  (decide (PySem.W.findIn K (.ref D) "__class__" = some (some (.builtin "object.__class__"))) && (decide (PySem.W.specialIn K (.builtin "object.__class__") "__get__" = some (some (.builtin "getset_descriptor.__get__"))) && (decide (PySem.W.takesIn K (.builtin "object.__class__") = some true) && decide (PySem.W.mroIn K D (.type "object") = some true)))))))
theorem excCB_ok {K : PySem.W.Frag} {D : Addr} (h : excCB K D = true) : ExcC K D := by
  unfold excCB at h
  simp only [Bool.and_eq_true, decide_eq_true_eq] at h
  obtain ⟨h1, h2, h3, h4, h5, h6, h7, h8⟩ := h
  exact ⟨h1, h2, h3, h4, h5, h6, h7, h8⟩
def oexB (K : PySem.W.Frag) (C : Addr) : Bool := (match K.lookup C with
  | some ⟨.type t, _, .cls cd, sl⟩ => decide (t = "type") && (match cd.mro, sl.toList with
    | .ref C' :: bm, [_, _, _, _, some (.builtin n), _] => decide (C' = C) && decide (n = "ValueError.__new__") && !cd.hasDel && cd.hasDict && PySem.HandSPX.refsVE bm
    | _, _ => false)
  | _ => false) && (decide (PySem.W.findIn K (.ref C) "__setattr__" = some (some (.builtin "object.__setattr__"))) && (decide (PySem.W.subIn K (.ref C) (.type "BaseException") = some true) && (decide (PySem.W.typeIn K (.ref C) = some (.type "type")) && PySem.W.keepIn K (.ref C))))
theorem oexB_ok {K : PySem.W.Frag} {C : Addr} (h : oexB K C = true) : OexC K C := by
  unfold oexB at h
  rw [Bool.and_eq_true] at h
  obtain ⟨h0, h⟩ := h
  simp only [Bool.and_eq_true, decide_eq_true_eq] at h
  obtain ⟨h1, h2, h3, h4⟩ := h
  refine ⟨?_, h1, h2, h3, h4⟩
  split at h0
  · rename_i t dd cd sl ho
    rw [Bool.and_eq_true, decide_eq_true_eq] at h0
    obtain ⟨rfl, h0⟩ := h0
    split at h0
    · rename_i C' bm k0 k1 k2 k3 n k5 hm hs
      simp only [Bool.and_eq_true, decide_eq_true_eq, Bool.not_eq_true'] at h0
      obtain ⟨⟨⟨⟨rfl, rfl⟩, hdel⟩, hdct⟩, ht⟩ := h0
      obtain ⟨nm, bs, mro, ns, qn, hd, sn, sub, ab, col, del⟩ := cd
      dsimp only at hm hdel hdct
      subst hm hdel hdct
      have hsl : sl = #[k0, k1, k2, k3, some (.builtin "ValueError.__new__"), k5] := by
        obtain ⟨l⟩ := sl
        simp only at hs
        rw [hs]
      subst hsl
      exact ⟨nm, qn, ns, bs, bm, sn, sub, ab, col, dd, k0, k1, k2, k3, k5, ho, ht⟩
    · cases h0
  · cases h0
def xcB (K : PySem.W.Frag) (n : Str) (fs : List Str) : Bool :=
  PySem.W.keepIn K (.ref (He.ga K n)) && (excCB K (He.ga K n) && (decide (PySem.W.typeIn K (.ref (He.ga K n)) = some (.type "type")) && ((fs.all fun f => decide (PySem.W.findIn K (.ref (He.ga K n)) f = some none)) &&
  (if fs.isEmpty = true then PySem.W.excIn K (He.ga K n) He.veBase "ValueError.__new__" else oexB K (He.ga K n) && (decide (PySem.W.findIn K (.ref (He.ga K n)) "__init__" = some (some (.ref (He.ma K (He.ga K n) "__init__")))) && PySem.W.isFn K (.ref (He.ma K (He.ga K n) "__init__")))))))
def xpB (K : PySem.W.Frag) (ns : List Str) : Bool := ns.all fun n => decide (PySem.W.kitOne K (.ref (He.ga K n)) (.type "ValueError") = some true) && (ns.all fun m =>
  decide (PySem.W.kitOne K (.ref (He.ga K n)) (.ref (He.ga K m)) = some (isub n m)) && decide (PySem.W.exmOne K (.ref (He.ga K n)) (.ref (He.ga K m)) = some (isub n m)))
def xsB (K : PySem.W.Frag) (ns : List Str) : Bool := xpB K ns && ns.all fun n => (match exTab.lookup n with | some fs => xcB K n fs | none => false)
theorem xc_of {P : Program} {w : World} {K : PySem.W.Frag} {mg : Str → Option Value} {base : Heap} {n : Str} {fs : List Str} (hm : mg n = some (.ref (He.ga K n))) (h : xcB K n fs = true)
    (hi : fs ≠ [] → ∃ fd ps, Binds K fd ps [] ∧ FnOk P w K mg base (L2.CX P w) 1 (He.ma K (He.ga K n) "__init__") fd ps (spI K (He.ga K n) fs)) : XcOk P w K mg base n fs := by
  unfold xcB at h
  simp only [Bool.and_eq_true, decide_eq_true_eq] at h
  obtain ⟨h1, h2, h3, h4, h5⟩ := h
  refine ⟨hm, h1, excCB_ok h2, h3, fun z => ?_, fun z => ?_, fun f hf => by simpa using List.all_eq_true.mp h4 f hf⟩
  · subst z
    simpa using h5
  · have : fs.isEmpty = false := by cases fs <;> first | exact absurd rfl z | rfl
    rw [this, if_neg (by decide)] at h5
    simp only [Bool.and_eq_true, decide_eq_true_eq] at h5
    obtain ⟨o1, o2, o3⟩ := h5
    obtain ⟨fd, ps, q1, q2⟩ := hi z
    refine ⟨_, fd, ps, oexB_ok o1, o2, ?_, q1, q2⟩
    unfold PySem.W.isFn at o3
    exact beq_iff_eq.mp o3
theorem xs_of {P : Program} {w : World} {K : PySem.W.Frag} {mg : Str → Option Value} {base : Heap} {ns : List Str} (h : xsB K ns = true) (hm : ∀ n ∈ ns, mg n = some (.ref (He.ga K n)))
    (hi : ∀ n ∈ ns, ∀ fs, exTab.lookup n = some fs → fs ≠ [] → ∃ fd ps, Binds K fd ps [] ∧ FnOk P w K mg base (L2.CX P w) 1 (He.ma K (He.ga K n) "__init__") fd ps (spI K (He.ga K n) fs)) : Xs P w K mg base ns := by
  unfold xsB at h
  rw [Bool.and_eq_true] at h
  have h1 := h.1
  unfold xpB at h1
  rw [List.all_eq_true] at h1
  have h2 := List.all_eq_true.mp h.2
  refine ⟨fun n hn => ?_, fun n hn => ?_, fun n hn m hm2 => ?_⟩
  · have q := h2 n hn
    cases e : exTab.lookup n with
    | none => rw [e] at q; cases q
    | some fs => rw [e] at q; exact ⟨fs, rfl, xc_of (hm n hn) q (hi n hn fs e)⟩
  · have q := h1 n hn
    rw [Bool.and_eq_true, decide_eq_true_eq] at q
    exact q.1
  · have q := h1 n hn
    rw [Bool.and_eq_true, List.all_eq_true] at q
    have q := q.2 m hm2
    simpa using q
/-! ### for the evaluator -/
theorem mkD_0 {n : Str} {d : D} (h : exTab.lookup n = some []) : mkD n [d] = some (.exn n []) := by unfold mkD mkX; rw [h]; rfl
theorem iscD_e {n c : Str} {ns : List Str} {fs : List (Str × D)} (h : ns.contains c = true) : iscD n ns (.exn c fs) = some (.bl (isub c n)) := if_pos h
theorem fldD_e {f c : Str} {ns : List Str} {fs : List (Str × D)} (h : (ns.contains c && ((exTab.lookup c).getD []).contains f) = true) : fldD f ns (.exn c fs) = fs.lookup f := if_pos h
end Z
set_option Elab.async false
set_option linter.all false
set_option maxRecDepth 100000
set_option maxHeartbeats 2000000
namespace Z
open PySem PySem.Spec PyProof.Rows L2 TL

/-! ### repr of what is made of small numbers and texts -/
mutual
def nic : D → Bool
  | .non | .bl _ => true
  | .int i => decide (i.natAbs < 10 ^ 12)
  | .str x => PyData.strOk x
  | .tup ds | .lst ds => nics ds
  | .dct _ | .scr _ | .obj _ | .exn _ _ => false
def nics : List D → Bool
  | [] => true
  | d :: ds => nic d && nics ds
end
mutual
theorem nic_plain : ∀ d : D, nic d = true → plain d = true
  | .non, _ => rfl
  | .bl _, _ => rfl
  | .int _, _ => rfl
  | .str _, _ => rfl
  | .tup ds, h => by rw [plain]; rw [nic] at h; exact nics_plain ds h
  | .lst ds, h => by rw [plain]; rw [nic] at h; exact nics_plain ds h
theorem nics_plain : ∀ ds : List D, nics ds = true → plains ds = true
  | [], _ => rfl
  | d :: ds, h => by
    rw [nics, Bool.and_eq_true] at h
    rw [plains, nic_plain d h.1, nics_plain ds h.2]; rfl
end
mutual
theorem nic_short : ∀ d : D, nic d = true → (toPy d).leavesShort 13 = true ∧ (toPy d).showable = true ∧ (toPy d).hasDict = false
  | .non, _ => ⟨rfl, rfl, rfl⟩
  | .bl _, _ => ⟨rfl, rfl, rfl⟩
  | .int i, h => by
    rw [nic, decide_eq_true_eq] at h
    refine ⟨?_, ?_, rfl⟩
    · rw [toPy, PyData.leavesShort, decide_eq_true_eq]; exact PyData.shown_int_le h
    · rw [toPy, PyData.showable, decide_eq_true_eq]
      by_cases z : i.natAbs = 0
      · rw [z]; decide
      · have h1 : i.natAbs < 2 ^ 1920 := Nat.lt_of_lt_of_le h (by decide +kernel)
        exact (Nat.log2_lt z).mpr h1
  | .str x, h => by
    rw [nic] at h
    refine ⟨?_, rfl, rfl⟩
    rw [toPy, PyData.leavesShort, List.all_eq_true]
    intro c hc
    have := strOk_mem.mp h c hc
    rw [decide_eq_true_eq]
    omega
  | .tup ds, h => by
    rw [nic] at h
    obtain ⟨a, b, c⟩ := nics_short ds h
    exact ⟨by rw [toPy, PyData.leavesShort]; exact a, by rw [toPy, PyData.showable]; exact b, by rw [toPy, PyData.hasDict]; exact c⟩
  | .lst ds, h => by
    rw [nic] at h
    obtain ⟨a, b, c⟩ := nics_short ds h
    exact ⟨by rw [toPy, PyData.leavesShort]; exact a, by rw [toPy, PyData.showable]; exact b, by rw [toPy, PyData.hasDict]; exact c⟩
theorem nics_short : ∀ ds : List D, nics ds = true → PyData.leavesShortAll 13 (toPys ds) = true ∧ PyData.showableAll (toPys ds) = true ∧ PyData.hasDictAll (toPys ds) = false
  | [], _ => ⟨rfl, rfl, rfl⟩
  | d :: ds, h => by
    rw [nics, Bool.and_eq_true] at h
    obtain ⟨a, b, c⟩ := nic_short d h.1
    obtain ⟨a2, b2, c2⟩ := nics_short ds h.2
    exact ⟨by rw [toPys, PyData.leavesShortAll, a, a2]; rfl, by rw [toPys, PyData.showableAll, b, b2]; rfl, by rw [toPys, PyData.hasDictAll, c, c2]; rfl⟩
end
def okS (x : Str) : Prop := ∀ c ∈ x.cps.toList, c < 0x110000
theorem okS_app {x y : Str} (h : okS x) (k : okS y) : okS (x ++ y) := fun c hc => by
  have hc' : c ∈ (x.cps ++ y.cps).toList := hc
  rw [Array.toList_append] at hc'
  exact (List.mem_append.mp hc').elim (h c) (k c)
theorem okS_of (s : String) : okS s := fun c hc => by
  have hc' : c ∈ (Str.ofString s).cps.toList := hc
  rw [Str.ofString_eq_toList] at hc'
  obtain ⟨ch, _, rfl⟩ := List.mem_map.mp (show c ∈ s.toList.map Char.toNat from by simpa using hc')
  have := ch.valid
  rcases this with h | h
  · have h' : ch.toNat < 0xd800 := h
    omega
  · exact h.2
theorem okS_join {z : Str} (hz : okS z) : ∀ {ys : List Str}, (∀ y ∈ ys, okS y) → okS (Str.join z ys)
  | [], _ => fun c hc => by cases hc
  | [x], h => h x (by simp)
  | x :: y :: r, h => by
    show okS (x ++ z ++ Str.join z (y :: r))
    exact okS_app (okS_app (h x (by simp)) hz) (okS_join hz fun y hy => h y (List.mem_cons_of_mem _ hy))
theorem reprChar_ok {q c d : Nat} (hc : c < 0x110000) (h : d ∈ Builtin.Str.reprChar q c) : d < 0x110000 := by
  have hex : ∀ w, d ∈ List.replicate (w - ((Nat.toDigits 16 c).map Char.toNat).length) 48 ++ (Nat.toDigits 16 c).map Char.toNat → d < 0x110000 := fun w h => by
    rcases List.mem_append.mp h with h | h
    · rw [(List.mem_replicate.mp h).2]; decide
    · obtain ⟨ch, _, rfl⟩ := List.mem_map.mp h
      rcases ch.valid with h | h
      · have h' : ch.toNat < 0xd800 := h
        omega
      · exact h.2
  unfold Builtin.Str.reprChar at h
  dsimp only at h
  have two : ∀ {a b : Nat} {l : List Nat}, a < 0x110000 → b < 0x110000 → (d ∈ l → d < 0x110000) → d ∈ [a, b] ++ l → d < 0x110000 := fun ha hb hl h => by
    rcases List.mem_append.mp h with h | h
    · simp only [List.mem_cons, List.not_mem_nil, or_false] at h
      rcases h with rfl | rfl
      · exact ha
      · exact hb
    · exact hl h
  repeat' split at h
  all_goals first
    | exact two (by decide) (by decide) (hex _) h
    | (simp only [List.mem_cons, List.not_mem_nil, or_false] at h; omega)
theorem foldl_ok {q : Nat} : ∀ (l : List Nat) (acc : Array Nat), (∀ c ∈ l, c < 0x110000) → (∀ c ∈ acc.toList, c < 0x110000) → ∀ c ∈ (l.foldl (fun out c => out ++ (Builtin.Str.reprChar q c).toArray) acc).toList, c < 0x110000
  | [], _, _, h => h
  | x :: l, acc, h1, h2 => by
    rw [List.foldl_cons]
    refine foldl_ok l _ (fun c hc => h1 c (List.mem_cons_of_mem _ hc)) fun c hc => ?_
    rw [Array.toList_append] at hc
    rcases List.mem_append.mp hc with hc | hc
    · exact h2 c hc
    · exact reprChar_ok (h1 x (by simp)) (by simpa using hc)
theorem quote_ok (x : Str) : reprQuote x < 0x110000 := by unfold reprQuote; split <;> decide
theorem okS_repr {x : Str} (h : okS x) : okS (reprText x) := by
  unfold reprText okS
  show ∀ c ∈ ((x.cps.foldl (fun out c => out ++ (Builtin.Str.reprChar (reprQuote x) c).toArray) #[reprQuote x]).push (reprQuote x)).toList, c < 0x110000
  intro c hc
  rw [Array.toList_push, ← Array.foldl_toList] at hc
  rcases List.mem_append.mp hc with hc | hc
  · exact foldl_ok _ _ h (fun d hd => by
      have : d = reprQuote x := by simpa using hd
      rw [this]; exact quote_ok x) c hc
  · rw [List.mem_singleton.mp hc]; exact quote_ok x
mutual
theorem shown_okS : ∀ d : D, nic d = true → okS (toPy d).shown
  | .non, _ => okS_of "None"
  | .bl true, _ => okS_of "True"
  | .bl false, _ => okS_of "False"
  | .int i, _ => okS_of (toString i)
  | .str x, h => by rw [nic] at h; exact okS_repr (strOk_mem.mp h)
  | .tup ds, h => by
    rw [nic] at h
    rw [toPy, PyData.shown_tuple]
    refine okS_app (okS_app (okS_of "(") (okS_join (okS_of ", ") (showns_okS ds h))) ?_
    split
    · exact okS_of ",)"
    · exact okS_of ")"
  | .lst ds, h => by
    rw [nic] at h
    rw [toPy, PyData.shown_list]
    exact okS_app (okS_app (okS_of "[") (okS_join (okS_of ", ") (showns_okS ds h))) (okS_of "]")
theorem showns_okS : ∀ ds : List D, nics ds = true → ∀ y ∈ PyData.shownAll (toPys ds), okS y
  | [], _ => fun y hy => by cases hy
  | d :: ds, h => by
    rw [nics, Bool.and_eq_true] at h
    intro y hy
    rw [toPys, PyData.shownAll_cons] at hy
    rcases List.mem_cons.mp hy with rfl | hy
    · exact shown_okS d h.1
    · exact showns_okS ds h.2 y hy
end
/-- how a thing is shown -/
def SH (d : D) : Str := (toPy d).shown
/-- small enough to be shown, compared -/
structure Nic (d : D) : Prop where
  n : nic d = true
  dp : (toPy d).depth ≤ 60
  wt : (toPy d).weight ≤ 2 ^ 20
theorem reprD_ok {d : D} (h : Nic d) : reprD d = some (.str (SH d)) := by
  obtain ⟨a, b, c⟩ := nic_short d h.n
  have hl := PyData.shown_fits (B := 13) (by decide) (by decide) a h.wt
  have ho : PyData.strOk (toPy d).shown = true := strOk_mem.mpr (shown_okS d h.n)
  unfold reprD
  rw [if_pos (by simp [nic_plain d h.n, b, c, h.dp, ho, hl])]; rfl
theorem repr_nic {d : D} (h : Nic d) : biD .repr [d] = some (.str (SH d)) := by
  have hn := h.n
  cases d with
  | non => rfl
  | bl b => cases b <;> rfl
  | int i =>
    have := (nic_short (.int i) hn).2.1
    rw [toPy, PyData.showable, decide_eq_true_eq] at this
    exact if_pos this
  | str x =>
    obtain ⟨a, b, c⟩ := nic_short (.str x) hn
    have hl := PyData.shown_fits (B := 13) (by decide) (by decide) a h.wt
    have ho : PyData.strOk (toPy (.str x)).shown = true := strOk_mem.mpr (shown_okS (.str x) hn)
    exact if_pos ⟨ho, hl⟩
  | tup ds => exact reprD_ok h
  | lst ds => exact reprD_ok h
  | dct _ => cases hn
  | scr _ => cases hn
  | obj _ => cases hn
  | exn _ _ => cases hn
theorem eq_self_nic {d : D} (h : Nic d) : eqD d d = some true := eqD_self (nic_plain d h.n) (plain_py d (nic_plain d h.n)) (Nat.le_trans h.dp (by decide))
theorem nic_int {i : Int} (h : i.natAbs < 10 ^ 12) : Nic (.int i) := ⟨by rw [nic]; exact decide_eq_true h, (show (0 : Nat) ≤ 60 by decide), by
  show PyData.weight (.int i) ≤ _
  rw [PyData.weight]
  split
  · decide
  · rename_i z
    have z' : i.natAbs ≠ 0 := fun e => z (by simp [Int.natAbs_eq_zero.mp e])
    have := (Nat.log2_lt z' (k := 40)).mpr (Nat.lt_of_lt_of_le h (by decide))
    omega⟩
/-- .. by bounds of depth and weight -/
structure NB (k w : Nat) (d : D) : Prop where
  n : nic d = true
  dp : (toPy d).depth ≤ k
  wt : (toPy d).weight ≤ w
theorem NB.nic {k w : Nat} {d : D} (h : NB k w d) (hk : k ≤ 60) (hw : w ≤ 2 ^ 20) : Nic d := ⟨h.n, Nat.le_trans h.dp hk, Nat.le_trans h.wt hw⟩
theorem NB.mono {k w k' w' : Nat} {d : D} (h : NB k w d) (hk : k ≤ k') (hw : w ≤ w') : NB k' w' d := ⟨h.n, Nat.le_trans h.dp hk, Nat.le_trans h.wt hw⟩
theorem nb_non : NB 0 0 .non := ⟨rfl, Nat.le_refl 0, Nat.le_refl 0⟩
theorem nb_bl {b : Bool} : NB 0 0 (.bl b) := ⟨rfl, Nat.le_refl 0, Nat.le_refl 0⟩
theorem nb_int {i : Int} (h : i.natAbs < 10 ^ 12) : NB 0 40 (.int i) := ⟨(nic_int h).n, (show (0 : Nat) ≤ 0 by decide), by
  show PyData.weight (.int i) ≤ _
  rw [PyData.weight]
  split
  · decide
  · rename_i z
    have z' : i.natAbs ≠ 0 := fun e => z (by simp [Int.natAbs_eq_zero.mp e])
    have := (Nat.log2_lt z' (k := 40)).mpr (Nat.lt_of_lt_of_le h (by decide))
    omega⟩
theorem nb_str {x : Str} {L : Nat} (h : PyData.strOk x = true) (hl : x.length ≤ L) : NB 0 L (.str x) := ⟨h, Nat.le_refl 0, hl⟩
theorem nbs {k w : Nat} : ∀ {ds : List D}, (∀ d ∈ ds, NB k w d) → nics ds = true ∧ PyData.depthAll (toPys ds) ≤ k ∧ PyData.weightAll (toPys ds) ≤ ds.length * (w + 1)
  | [], _ => ⟨rfl, Nat.zero_le _, Nat.zero_le _⟩
  | d :: ds, h => by
    obtain ⟨a, b, c⟩ := nbs fun e he => h e (List.mem_cons_of_mem _ he)
    have q := h d (by simp)
    refine ⟨by rw [nics, q.n, a]; rfl, ?_, ?_⟩
    · show max (toPy d).depth (PyData.depthAll (toPys ds)) ≤ k
      exact Nat.max_le.mpr ⟨q.dp, b⟩
    · show (toPy d).weight + 1 + PyData.weightAll (toPys ds) ≤ _
      have := q.wt
      rw [List.length_cons, Nat.succ_mul]
      omega
theorem nb_lst {k w n : Nat} {ds : List D} (h : ∀ d ∈ ds, NB k w d) (hn : ds.length ≤ n) : NB (k + 1) (n * (w + 1)) (.lst ds) := by
  obtain ⟨a, b, c⟩ := nbs h
  exact ⟨by rw [Z.nic]; exact a, (show PyData.depthAll (toPys ds) + 1 ≤ k + 1 by omega), Nat.le_trans c (Nat.mul_le_mul_right _ hn)⟩
theorem nb_tup {k w n : Nat} {ds : List D} (h : ∀ d ∈ ds, NB k w d) (hn : ds.length ≤ n) : NB (k + 1) (n * (w + 1)) (.tup ds) := by
  obtain ⟨a, b, c⟩ := nbs h
  exact ⟨by rw [Z.nic]; exact a, (show PyData.depthAll (toPys ds) + 1 ≤ k + 1 by omega), Nat.le_trans c (Nat.mul_le_mul_right _ hn)⟩
end Z
set_option Elab.async false
set_option linter.all false
set_option maxRecDepth 100000
set_option maxHeartbeats 0
namespace L
open PySem PySem.Spec PyProof.Rows L2 Z
def top (i : Nat) : Stmt := PySem.Challenge.pw_liftloft_k85_refusals_made.main.body.getD i (.Pass ⟨0, 0, 0, 0⟩)
def S0_ : Str := ⟨#[]⟩
def S__law_draw : Str := ⟨#[95, 108, 97, 119, 95, 100, 114, 97, 119]⟩
def S_xy : Str := ⟨#[120, 121]⟩
def S3_ : Str := ⟨#[32]⟩
def S_Z : Str := ⟨#[90]⟩
def S_9 : Str := ⟨#[57]⟩
def S6_ : Str := ⟨#[10]⟩
def S7_ : Str := ⟨#[45]⟩
def S_lift : Str := ⟨#[108, 105, 102, 116]⟩
def S_BadTable : Str := ⟨#[66, 97, 100, 84, 97, 98, 108, 101]⟩
def S_BadSide : Str := ⟨#[66, 97, 100, 83, 105, 100, 101]⟩
def S_BadLengths : Str := ⟨#[66, 97, 100, 76, 101, 110, 103, 116, 104, 115]⟩
def S_BadDeed : Str := ⟨#[66, 97, 100, 68, 101, 101, 100]⟩
def S_TooGreat : Str := ⟨#[84, 111, 111, 71, 114, 101, 97, 116]⟩
def S_BadScript : Str := ⟨#[66, 97, 100, 83, 99, 114, 105, 112, 116]⟩
def S_BadRun : Str := ⟨#[66, 97, 100, 82, 117, 110]⟩
def S_BadOrder : Str := ⟨#[66, 97, 100, 79, 114, 100, 101, 114]⟩
def S_BadPaper : Str := ⟨#[66, 97, 100, 80, 97, 112, 101, 114]⟩
def S_NotStraight : Str := ⟨#[78, 111, 116, 83, 116, 114, 97, 105, 103, 104, 116]⟩
def S_Unfit : Str := ⟨#[85, 110, 102, 105, 116]⟩
def S_BadProgram : Str := ⟨#[66, 97, 100, 80, 114, 111, 103, 114, 97, 109]⟩
def S_BadInputs : Str := ⟨#[66, 97, 100, 73, 110, 112, 117, 116, 115]⟩
def S_BadRow : Str := ⟨#[66, 97, 100, 82, 111, 119]⟩
def S__law_begun : Str := ⟨#[95, 108, 97, 119, 95, 98, 101, 103, 117, 110]⟩
def S__law_signs : Str := ⟨#[95, 108, 97, 119, 95, 115, 105, 103, 110, 115]⟩
def S__law_given : Str := ⟨#[95, 108, 97, 119, 95, 103, 105, 118, 101, 110]⟩
def S__law_made : Str := ⟨#[95, 108, 97, 119, 95, 109, 97, 100, 101]⟩
def S__law_classes : Str := ⟨#[95, 108, 97, 119, 95, 99, 108, 97, 115, 115, 101, 115]⟩
def S_LiftError : Str := ⟨#[76, 105, 102, 116, 69, 114, 114, 111, 114]⟩
def S_ValueError : Str := ⟨#[86, 97, 108, 117, 101, 69, 114, 114, 111, 114]⟩
def S_row : Str := ⟨#[114, 111, 119]⟩
def S_place : Str := ⟨#[112, 108, 97, 99, 101]⟩
def S_word : Str := ⟨#[119, 111, 114, 100]⟩
def S__law_mixed : Str := ⟨#[95, 108, 97, 119, 95, 109, 105, 120, 101, 100]⟩
def S__law_folded : Str := ⟨#[95, 108, 97, 119, 95, 102, 111, 108, 100, 101, 100]⟩
def xcs0 : List Str := ["LiftError", "BadTable", "BadSide", "BadLengths", "BadDeed", "TooGreat", "BadScript", "BadRun", "BadOrder", "BadPaper", "NotStraight", "Unfit"]
def xcs : List Str := [S_LiftError, S_BadTable, S_BadSide, S_BadLengths, S_BadDeed, S_TooGreat, S_BadProgram, S_BadInputs, S_BadRow, S_BadScript, S_BadRun, S_BadOrder, S_BadPaper, S_NotStraight, S_Unfit]
def gl : List (Str × D) := []
/-! ### the bodies -/
def b_law_mixed : List T := [(.set (.nm 2) (.bin .add (.bin .add (.bin .mod (.bin .mul (.bin .mul (.v 0) (.bin .add (.c (.int 1)) (.bin .mul (.c (.int 2)) (.v 1)))) (.c (.int 48271))) (.c (.int 2147483647))) (.bin .mul (.bin .mul (.c (.int 7919)) (.v 1)) (.v 1))) (.bin .mul (.c (.int 104729)) (.v 1)))), (.ret (.bin .fdiv (.bin .mod (.bin .mul (.v 2) (.c (.int 69621))) (.c (.int 2147483629))) (.c (.int 7))))]
def b_law_folded : List T := [(.own 1 (.lc (.nm 2) [2] (.bi .range [(.c (.int 64))]) (.c (.bl true)) (.bin .add (.c (.int 17)) (.v 2)))), (.for_ (.tp [(.nm 2), (.nm 3)]) false (.bi .enumerate [(.v 0)]) [(.seti 1 (.bin .mod (.v 2) (.c (.int 64))) (.bin .mod (.bin .add (.bin .mul (.ix (.v 1) (.bin .mod (.v 2) (.c (.int 64)))) (.c (.int 48271))) (.v 3)) (.c (.int 2147483647))))]), (.for_ (.nm 2) true (.bi .range [(.c (.int 1)), (.c (.int 64))]) [(.seti 1 (.v 2) (.bin .mod (.bin .add (.ix (.v 1) (.v 2)) (.bin .mul (.ix (.v 1) (.bin .sub (.v 2) (.c (.int 1)))) (.c (.int 16807)))) (.c (.int 2147483647))))]), (.retv 1)]
def b_law_signs : List T := [(.ret (.me .join (.c (.str S0_)) [(.lc (.nm 1) [1] (.bi .range [(.call S__law_draw [(.v 0), (.c (.int 6))])]) (.c (.bl true)) (.ix (.lst [(.c (.str S_xy)), (.c (.str S3_)), (.c (.str S_Z)), (.c (.str S_9)), (.c (.str S6_)), (.c (.str S7_)), (.c (.str S_lift))]) (.call S__law_draw [(.v 0), (.c (.int 7))])))]))]
def b_law_given : List T := [(.ret (.ix (.lst [(.c (.int 0)), (.c (.int 1)), (.c (.int 9)), (.c (.int 10)), (.call S__law_draw [(.v 0), (.c (.int 400))])]) (.call S__law_draw [(.v 0), (.c (.int 5))])))]
def b_law_classes : List T := [(.own 1 (.lst [(.isc (.v 0) S_BadTable xcs), (.isc (.v 0) S_BadSide xcs), (.isc (.v 0) S_BadLengths xcs), (.isc (.v 0) S_BadDeed xcs)])), (.set (.nm 1) (.bin .add (.v 1) (.lst [(.isc (.v 0) S_TooGreat xcs), (.isc (.v 0) S_BadScript xcs), (.isc (.v 0) S_BadRun xcs), (.isc (.v 0) S_BadOrder xcs)]))), (.set (.nm 1) (.bin .add (.v 1) (.lst [(.isc (.v 0) S_BadPaper xcs), (.isc (.v 0) S_NotStraight xcs), (.isc (.v 0) S_Unfit xcs)]))), (.set (.nm 1) (.bin .add (.v 1) (.lst [(.isc (.v 0) S_BadProgram xcs), (.isc (.v 0) S_BadInputs xcs), (.isc (.v 0) S_BadRow xcs)]))), (.retn (.lc (.tp [(.nm 2), (.nm 3)]) [2, 3] (.bi .enumerate [(.v 1)]) (.v 3) (.v 2)))]
def b_law_made : List T := [(.own 4 (.lst [(.mk S_BadTable [(.v 0)]), (.mk S_BadSide [(.v 0)]), (.mk S_BadLengths [(.v 0)]), (.mk S_BadDeed [(.v 0)]), (.mk S_TooGreat [(.v 0)]), (.mk S_BadScript [(.v 0)])])), (.set (.nm 4) (.bin .add (.v 4) (.lst [(.mk S_BadRun [(.v 0)]), (.mk S_BadOrder [(.v 0)]), (.mk S_BadPaper [(.v 0)]), (.mk S_NotStraight [(.v 0)]), (.mk S_Unfit [(.v 0)])]))), (.ret (.bin .add (.v 4) (.lst [(.mk S_BadProgram [(.v 1)]), (.mk S_BadInputs [(.v 2)]), (.mk S_BadRow [(.v 1), (.v 3)])])))]
def b_law : List T := [(.set (.nm 1) (.call S__law_begun [(.v 0)])), (.for_ (.nm 2) true (.bi .range [(.c (.int 4))]) [(.par 3 4 (.call S__law_signs [(.v 1)]) (.call S__law_given [(.v 1)])), (.par 5 6 (.call S__law_given [(.v 1)]) (.call S__law_given [(.v 1)])), (.set (.nm 7) (.call S__law_made [(.v 3), (.v 4), (.v 5), (.v 6)])), (.ite (.cmp .ne (.lc (.nm 14) [14] (.v 7) (.c (.bl true)) (.call S__law_classes [(.v 14)])) (.lc (.nm 15) [15] (.bi .range [(.c (.int 14))]) (.c (.bl true)) (.lst [(.v 15)]))) [(.ret (.c (.bl false)))] []), (.own 8 (.lc (.nm 14) [14] (.v 7) (.c (.bl true)) (.and (.isc (.v 14) S_LiftError xcs) (.isc (.v 14) S_ValueError xcs)))), (.ite (.cmp .isin (.c (.bl false)) (.v 8)) [(.ret (.c (.bl false)))] []), (.par 9 10 (.sl (.call S__law_made [(.v 3), (.v 4), (.v 5), (.v 6)]) true false (.c (.int 11)) (.c .non)) (.sl (.v 7) true false (.c (.int 11)) (.c .non))), (.own 11 (.lst [(.fld (.ix (.v 9) (.c (.int 0))) S_row xcs), (.fld (.ix (.v 9) (.c (.int 1))) S_place xcs), (.fld (.ix (.v 9) (.c (.int 2))) S_row xcs), (.fld (.ix (.v 9) (.c (.int 2))) S_word xcs)])), (.ite (.or (.cmp .ne (.bi .repr [(.v 11)]) (.bi .repr [(.lst [(.v 4), (.v 5), (.v 4), (.v 6)])])) (.cmp .ne (.bi .repr [(.fld (.ix (.v 10) (.c (.int 2))) S_row xcs)]) (.bi .repr [(.v 4)]))) [(.ret (.c (.bl false)))] [])]), (.par 12 13 (.mk S_BadRow [(.c (.int 9)), (.c (.int 5))]) (.mk S_BadInputs [(.c .non)])), (.ret (.cmp .eq (.lst [(.fld (.v 12) S_row xcs), (.fld (.v 12) S_word xcs), (.fld (.mk S_BadProgram [(.c (.int 12))]) S_row xcs), (.fld (.mk S_BadInputs [(.c (.int 3))]) S_place xcs), (.fld (.v 13) S_place xcs)]) (.lst [(.c (.int 9)), (.c (.int 5)), (.c (.int 12)), (.c (.int 3)), (.c .non)])))]
/-! ### what they compute -/
abbrev lN_law_mixed : List (Str × (List D → M D)) := []
abbrev lZ_law_mixed : List (Str × (List D → M D)) := []
def g_law_mixed : List D → M D := runZ (calOf (lN_law_mixed ++ lZ_law_mixed)) 100000 3 2 b_law_mixed
abbrev lN_law_folded : List (Str × (List D → M D)) := []
abbrev lZ_law_folded : List (Str × (List D → M D)) := []
def g_law_folded : List D → M D := runN (calOf (lN_law_folded ++ lZ_law_folded)) 100000 4 1 b_law_folded
def g_law_draw : List D → M D := drawM g_law_mixed
abbrev lN_law_begun : List (Str × (List D → M D)) := [("_law_folded", g_law_folded)]
abbrev lZ_law_begun : List (Str × (List D → M D)) := []
def g_law_begun : List D → M D := begM (calOf (lN_law_begun ++ lZ_law_begun) "_law_folded")
abbrev lN_law_signs : List (Str × (List D → M D)) := []
abbrev lZ_law_signs : List (Str × (List D → M D)) := [(S__law_draw, g_law_draw)]
def g_law_signs : List D → M D := runZ (calOf (lN_law_signs ++ lZ_law_signs)) 100000 2 1 b_law_signs
abbrev lN_law_given : List (Str × (List D → M D)) := []
abbrev lZ_law_given : List (Str × (List D → M D)) := [(S__law_draw, g_law_draw)]
def g_law_given : List D → M D := runZ (calOf (lN_law_given ++ lZ_law_given)) 100000 1 1 b_law_given
abbrev lN_law_classes : List (Str × (List D → M D)) := []
abbrev lZ_law_classes : List (Str × (List D → M D)) := []
def g_law_classes : List D → M D := runZ (calOf (lN_law_classes ++ lZ_law_classes)) 100000 4 1 b_law_classes
abbrev lN_law_made : List (Str × (List D → M D)) := []
abbrev lZ_law_made : List (Str × (List D → M D)) := []
def g_law_made : List D → M D := runZ (calOf (lN_law_made ++ lZ_law_made)) 100000 5 4 b_law_made
abbrev lN_law : List (Str × (List D → M D)) := []
abbrev lZ_law : List (Str × (List D → M D)) := [(S__law_begun, g_law_begun), (S__law_signs, g_law_signs), (S__law_given, g_law_given), (S__law_made, g_law_made), (S__law_classes, g_law_classes)]
def g_law : List D → M D := runZ (calOf (lN_law ++ lZ_law)) 100000 16 1 b_law
theorem k_law_signs_law_draw : calOf (lN_law_signs ++ lZ_law_signs) S__law_draw = g_law_draw := by kernel_rfl
theorem k_law_given_law_draw : calOf (lN_law_given ++ lZ_law_given) S__law_draw = g_law_draw := by kernel_rfl
theorem k_law_law_begun : calOf (lN_law ++ lZ_law) S__law_begun = g_law_begun := by kernel_rfl
theorem k_law_law_signs : calOf (lN_law ++ lZ_law) S__law_signs = g_law_signs := by kernel_rfl
theorem k_law_law_given : calOf (lN_law ++ lZ_law) S__law_given = g_law_given := by kernel_rfl
theorem k_law_law_made : calOf (lN_law ++ lZ_law) S__law_made = g_law_made := by kernel_rfl
theorem k_law_law_classes : calOf (lN_law ++ lZ_law) S__law_classes = g_law_classes := by kernel_rfl
theorem p_law_mixed (ds : List D) : Pur (g_law_mixed ds) := pu_runZ (pu_cal (l := lN_law_mixed ++ lZ_law_mixed) (fun _ h => nomatch h)) ds
theorem p_law_folded (ds : List D) : Pur (g_law_folded ds) := pu_runN (pu_cal (l := lN_law_folded ++ lZ_law_folded) (fun _ h => nomatch h)) ds
theorem p_law_classes (ds : List D) : Pur (g_law_classes ds) := pu_runZ (pu_cal (l := lN_law_classes ++ lZ_law_classes) (fun _ h => nomatch h)) ds
theorem p_law_made (ds : List D) : Pur (g_law_made ds) := pu_runZ (pu_cal (l := lN_law_made ++ lZ_law_made) (fun _ h => nomatch h)) ds
/-! ### that they compute it -/
def d_law_mixed : He.DefD := ⟨("_law_mixed", none), "_law_mixed", "_law_mixed", defArgs (top 17), defBody (top 17), defScope (top 17), [], []⟩
def d_law_folded : He.DefD := ⟨("_law_folded", none), "_law_folded", "_law_folded", defArgs (top 18), defBody (top 18), defScope (top 18), [], []⟩
def d_law_draw : He.DefD := ⟨("_law_draw", none), "_law_draw", "_law_draw", defArgs (top 19), defBody (top 19), defScope (top 19), [], []⟩
def d_law_begun : He.DefD := ⟨("_law_begun", none), "_law_begun", "_law_begun", defArgs (top 20), defBody (top 20), defScope (top 20), [], []⟩
def d_law_signs : He.DefD := ⟨("_law_signs", none), "_law_signs", "_law_signs", defArgs (top 21), defBody (top 21), defScope (top 21), [], []⟩
def d_law_given : He.DefD := ⟨("_law_given", none), "_law_given", "_law_given", defArgs (top 22), defBody (top 22), defScope (top 22), [], []⟩
def d_law_classes : He.DefD := ⟨("_law_classes", none), "_law_classes", "_law_classes", defArgs (top 23), defBody (top 23), defScope (top 23), [], []⟩
def d_law_made : He.DefD := ⟨("_law_made", none), "_law_made", "_law_made", defArgs (top 24), defBody (top 24), defScope (top 24), [], []⟩
def d_law : He.DefD := ⟨("law", none), "law", "law", defArgs (top 25), defBody (top 25), defScope (top 25), [], []⟩
def d_init_BadProgram : He.DefD := ⟨("BadProgram", some "__init__"), "__init__", "BadProgram.__init__", defArgs (clsDef (top 7)), defBody (clsDef (top 7)), defScope (clsDef (top 7)), [], []⟩
def d_init_BadInputs : He.DefD := ⟨("BadInputs", some "__init__"), "__init__", "BadInputs.__init__", defArgs (clsDef (top 8)), defBody (clsDef (top 8)), defScope (clsDef (top 8)), [], []⟩
def d_init_BadRow : He.DefD := ⟨("BadRow", some "__init__"), "__init__", "BadRow.__init__", defArgs (clsDef (top 9)), defBody (clsDef (top 9)), defScope (clsDef (top 9)), [], []⟩
def fn : List He.DefD := [d_law_mixed, d_law_folded, d_law_draw, d_law_begun, d_law_signs, d_law_given, d_law_classes, d_law_made, d_law, d_init_BadProgram, d_init_BadInputs, d_init_BadRow]
def cfa : List He.Fa := [.glo "LiftError", .glo "BadTable", .glo "BadSide", .glo "BadLengths", .glo "BadDeed", .glo "TooGreat", .glo "BadScript", .glo "BadRun", .glo "BadOrder", .glo "BadPaper", .glo "NotStraight", .glo "Unfit"]
def fa : List He.Fa := fn.map (fun d => He.Fa.glo d.at_.1) ++ (bNames.map He.Fa.free ++ cfa)
def more (K : PySem.W.Frag) : Bool := true && xsB K xcs
structure Facts (K : PySem.W.Frag) (mg : Str → Option Value) : Prop where
  bi : ∀ x ∈ bNames, mg x = none
  gl : ∀ p ∈ gl, ∃ u v, mg p.1 = some u ∧ RelV v u ∧ ∀ W, Rep K W p.2 v
  xb : xsB K xcs = true
  xm : ∀ n ∈ xcs0, mg n = some (.ref (He.ga K n))
  df : ∀ (i : Nat) (d : He.DefD), fn[i]? = some d → mg d.at_.1 = some (.ref (He.ga K d.at_.1)) ∧ ∃ fd, FunD K d.name d.qual d.params d.body d.scope (d.dvs K) (d.kws K) (He.fAd K d.at_) fd
section
variable {P : Program} {w : World} {K : PySem.W.Frag} {mg : Str → Option Value} {base : Heap}
theorem sc_init_BadProgram : FnScope ["self", "row"] ["self", "row"] (defScope (clsDef (top 7))) := ⟨rfl, rfl, rfl, by decide +kernel, rfl, by decide +kernel, by decide +kernel⟩
theorem in_BadProgram (X : Facts K mg) : ∃ fd ps, Binds K fd ps [] ∧ FnOk P w K mg base (L2.CX P w) 1 (He.ma K (He.ga K "BadProgram") "__init__") fd ps (spI K (He.ga K "BadProgram") ["row"]) := by
  obtain ⟨_, fd, F⟩ := X.df 9 d_init_BadProgram rfl
  exact ⟨fd, ["self", "row"], FunD.bindsN F fun _ _ _ _ _ _ us hl => match us, hl with | [_, _], _ => rfl, init1 F sc_init_BadProgram (by kernel_rfl) (by decide) (by decide)⟩
theorem sc_init_BadInputs : FnScope ["self", "place"] ["self", "place"] (defScope (clsDef (top 8))) := ⟨rfl, rfl, rfl, by decide +kernel, rfl, by decide +kernel, by decide +kernel⟩
theorem in_BadInputs (X : Facts K mg) : ∃ fd ps, Binds K fd ps [] ∧ FnOk P w K mg base (L2.CX P w) 1 (He.ma K (He.ga K "BadInputs") "__init__") fd ps (spI K (He.ga K "BadInputs") ["place"]) := by
  obtain ⟨_, fd, F⟩ := X.df 10 d_init_BadInputs rfl
  exact ⟨fd, ["self", "place"], FunD.bindsN F fun _ _ _ _ _ _ us hl => match us, hl with | [_, _], _ => rfl, init1 F sc_init_BadInputs (by kernel_rfl) (by decide) (by decide)⟩
theorem sc_init_BadRow : FnScope ["self", "row", "word"] ["self", "row", "word"] (defScope (clsDef (top 9))) := ⟨rfl, rfl, rfl, by decide +kernel, rfl, by decide +kernel, by decide +kernel⟩
theorem in_BadRow (X : Facts K mg) : ∃ fd ps, Binds K fd ps [] ∧ FnOk P w K mg base (L2.CX P w) 1 (He.ma K (He.ga K "BadRow") "__init__") fd ps (spI K (He.ga K "BadRow") ["row", "word"]) := by
  obtain ⟨_, fd, F⟩ := X.df 11 d_init_BadRow rfl
  exact ⟨fd, ["self", "row", "word"], FunD.bindsN F fun _ _ _ _ _ _ us hl => match us, hl with | [_, _, _], _ => rfl, init2 F sc_init_BadRow (by kernel_rfl) (by decide) (by decide) (by decide)⟩
theorem xs (X : Facts K mg) : Xs P w K mg base xcs := by
  rw [show xcs = (["LiftError", "BadTable", "BadSide", "BadLengths", "BadDeed", "TooGreat", "BadProgram", "BadInputs", "BadRow", "BadScript", "BadRun", "BadOrder", "BadPaper", "NotStraight", "Unfit"] : List Str) from by kernel_rfl]
  exact xs_of (by have := X.xb; rwa [show xcs = (["LiftError", "BadTable", "BadSide", "BadLengths", "BadDeed", "TooGreat", "BadProgram", "BadInputs", "BadRow", "BadScript", "BadRun", "BadOrder", "BadPaper", "NotStraight", "Unfit"] : List Str) from by kernel_rfl] at this) (mem_cons_of (P := fun n : Str => mg n = some (.ref (He.ga K n))) (X.xm _ (List.mem_of_getElem? (i := 0) rfl)) (mem_cons_of (P := fun n : Str => mg n = some (.ref (He.ga K n))) (X.xm _ (List.mem_of_getElem? (i := 1) rfl)) (mem_cons_of (P := fun n : Str => mg n = some (.ref (He.ga K n))) (X.xm _ (List.mem_of_getElem? (i := 2) rfl)) (mem_cons_of (P := fun n : Str => mg n = some (.ref (He.ga K n))) (X.xm _ (List.mem_of_getElem? (i := 3) rfl)) (mem_cons_of (P := fun n : Str => mg n = some (.ref (He.ga K n))) (X.xm _ (List.mem_of_getElem? (i := 4) rfl)) (mem_cons_of (P := fun n : Str => mg n = some (.ref (He.ga K n))) (X.xm _ (List.mem_of_getElem? (i := 5) rfl)) (mem_cons_of (P := fun n : Str => mg n = some (.ref (He.ga K n))) ((X.df 9 d_init_BadProgram rfl).1) (mem_cons_of (P := fun n : Str => mg n = some (.ref (He.ga K n))) ((X.df 10 d_init_BadInputs rfl).1) (mem_cons_of (P := fun n : Str => mg n = some (.ref (He.ga K n))) ((X.df 11 d_init_BadRow rfl).1) (mem_cons_of (P := fun n : Str => mg n = some (.ref (He.ga K n))) (X.xm _ (List.mem_of_getElem? (i := 6) rfl)) (mem_cons_of (P := fun n : Str => mg n = some (.ref (He.ga K n))) (X.xm _ (List.mem_of_getElem? (i := 7) rfl)) (mem_cons_of (P := fun n : Str => mg n = some (.ref (He.ga K n))) (X.xm _ (List.mem_of_getElem? (i := 8) rfl)) (mem_cons_of (P := fun n : Str => mg n = some (.ref (He.ga K n))) (X.xm _ (List.mem_of_getElem? (i := 9) rfl)) (mem_cons_of (P := fun n : Str => mg n = some (.ref (He.ga K n))) (X.xm _ (List.mem_of_getElem? (i := 10) rfl)) (mem_cons_of (P := fun n : Str => mg n = some (.ref (He.ga K n))) (X.xm _ (List.mem_of_getElem? (i := 11) rfl)) (fun _ h => nomatch h)))))))))))))))) (mem_cons_of (P := fun n : Str => ∀ fs, exTab.lookup n = some fs → fs ≠ [] → ∃ fd ps, Binds K fd ps [] ∧ FnOk P w K mg base (L2.CX P w) 1 (He.ma K (He.ga K n) "__init__") fd ps (spI K (He.ga K n) fs)) (fun fs e z => by rw [show exTab.lookup ("LiftError" : Str) = some [] from by kernel_rfl] at e; cases e; exact absurd rfl z) (mem_cons_of (P := fun n : Str => ∀ fs, exTab.lookup n = some fs → fs ≠ [] → ∃ fd ps, Binds K fd ps [] ∧ FnOk P w K mg base (L2.CX P w) 1 (He.ma K (He.ga K n) "__init__") fd ps (spI K (He.ga K n) fs)) (fun fs e z => by rw [show exTab.lookup ("BadTable" : Str) = some [] from by kernel_rfl] at e; cases e; exact absurd rfl z) (mem_cons_of (P := fun n : Str => ∀ fs, exTab.lookup n = some fs → fs ≠ [] → ∃ fd ps, Binds K fd ps [] ∧ FnOk P w K mg base (L2.CX P w) 1 (He.ma K (He.ga K n) "__init__") fd ps (spI K (He.ga K n) fs)) (fun fs e z => by rw [show exTab.lookup ("BadSide" : Str) = some [] from by kernel_rfl] at e; cases e; exact absurd rfl z) (mem_cons_of (P := fun n : Str => ∀ fs, exTab.lookup n = some fs → fs ≠ [] → ∃ fd ps, Binds K fd ps [] ∧ FnOk P w K mg base (L2.CX P w) 1 (He.ma K (He.ga K n) "__init__") fd ps (spI K (He.ga K n) fs)) (fun fs e z => by rw [show exTab.lookup ("BadLengths" : Str) = some [] from by kernel_rfl] at e; cases e; exact absurd rfl z) (mem_cons_of (P := fun n : Str => ∀ fs, exTab.lookup n = some fs → fs ≠ [] → ∃ fd ps, Binds K fd ps [] ∧ FnOk P w K mg base (L2.CX P w) 1 (He.ma K (He.ga K n) "__init__") fd ps (spI K (He.ga K n) fs)) (fun fs e z => by rw [show exTab.lookup ("BadDeed" : Str) = some [] from by kernel_rfl] at e; cases e; exact absurd rfl z) (mem_cons_of (P := fun n : Str => ∀ fs, exTab.lookup n = some fs → fs ≠ [] → ∃ fd ps, Binds K fd ps [] ∧ FnOk P w K mg base (L2.CX P w) 1 (He.ma K (He.ga K n) "__init__") fd ps (spI K (He.ga K n) fs)) (fun fs e z => by rw [show exTab.lookup ("TooGreat" : Str) = some [] from by kernel_rfl] at e; cases e; exact absurd rfl z) (mem_cons_of (P := fun n : Str => ∀ fs, exTab.lookup n = some fs → fs ≠ [] → ∃ fd ps, Binds K fd ps [] ∧ FnOk P w K mg base (L2.CX P w) 1 (He.ma K (He.ga K n) "__init__") fd ps (spI K (He.ga K n) fs)) (fun fs e _ => by rw [show exTab.lookup ("BadProgram" : Str) = some (["row"] : List Str) from by kernel_rfl] at e; cases e; exact in_BadProgram X) (mem_cons_of (P := fun n : Str => ∀ fs, exTab.lookup n = some fs → fs ≠ [] → ∃ fd ps, Binds K fd ps [] ∧ FnOk P w K mg base (L2.CX P w) 1 (He.ma K (He.ga K n) "__init__") fd ps (spI K (He.ga K n) fs)) (fun fs e _ => by rw [show exTab.lookup ("BadInputs" : Str) = some (["place"] : List Str) from by kernel_rfl] at e; cases e; exact in_BadInputs X) (mem_cons_of (P := fun n : Str => ∀ fs, exTab.lookup n = some fs → fs ≠ [] → ∃ fd ps, Binds K fd ps [] ∧ FnOk P w K mg base (L2.CX P w) 1 (He.ma K (He.ga K n) "__init__") fd ps (spI K (He.ga K n) fs)) (fun fs e _ => by rw [show exTab.lookup ("BadRow" : Str) = some (["row", "word"] : List Str) from by kernel_rfl] at e; cases e; exact in_BadRow X) (mem_cons_of (P := fun n : Str => ∀ fs, exTab.lookup n = some fs → fs ≠ [] → ∃ fd ps, Binds K fd ps [] ∧ FnOk P w K mg base (L2.CX P w) 1 (He.ma K (He.ga K n) "__init__") fd ps (spI K (He.ga K n) fs)) (fun fs e z => by rw [show exTab.lookup ("BadScript" : Str) = some [] from by kernel_rfl] at e; cases e; exact absurd rfl z) (mem_cons_of (P := fun n : Str => ∀ fs, exTab.lookup n = some fs → fs ≠ [] → ∃ fd ps, Binds K fd ps [] ∧ FnOk P w K mg base (L2.CX P w) 1 (He.ma K (He.ga K n) "__init__") fd ps (spI K (He.ga K n) fs)) (fun fs e z => by rw [show exTab.lookup ("BadRun" : Str) = some [] from by kernel_rfl] at e; cases e; exact absurd rfl z) (mem_cons_of (P := fun n : Str => ∀ fs, exTab.lookup n = some fs → fs ≠ [] → ∃ fd ps, Binds K fd ps [] ∧ FnOk P w K mg base (L2.CX P w) 1 (He.ma K (He.ga K n) "__init__") fd ps (spI K (He.ga K n) fs)) (fun fs e z => by rw [show exTab.lookup ("BadOrder" : Str) = some [] from by kernel_rfl] at e; cases e; exact absurd rfl z) (mem_cons_of (P := fun n : Str => ∀ fs, exTab.lookup n = some fs → fs ≠ [] → ∃ fd ps, Binds K fd ps [] ∧ FnOk P w K mg base (L2.CX P w) 1 (He.ma K (He.ga K n) "__init__") fd ps (spI K (He.ga K n) fs)) (fun fs e z => by rw [show exTab.lookup ("BadPaper" : Str) = some [] from by kernel_rfl] at e; cases e; exact absurd rfl z) (mem_cons_of (P := fun n : Str => ∀ fs, exTab.lookup n = some fs → fs ≠ [] → ∃ fd ps, Binds K fd ps [] ∧ FnOk P w K mg base (L2.CX P w) 1 (He.ma K (He.ga K n) "__init__") fd ps (spI K (He.ga K n) fs)) (fun fs e z => by rw [show exTab.lookup ("NotStraight" : Str) = some [] from by kernel_rfl] at e; cases e; exact absurd rfl z) (mem_cons_of (P := fun n : Str => ∀ fs, exTab.lookup n = some fs → fs ≠ [] → ∃ fd ps, Binds K fd ps [] ∧ FnOk P w K mg base (L2.CX P w) 1 (He.ma K (He.ga K n) "__init__") fd ps (spI K (He.ga K n) fs)) (fun fs e z => by rw [show exTab.lookup ("Unfit" : Str) = some [] from by kernel_rfl] at e; cases e; exact absurd rfl z) (fun _ h => nomatch h))))))))))))))))
theorem sc_law_mixed : FnScope ["_law_cell", "_law_k", "_law_number"] ["_law_cell", "_law_k"] (defScope (top 17)) := ⟨rfl, rfl, rfl, by decide +kernel, rfl, by decide +kernel, by decide +kernel⟩
theorem c_law_mixed : mapO (compS ⟨["_law_cell", "_law_k", "_law_number"], gl, (lN_law_mixed ++ lZ_law_mixed).map (·.1), lN_law_mixed.map (·.1), []⟩ 60 (defScope (top 17))) (defBody (top 17)) = some b_law_mixed := by kernel_rfl
theorem z_law_mixed (X : Facts K mg) : FnZ P w K mg base 1 g_law_mixed S__law_mixed := by
  rw [show (S__law_mixed : Str) = "_law_mixed" from by kernel_rfl]
  obtain ⟨hm, fd, F⟩ := X.df 0 d_law_mixed rfl
  exact fnZ_code F sc_law_mixed rfl c_law_mixed (FunD.bindsN F fun _ _ _ _ _ _ us hl => match us, hl with | [_, _], _ => rfl) hm fun A hr => gb_mk (lN := lN_law_mixed) (lZ := lZ_law_mixed) hr X.bi X.gl (fun _ h => nomatch h) (fun _ h => nomatch h)
theorem sc_law_folded : FnScope ["_law_script", "_law_found", "_law_k", "_law_cell"] ["_law_script"] (defScope (top 18)) := ⟨rfl, rfl, rfl, by decide +kernel, rfl, by decide +kernel, by decide +kernel⟩
theorem c_law_folded : mapO (compS ⟨["_law_script", "_law_found", "_law_k", "_law_cell"], gl, (lN_law_folded ++ lZ_law_folded).map (·.1), lN_law_folded.map (·.1), []⟩ 60 (defScope (top 18))) (defBody (top 18)) = some b_law_folded := by kernel_rfl
theorem z_law_folded (X : Facts K mg) : FnN P w K mg base 1 g_law_folded S__law_folded := by
  rw [show (S__law_folded : Str) = "_law_folded" from by kernel_rfl]
  obtain ⟨hm, fd, F⟩ := X.df 1 d_law_folded rfl
  exact fnN_code F sc_law_folded rfl c_law_folded (FunD.bindsN F fun _ _ _ _ _ _ us hl => match us, hl with | [_], _ => rfl) hm fun A hr => gb_mk (lN := lN_law_folded) (lZ := lZ_law_folded) hr X.bi X.gl (fun _ h => nomatch h) (fun _ h => nomatch h)
theorem sc_law_draw : FnScope ["_law_m", "_law_many", "_law_k", "_law_at", "_law_cell"] ["_law_m", "_law_many"] (defScope (top 19)) := ⟨rfl, rfl, rfl, by decide +kernel, rfl, by decide +kernel, by decide +kernel⟩
theorem z_law_draw (X : Facts K mg) : FnZ P w K mg base 2 g_law_draw S__law_draw := by
  rw [show (S__law_draw : Str) = "_law_draw" from by kernel_rfl]
  obtain ⟨hm, fd, F⟩ := X.df 2 d_law_draw rfl
  obtain ⟨fa, fx, px, m1, m2, m3, m4, m5⟩ := (z_law_mixed (P := P) (w := w) (base := base) X).ex
  obtain ⟨hm2, fd2, F2⟩ := X.df 0 d_law_mixed rfl
  have M : FnG P w K mg base (L2.CX P w) 1 _ fd2 ["_law_cell", "_law_k"] (spZ K mg g_law_mixed 2) := okZ_code F2 sc_law_mixed rfl c_law_mixed fun A hr => gb_mk (lN := lN_law_mixed) (lZ := lZ_law_mixed) hr X.bi X.gl (fun _ h => nomatch h) (fun _ h => nomatch h)
  have B := FunD.bindsN (ps := ["_law_cell", "_law_k"]) F2 fun _ _ _ _ _ _ us hl => match us, hl with | [_, _], _ => rfl
  refine fnZ_draw F sc_law_draw rfl rfl (FunD.bindsN F fun _ _ _ _ _ _ us hl => match us, hl with | [_, _], _ => rfl) hm fun cdv A outer s H E hr tk => ?_
  have hu := hu_of hr.room
  have hu2 := hr.room.units
  have nd := sc_law_draw.nd
  have hl := X.bi "len" (by decide +kernel)
  exact pss_cons (ps_set (i := 2) nd rfl (.inl rfl) (pe_dget hu (pv 0) pe_str (by intro _ _; rfl)))
    (pss_cons (ps_dput hu (pv 0) pe_str (pe_op op_add (pv 2) pe_int) (by rfl))
    (pss_cons (ps_if (pt_cmpR (opNe hu2) (pe_dget hu (pv 0) pe_str (by intro _ _; rfl)) (pe_lst pa_nil) (by rfl))
      (pss_cons (ps_set (i := 3) nd rfl (.inl rfl) (pe_op op_mod (pv 2) (pe_callB call_len_seq (by rfl) hl boot_len (pa_cons (pe_dget hu (pv 0) pe_str (by intro _ _; rfl)) pa_nil))))
        (pss_cons (ps_set (i := 4) nd rfl (.inl rfl) (pe_ix ix_list (pe_dget hu (pv 0) pe_str (by intro _ _; rfl)) (pv 3) (by intro _ _; rfl)))
          (pss_one (ps_if (pt_cmpR op_gt (pv 4) pe_int (by rfl))
            (pss_cons (ps_asg (pe_op op_fdiv (pv 4) (pv 1)) (pg_sub (pe_dget hu (pv 0) pe_str (by intro _ _; rfl)) (pv 3) set_list)) (pss_one (ps_ret (pe_op op_mod (pv 4) (pv 1)))))
            pss_nil))))
      pss_nil)
    (pss_one (ps_ret (pe_op op_mod (pe_g M hr rfl hm2 F2.kp B (passAt' tk) (pa_cons (pe_g M hr rfl hm2 F2.kp B (passAt' tk) (pa_cons (pe_op op_add (pe_ix ix_list (pe_dget hu (pv 0) pe_str (by intro _ _; rfl)) (pe_op op_mod (pv 2) pe_int) (by intro _ _; rfl)) (pe_op op_mul pe_int (pe_op op_fdiv (pv 2) pe_int))) (pa_cons (pv 2) pa_nil)) (by decide) (by rfl) (by rfl)) (pa_cons (pe_op op_add (pv 2) pe_int) pa_nil)) (by decide) (by rfl) (by rfl)) (pv 1))))))
theorem sc_law_begun : FnScope ["_law_script", "_law_m", "_law_cell"] ["_law_script"] (defScope (top 20)) := ⟨rfl, rfl, rfl, by decide +kernel, rfl, by decide +kernel, by decide +kernel⟩
theorem z_law_begun (X : Facts K mg) : FnZ P w K mg base 2 g_law_begun S__law_begun := by
  rw [show (S__law_begun : Str) = "_law_begun" from by kernel_rfl]
  obtain ⟨hm, fd, F⟩ := X.df 3 d_law_begun rfl
  exact fnZ_begun (g := "_law_folded") (k := ⟨["_law_script", "_law_m", "_law_cell"], gl, (lN_law_begun ++ lZ_law_begun).map (·.1), lN_law_begun.map (·.1), []⟩) (c := calOf (lN_law_begun ++ lZ_law_begun)) F sc_law_begun rfl rfl rfl (by kernel_rfl) (FunD.bindsN F fun _ _ _ _ _ _ us hl => match us, hl with | [_], _ => rfl) hm
    fun A hr => gb_mk (lN := lN_law_begun) (lZ := lZ_law_begun) hr X.bi X.gl (mem_cons_of (z_law_folded X) (fun _ h => nomatch h)) (fun _ h => nomatch h)
theorem sc_law_signs : FnScope ["_law_m", "_law_k"] ["_law_m"] (defScope (top 21)) := ⟨rfl, rfl, rfl, by decide +kernel, rfl, by decide +kernel, by decide +kernel⟩
theorem c_law_signs : mapO (compS ⟨["_law_m", "_law_k"], gl, (lN_law_signs ++ lZ_law_signs).map (·.1), lN_law_signs.map (·.1), []⟩ 60 (defScope (top 21))) (defBody (top 21)) = some b_law_signs := by kernel_rfl
theorem z_law_signs (X : Facts K mg) : FnZ P w K mg base 3 g_law_signs S__law_signs := by
  rw [show (S__law_signs : Str) = "_law_signs" from by kernel_rfl]
  obtain ⟨hm, fd, F⟩ := X.df 4 d_law_signs rfl
  exact fnZ_code F sc_law_signs rfl c_law_signs (FunD.bindsN F fun _ _ _ _ _ _ us hl => match us, hl with | [_], _ => rfl) hm fun A hr => gb_mk (lN := lN_law_signs) (lZ := lZ_law_signs) hr X.bi X.gl (fun _ h => nomatch h) (mem_cons_of ((z_law_draw X).mono (by decide)) (fun _ h => nomatch h))
theorem sc_law_given : FnScope ["_law_m"] ["_law_m"] (defScope (top 22)) := ⟨rfl, rfl, rfl, by decide +kernel, rfl, by decide +kernel, by decide +kernel⟩
theorem c_law_given : mapO (compS ⟨["_law_m"], gl, (lN_law_given ++ lZ_law_given).map (·.1), lN_law_given.map (·.1), []⟩ 60 (defScope (top 22))) (defBody (top 22)) = some b_law_given := by kernel_rfl
theorem z_law_given (X : Facts K mg) : FnZ P w K mg base 3 g_law_given S__law_given := by
  rw [show (S__law_given : Str) = "_law_given" from by kernel_rfl]
  obtain ⟨hm, fd, F⟩ := X.df 5 d_law_given rfl
  exact fnZ_code F sc_law_given rfl c_law_given (FunD.bindsN F fun _ _ _ _ _ _ us hl => match us, hl with | [_], _ => rfl) hm fun A hr => gb_mk (lN := lN_law_given) (lZ := lZ_law_given) hr X.bi X.gl (fun _ h => nomatch h) (mem_cons_of ((z_law_draw X).mono (by decide)) (fun _ h => nomatch h))
theorem sc_law_classes : FnScope ["_law_e", "_law_kinds", "_law_spot", "_law_is_one"] ["_law_e"] (defScope (top 23)) := ⟨rfl, rfl, rfl, by decide +kernel, rfl, by decide +kernel, by decide +kernel⟩
theorem c_law_classes : mapO (compS ⟨["_law_e", "_law_kinds", "_law_spot", "_law_is_one"], gl, (lN_law_classes ++ lZ_law_classes).map (·.1), lN_law_classes.map (·.1), xcs⟩ 60 (defScope (top 23))) (defBody (top 23)) = some b_law_classes := by kernel_rfl
theorem z_law_classes (X : Facts K mg) : FnZ P w K mg base 3 g_law_classes S__law_classes := by
  rw [show (S__law_classes : Str) = "_law_classes" from by kernel_rfl]
  obtain ⟨hm, fd, F⟩ := X.df 6 d_law_classes rfl
  exact fnZ_code F sc_law_classes rfl c_law_classes (FunD.bindsN F fun _ _ _ _ _ _ us hl => match us, hl with | [_], _ => rfl) hm fun A hr => gb_mkX (xs X) (.inr (by decide)) (lN := lN_law_classes) (lZ := lZ_law_classes) hr X.bi X.gl (fun _ h => nomatch h) (fun _ h => nomatch h)
theorem sc_law_made : FnScope ["_law_text", "_law_row", "_law_place", "_law_word", "_law_found"] ["_law_text", "_law_row", "_law_place", "_law_word"] (defScope (top 24)) := ⟨rfl, rfl, rfl, by decide +kernel, rfl, by decide +kernel, by decide +kernel⟩
theorem c_law_made : mapO (compS ⟨["_law_text", "_law_row", "_law_place", "_law_word", "_law_found"], gl, (lN_law_made ++ lZ_law_made).map (·.1), lN_law_made.map (·.1), xcs⟩ 60 (defScope (top 24))) (defBody (top 24)) = some b_law_made := by kernel_rfl
theorem z_law_made (X : Facts K mg) : FnZ P w K mg base 3 g_law_made S__law_made := by
  rw [show (S__law_made : Str) = "_law_made" from by kernel_rfl]
  obtain ⟨hm, fd, F⟩ := X.df 7 d_law_made rfl
  exact fnZ_code F sc_law_made rfl c_law_made (FunD.bindsN F fun _ _ _ _ _ _ us hl => match us, hl with | [_, _, _, _], _ => rfl) hm fun A hr => gb_mkX (xs X) (.inr (by decide)) (lN := lN_law_made) (lZ := lZ_law_made) hr X.bi X.gl (fun _ h => nomatch h) (fun _ h => nomatch h)
theorem sc_law : FnScope ["_law_script", "_law_m", "_law_turn", "_law_text", "_law_row", "_law_place", "_law_word", "_law_some", "_law_both", "_law_first", "_law_later", "_law_told", "_law_odd", "_law_none", "_law_e", "_law_spot"] ["_law_script"] (defScope (top 25)) := ⟨rfl, rfl, rfl, by decide +kernel, rfl, by decide +kernel, by decide +kernel⟩
theorem c_law : mapO (compS ⟨["_law_script", "_law_m", "_law_turn", "_law_text", "_law_row", "_law_place", "_law_word", "_law_some", "_law_both", "_law_first", "_law_later", "_law_told", "_law_odd", "_law_none", "_law_e", "_law_spot"], gl, (lN_law ++ lZ_law).map (·.1), lN_law.map (·.1), xcs⟩ 60 (defScope (top 25))) (defBody (top 25)) = some b_law := by kernel_rfl
theorem ok_law (X : Facts K mg) {f : Addr} {fd : FuncData} (F : FunD K d_law.name d_law.qual d_law.params d_law.body d_law.scope (d_law.dvs K) (d_law.kws K) f fd) : FnG P w K mg base (L2.CX P w) 4 f fd ["_law_script"] (spZ K mg g_law 1) :=
  okZ_code F sc_law rfl c_law fun A hr => gb_mkX (xs X) (.inr (by decide)) (lN := lN_law) (lZ := lZ_law) hr X.bi X.gl (fun _ h => nomatch h) (mem_cons_of ((z_law_begun X).mono (by decide)) (mem_cons_of ((z_law_signs X).mono (by decide)) (mem_cons_of ((z_law_given X).mono (by decide)) (mem_cons_of ((z_law_made X).mono (by decide)) (mem_cons_of ((z_law_classes X).mono (by decide)) (fun _ h => nomatch h))))))
end
abbrev R : PySem.W.OpenRow := PySem.W.OpenLaw.row PySem.Challenge.rw_liftloft_k85_refusals_made
abbrev hk : PySem.W.Hook := He.hookX 4 fa fn [] [] more
def ob (s : PySem.W.SharedT) : He.AlX := He.obsX 4 fa fn [] [] more (HandSHeadRun.getT s)
theorem ob_eq (s : PySem.W.SharedT) : ob s = hk.obs s.abs := He.obsX_eq (HandSHeadRun.getT_eq s)
def names : List Str := (["LiftError", "BadTable", "BadSide", "BadLengths", "BadDeed", "TooGreat", "BadProgram", "BadInputs", "BadRow", "BadScript", "BadRun", "BadOrder", "BadPaper", "NotStraight", "Unfit", "_law_mixed", "_law_folded", "_law_draw", "_law_begun", "_law_signs", "_law_given", "_law_classes", "_law_made"] : List Str)
theorem run (w : World) : HandSHeadRun.RunEq R (PySem.W.view R.prog [25]) hk ob 6000 names w := by
  intro os
  kernel_rfl
theorem facts {w : World} {K : PySem.W.Frag} {h : Heap} {mg : Str → Option Value} (X : K.In h) (G : h.Ns mainGlobals mg) (c : He.SaysX fa fn [] [] more w h K) : Facts K mg where
  bi := fun x hx => He.free_ok X G (c.t.d.facts (f := .free x) (List.mem_append_right _ (List.mem_append_left _ (List.mem_map_of_mem hx))))
  df := fun i d hd => ⟨He.glo_ok X G (c.t.d.facts (f := .glo d.at_.1) (List.mem_append_left _ (List.mem_map_of_mem (f := fun d => He.Fa.glo d.at_.1) (List.mem_of_getElem? hd)))), c.t.d.def_ i hd⟩
  xb := by
    have mo := c.more
    simp only [more, Bool.and_eq_true] at mo
    exact mo.2
  xm := fun x hx => He.glo_ok X G (c.t.d.facts (f := .glo x) (List.mem_append_right _ (List.mem_append_right _ (by
    obtain ⟨i, hi, e⟩ := List.mem_iff_getElem.mp hx
    have : cfa = xcs0.map He.Fa.glo ++ cfa.drop xcs0.length := by kernel_rfl
    rw [this]
    exact List.mem_append_left _ (List.mem_map_of_mem hx)))))
  gl := by
    have cf : ∀ f ∈ cfa, f.ok K = true := fun f hf => c.t.d.facts (List.mem_append_right _ (List.mem_append_right _ hf))
    exact fun _ h => nomatch h
end L
open PySem PySem.W PySem.Calls PyProof.Rows
theorem L.holds (law : ∀ ns : List Int, ns.length ≤ 63 → ∃ st, L.g_law [.scr ns] none = .ok (.bl true) st) : PySem.Challenge.rw_liftloft_k85_refusals_made.Holds := by
  w_on; o_law
  refine HandSHeadRun.head_any (r := OpenLaw.row PySem.Challenge.rw_liftloft_k85_refusals_made) (q := view (OpenLaw.row PySem.Challenge.rw_liftloft_k85_refusals_made).prog [25]) (H := L.hk) (ob := L.ob) (M := 6000) (loose := L.names) (d := HandSHeadRun.topDef (OpenLaw.row PySem.Challenge.rw_liftloft_k85_refusals_made).prog 25) (kwd := []) L.ob_eq
    (by kernel_rfl) (fun s => by kernel_rfl) L.run (by kernel_rfl) (by kernel_rfl) (by kernel_rfl) (by rfl) (by first | assumption | decide +kernel) (by decide +kernel) ⟨rfl, rfl, rfl, rfl, rfl, by decide +kernel⟩ ?hw ?hc
  case hw => w_witness2
  case hc =>
    refine Z.walkZ (l := PySem.Challenge.rw_liftloft_k85_refusals_made) (n := 63) (k := 4) (x := "_law_script") (g := L.g_law) rfl (by decide) (by kernel_rfl) ⟨⟨rfl, by decide, by decide⟩, rfl⟩ law ?F
    intro w mg fa h Y G hm0
    obtain ⟨K, KX, c⟩ := Y
    have X := L.facts KX G c
    obtain ⟨hm, fd, F⟩ := X.df 8 L.d_law rfl
    have hm1 : mg ("law" : PySem.Str) = some (.ref fa) := by
      have e : (HandSHeadRun.topDef (OpenLaw.row PySem.Challenge.rw_liftloft_k85_refusals_made).prog 25).name = ("law" : PySem.Str) := by kernel_rfl
      rw [← e]
      exact hm0
    have e := hm1.symm.trans hm
    cases e
    exact ⟨K, fd, KX, fun s v => L2.FunD.bindsA (ps := ["_law_script"]) F (fun _ _ _ _ _ _ us hl => match us, hl with | [_], _ => rfl) s [v] rfl, fun base _ _ => L.ok_law X F⟩
set_option Elab.async false
set_option linter.all false
set_option autoImplicit false
set_option maxRecDepth 100000
set_option maxHeartbeats 2000000
namespace L
open PySem PySem.Spec PyProof.Rows L2 Z TL

theorem beg (ns : List Int) (hn : ns.length ≤ 63) : ∃ st, g_law_begun [.scr ns] none = .ok (.obj 0) st ∧ St 0 st := by
  have e : calOf (lN_law_begun ++ lZ_law_begun) "_law_folded" = runN (calOf (lN_law_folded ++ lZ_law_folded)) 100000 4 1 bFolded := by kernel_rfl
  rw [g_law_begun, e]
  exact begM_ok hn (fold64_ok ns hn)
theorem dr {n : Int} (h0 : 0 < n) (h1 : n < 1073741824) : Tr 1 (g_law_draw [.obj 0, .int n]) (fun d => ∃ i : Int, d = .int i ∧ 0 ≤ i ∧ i < n) := tr_draw (fun c k => mixed_ok c k) h0 h1
theorem cl (c : Str) (k : Nat) (h : (c, k) ∈ [(S_BadTable, 0), (S_BadSide, 1), (S_BadLengths, 2), (S_BadDeed, 3), (S_TooGreat, 4), (S_BadScript, 5), (S_BadRun, 6), (S_BadOrder, 7), (S_BadPaper, 8), (S_NotStraight, 9), (S_Unfit, 10), (S_BadProgram, 11), (S_BadInputs, 12), (S_BadRow, 13)]) (fs : List (Str × D)) :
    g_law_classes [.exn c fs] = ret (.lst [.int k]) := by
  simp only [List.mem_cons, List.not_mem_nil, or_false, Prod.mk.injEq] at h
  rcases h with ⟨rfl, rfl⟩ | ⟨rfl, rfl⟩ | ⟨rfl, rfl⟩ | ⟨rfl, rfl⟩ | ⟨rfl, rfl⟩ | ⟨rfl, rfl⟩ | ⟨rfl, rfl⟩ | ⟨rfl, rfl⟩ | ⟨rfl, rfl⟩ | ⟨rfl, rfl⟩ | ⟨rfl, rfl⟩ | ⟨rfl, rfl⟩ | ⟨rfl, rfl⟩ | ⟨rfl, rfl⟩ <;> (funext st; kernel_rfl)
def madeL (r p w : D) : List D := [.exn S_BadTable [], .exn S_BadSide [], .exn S_BadLengths [], .exn S_BadDeed [], .exn S_TooGreat [], .exn S_BadScript [], .exn S_BadRun [], .exn S_BadOrder [], .exn S_BadPaper [], .exn S_NotStraight [], .exn S_Unfit [], .exn S_BadProgram [(S_row, r)], .exn S_BadInputs [(S_place, p)], .exn S_BadRow [(S_word, w), (S_row, r)]]
theorem made (t r p w : D) : g_law_made [t, r, p, w] = ret (.lst (madeL r p w)) := by funext st; kernel_rfl

def forB : T → List T
  | .for_ _ _ _ b => b
  | _ => []
/-- a turn's text -/
def bT : List T := forB (b_law.getD 1 .bad)
def lateL (r p w : D) : List D := [.exn S_BadProgram [(S_row, r)], .exn S_BadInputs [(S_place, p)], .exn S_BadRow [(S_word, w), (S_row, r)]]
abbrev CL : Cal := calOf (lN_law ++ lZ_law)
def truths : List D := List.replicate 14 (.bl true)
theorem turn (s t r p w : D) (a b c d e f g h i j : Option D) (o : List Nat) (ho : o = [] ∨ o = [11, 8]) : exs CL 100000 (bT.drop 2) [some s, some (.obj 0), a, some t, some r, some p, some w, b, c, d, e, f, g, h, i, j] o =
    exs CL 100000 (bT.drop 8) [some s, some (.obj 0), a, some t, some r, some p, some w, some (.lst (madeL r p w)), some (.lst truths), some (.lst (lateL r p w)), some (.lst (lateL r p w)), some (.lst [r, p, r, w]), g, h, i, j] [11, 8] := by
  rcases ho with rfl | rfl <;> (funext st; kernel_rfl)

theorem tr_signs : Tr 20 (g_law_signs [.obj 0]) (isTx 200) := by
  rw [g_law_signs, b_law_signs]
  simp -implicitDefEqProofs (disch := first | assumption | omega | (simp only [len_app, size_line, one_len, List.length_append, List.length_cons, List.length_nil, List.length_map]; omega)) only [ret_bnd, stk_bnd, bnd_bnd, ofO_some, ofO_none, bnd_if, nox_ret, nox_if, ofO_if, getS_0, getS_s, ev_c, ev_v, ev_bin, ev_neg, ev_not, ev_cmp, ev_chn, ev_and, ev_or, ev_ite, ev_ix, ev_sl00, ev_sl10, ev_sl01, ev_sl11, intM_i, ev_rev, ev_tup, ev_lst, ev_dct, ev_call, ev_bi, ev_isi, ev_me, ev_get, ev_lc, evs_0, evs_1, evB_ret, evBR_ret, evBF_ret, evB_if, evBR_if, evBF_if, flp_0, offs_0, flp_int, flp_bl, flp_str, flp_non, flp_lst, flp_dct, offs_c, vars, varss, List.mem_cons, List.mem_append, List.not_mem_nil, or_false, false_or, or_self, or_true, true_or, Nat.reduceEqDiff, decide_true, decide_false, isL_l, ownL_d, appF_d, setF_d, setG_e, setH_e, retF_d, retG_t, retG_f, eq_self, ex_pass, ex_brk, ex_cnt, ex_ret, ex_retn, ex_retv, ex_retc, ex_set, ex_own, ex_par, ex_app, ex_seti, ex_bad, ex_ext, ex_pop, extF_d, popF_d, ex_ex, ex_ite, ex_forR, ex_for, exs_0, exs_1, seqF_n, seqF_r, seqF_rn, seqF_b, seqF_c, tbl_nm, tbl_tp, tgs, tgss, asg_nm, asg_tp, asgs_0, asgs_1, ownF_l, ownF_n, parF_e, ev_mk, ev_isc, ev_fld, ex_raise, ex_tryk, raiseF_e, tryF_n, tryF_r, tryF_rn, tryF_x, seqF_x, thr_bnd, evB_thr, evBR_thr, evBF_thr, outM_exc, outM_ret, outM_retn, outM_retif, outM_nxt, outM_if, outMN_retn, outMN_nxt, ini_1, ini_0, ifD_t, ifD_f, ifD_b, if_and, if_or, notD_b, negD_i, revD_l, runZ_0, runN_0, runZ_1, runN_1, runZ_2, runN_2, runZ_3, runN_3, runZ_4, runN_4, runZ_5, runN_5, runZ_6, runN_6, runZ_7, runN_7, runZ_8, runN_8, List.replicate_succ, List.replicate_zero, reduceIte, ite_true, ite_false, Bool.not_true, Bool.not_false, Bool.true_and, Bool.false_and, Bool.and_true, Bool.and_false, Bool.false_eq_true, List.set_cons_zero, List.set_cons_succ, Option.bind_some, k_law_signs_law_draw, k_law_given_law_draw, k_law_law_begun, k_law_law_signs, k_law_law_given, k_law_law_made, k_law_law_classes, zv_isi_int_non, zv_isi_int_bl, zv_isi_int_int, zv_isi_int_str, zv_isi_int_tup, zv_isi_int_lst, zv_isi_int_dct, zv_isi_bool_non, zv_isi_bool_bl, zv_isi_bool_int, zv_isi_bool_str, zv_isi_bool_tup, zv_isi_bool_lst, zv_isi_bool_dct, zv_isi_str_non, zv_isi_str_bl, zv_isi_str_int, zv_isi_str_str, zv_isi_str_tup, zv_isi_str_lst, zv_isi_str_dct, zv_isi_tuple_non, zv_isi_tuple_bl, zv_isi_tuple_int, zv_isi_tuple_str, zv_isi_tuple_tup, zv_isi_tuple_lst, zv_isi_tuple_dct, zv_isi_list_non, zv_isi_list_bl, zv_isi_list_int, zv_isi_list_str, zv_isi_list_tup, zv_isi_list_lst, zv_isi_list_dct, zv_isi_dict_non, zv_isi_dict_bl, zv_isi_dict_int, zv_isi_dict_str, zv_isi_dict_tup, zv_isi_dict_lst, zv_isi_dict_dct, zv_lt_ii, zv_le_ii, zv_gt_ii, zv_ge_ii, zv_eq, zv_ne, zv_is_non, zv_isnot_non, zv_is_bl, zv_isnot_bl, zv_is_int, zv_isnot_int, zv_is_str, zv_isnot_str, zv_is_tup, zv_isnot_tup, zv_is_lst, zv_isnot_lst, zv_is_dct, zv_isnot_dct, zv_is_exn, zv_isnot_exn, zv_in_ss, zv_notin_ss, zv_add, zv_sub, zv_len_s, zv_len_l, zv_len_t, zv_len_r, zv_int_i, zv_int_b, zv_list_l, zv_list_t, zv_tuple_l, zv_tuple_t, zv_all, zv_any, zv_sum, zv_max2, zv_min2, zv_abs, zv_repr_n, zv_repr_b, zv_repr_l, zv_repr_t, zv_enum, zv_zip, zv_it_l, zv_it_t, zv_it_s, zv_it_r, zv_ix_l, zv_ix_t, zv_ix_s, zv_sl_l, zv_sl_t, zv_sl_s, zv_me_join, zv_me_lstrip, zv_me_index, zv_me_split, zv_isDct_non, zv_isDct_bl, zv_isDct_int, zv_isDct_str, zv_isDct_tup, zv_isDct_lst, zv_isDct_dct, zv_isMut_non, zv_isMut_bl, zv_isMut_int, zv_isMut_str, zv_isMut_tup, zv_isMut_lst, zv_isMut_dct, zv_eq_ii, zv_eq_ss, zv_eq_bb, zv_eq_nn, zv_eq_nbl, zv_eq_bln, zv_eq_nint, zv_eq_intn, zv_eq_nstr, zv_eq_strn, zv_eq_is, zv_eq_si, appG_e, extG_e, popG_e, zv_mul, zv_mod, zv_fdiv, zv_adds, zv_mull, zv_addl, zv_addt, zv_pow, zv_repr_i, zv_range, zv_range2, zv_lstrip, zv_muls]
  (first | with_reducible refine trx_bB0 (dr ?_ ?_) (by decide) ?_ | with_reducible refine trx_bBM (dr ?_ ?_) (by decide) ?_ | with_reducible refine trx_bBN (dr ?_ ?_) (by decide) ?_ | with_reducible refine trx_bR0 (dr ?_ ?_) (by decide) ?_ | with_reducible refine trx_bRM (dr ?_ ?_) (by decide) ?_ | with_reducible refine trx_bRN (dr ?_ ?_) (by decide) ?_ | with_reducible refine trx_bF0 (dr ?_ ?_) (by decide) ?_ | with_reducible refine trx_bFM (dr ?_ ?_) (by decide) ?_ | with_reducible refine trx_bFN (dr ?_ ?_) (by decide) ?_ | with_reducible refine trx_bX (dr ?_ ?_) (by decide) ?_ | with_reducible refine trx_pB0 (dr ?_ ?_) (by decide) ?_ | with_reducible refine trx_pBM (dr ?_ ?_) (by decide) ?_ | with_reducible refine trx_pBN (dr ?_ ?_) (by decide) ?_ | with_reducible refine trx_pR0 (dr ?_ ?_) (by decide) ?_ | with_reducible refine trx_pRM (dr ?_ ?_) (by decide) ?_ | with_reducible refine trx_pRN (dr ?_ ?_) (by decide) ?_ | with_reducible refine trx_pF0 (dr ?_ ?_) (by decide) ?_ | with_reducible refine trx_pFM (dr ?_ ?_) (by decide) ?_ | with_reducible refine trx_pFN (dr ?_ ?_) (by decide) ?_ | with_reducible refine trx_pX (dr ?_ ?_) (by decide) ?_ | with_reducible refine trx_oM (dr ?_ ?_) (by decide) ?_ | with_reducible refine trx_oN (dr ?_ ?_) (by decide) ?_ | with_reducible refine trx_q (dr ?_ ?_) (by decide) ?_ | with_reducible refine trx_z (dr ?_ ?_) (by decide) ?_)
  · (first | omega | (simp only [List.length_cons, List.length_nil]; omega))
  · (first | omega | (simp only [List.length_cons, List.length_nil]; omega))
  rintro _ ⟨i, rfl, i0, i1⟩
  try simp -implicitDefEqProofs (disch := first | assumption | omega | (simp only [len_app, size_line, one_len, List.length_append, List.length_cons, List.length_nil, List.length_map]; omega)) only [ret_bnd, stk_bnd, bnd_bnd, ofO_some, ofO_none, bnd_if, nox_ret, nox_if, ofO_if, getS_0, getS_s, ev_c, ev_v, ev_bin, ev_neg, ev_not, ev_cmp, ev_chn, ev_and, ev_or, ev_ite, ev_ix, ev_sl00, ev_sl10, ev_sl01, ev_sl11, intM_i, ev_rev, ev_tup, ev_lst, ev_dct, ev_call, ev_bi, ev_isi, ev_me, ev_get, ev_lc, evs_0, evs_1, evB_ret, evBR_ret, evBF_ret, evB_if, evBR_if, evBF_if, flp_0, offs_0, flp_int, flp_bl, flp_str, flp_non, flp_lst, flp_dct, offs_c, vars, varss, List.mem_cons, List.mem_append, List.not_mem_nil, or_false, false_or, or_self, or_true, true_or, Nat.reduceEqDiff, decide_true, decide_false, isL_l, ownL_d, appF_d, setF_d, setG_e, setH_e, retF_d, retG_t, retG_f, eq_self, ex_pass, ex_brk, ex_cnt, ex_ret, ex_retn, ex_retv, ex_retc, ex_set, ex_own, ex_par, ex_app, ex_seti, ex_bad, ex_ext, ex_pop, extF_d, popF_d, ex_ex, ex_ite, ex_forR, ex_for, exs_0, exs_1, seqF_n, seqF_r, seqF_rn, seqF_b, seqF_c, tbl_nm, tbl_tp, tgs, tgss, asg_nm, asg_tp, asgs_0, asgs_1, ownF_l, ownF_n, parF_e, ev_mk, ev_isc, ev_fld, ex_raise, ex_tryk, raiseF_e, tryF_n, tryF_r, tryF_rn, tryF_x, seqF_x, thr_bnd, evB_thr, evBR_thr, evBF_thr, outM_exc, outM_ret, outM_retn, outM_retif, outM_nxt, outM_if, outMN_retn, outMN_nxt, ini_1, ini_0, ifD_t, ifD_f, ifD_b, if_and, if_or, notD_b, negD_i, revD_l, runZ_0, runN_0, runZ_1, runN_1, runZ_2, runN_2, runZ_3, runN_3, runZ_4, runN_4, runZ_5, runN_5, runZ_6, runN_6, runZ_7, runN_7, runZ_8, runN_8, List.replicate_succ, List.replicate_zero, reduceIte, ite_true, ite_false, Bool.not_true, Bool.not_false, Bool.true_and, Bool.false_and, Bool.and_true, Bool.and_false, Bool.false_eq_true, List.set_cons_zero, List.set_cons_succ, Option.bind_some, k_law_signs_law_draw, k_law_given_law_draw, k_law_law_begun, k_law_law_signs, k_law_law_given, k_law_law_made, k_law_law_classes, zv_isi_int_non, zv_isi_int_bl, zv_isi_int_int, zv_isi_int_str, zv_isi_int_tup, zv_isi_int_lst, zv_isi_int_dct, zv_isi_bool_non, zv_isi_bool_bl, zv_isi_bool_int, zv_isi_bool_str, zv_isi_bool_tup, zv_isi_bool_lst, zv_isi_bool_dct, zv_isi_str_non, zv_isi_str_bl, zv_isi_str_int, zv_isi_str_str, zv_isi_str_tup, zv_isi_str_lst, zv_isi_str_dct, zv_isi_tuple_non, zv_isi_tuple_bl, zv_isi_tuple_int, zv_isi_tuple_str, zv_isi_tuple_tup, zv_isi_tuple_lst, zv_isi_tuple_dct, zv_isi_list_non, zv_isi_list_bl, zv_isi_list_int, zv_isi_list_str, zv_isi_list_tup, zv_isi_list_lst, zv_isi_list_dct, zv_isi_dict_non, zv_isi_dict_bl, zv_isi_dict_int, zv_isi_dict_str, zv_isi_dict_tup, zv_isi_dict_lst, zv_isi_dict_dct, zv_lt_ii, zv_le_ii, zv_gt_ii, zv_ge_ii, zv_eq, zv_ne, zv_is_non, zv_isnot_non, zv_is_bl, zv_isnot_bl, zv_is_int, zv_isnot_int, zv_is_str, zv_isnot_str, zv_is_tup, zv_isnot_tup, zv_is_lst, zv_isnot_lst, zv_is_dct, zv_isnot_dct, zv_is_exn, zv_isnot_exn, zv_in_ss, zv_notin_ss, zv_add, zv_sub, zv_len_s, zv_len_l, zv_len_t, zv_len_r, zv_int_i, zv_int_b, zv_list_l, zv_list_t, zv_tuple_l, zv_tuple_t, zv_all, zv_any, zv_sum, zv_max2, zv_min2, zv_abs, zv_repr_n, zv_repr_b, zv_repr_l, zv_repr_t, zv_enum, zv_zip, zv_it_l, zv_it_t, zv_it_s, zv_it_r, zv_ix_l, zv_ix_t, zv_ix_s, zv_sl_l, zv_sl_t, zv_sl_s, zv_me_join, zv_me_lstrip, zv_me_index, zv_me_split, zv_isDct_non, zv_isDct_bl, zv_isDct_int, zv_isDct_str, zv_isDct_tup, zv_isDct_lst, zv_isDct_dct, zv_isMut_non, zv_isMut_bl, zv_isMut_int, zv_isMut_str, zv_isMut_tup, zv_isMut_lst, zv_isMut_dct, zv_eq_ii, zv_eq_ss, zv_eq_bb, zv_eq_nn, zv_eq_nbl, zv_eq_bln, zv_eq_nint, zv_eq_intn, zv_eq_nstr, zv_eq_strn, zv_eq_is, zv_eq_si, appG_e, extG_e, popG_e, zv_mul, zv_mod, zv_fdiv, zv_adds, zv_mull, zv_addl, zv_addt, zv_pow, zv_repr_i, zv_range, zv_range2, zv_lstrip, zv_muls]
  (first | with_reducible refine trx_bB0 (tr_lcN (c := 1) (N := 6) (P := fun o => ∃ d, o = some d ∧ isTx 4 d) ?_ ?_) (by decide) ?_ | with_reducible refine trx_bBM (tr_lcN (c := 1) (N := 6) (P := fun o => ∃ d, o = some d ∧ isTx 4 d) ?_ ?_) (by decide) ?_ | with_reducible refine trx_bBN (tr_lcN (c := 1) (N := 6) (P := fun o => ∃ d, o = some d ∧ isTx 4 d) ?_ ?_) (by decide) ?_ | with_reducible refine trx_bR0 (tr_lcN (c := 1) (N := 6) (P := fun o => ∃ d, o = some d ∧ isTx 4 d) ?_ ?_) (by decide) ?_ | with_reducible refine trx_bRM (tr_lcN (c := 1) (N := 6) (P := fun o => ∃ d, o = some d ∧ isTx 4 d) ?_ ?_) (by decide) ?_ | with_reducible refine trx_bRN (tr_lcN (c := 1) (N := 6) (P := fun o => ∃ d, o = some d ∧ isTx 4 d) ?_ ?_) (by decide) ?_ | with_reducible refine trx_bF0 (tr_lcN (c := 1) (N := 6) (P := fun o => ∃ d, o = some d ∧ isTx 4 d) ?_ ?_) (by decide) ?_ | with_reducible refine trx_bFM (tr_lcN (c := 1) (N := 6) (P := fun o => ∃ d, o = some d ∧ isTx 4 d) ?_ ?_) (by decide) ?_ | with_reducible refine trx_bFN (tr_lcN (c := 1) (N := 6) (P := fun o => ∃ d, o = some d ∧ isTx 4 d) ?_ ?_) (by decide) ?_ | with_reducible refine trx_bX (tr_lcN (c := 1) (N := 6) (P := fun o => ∃ d, o = some d ∧ isTx 4 d) ?_ ?_) (by decide) ?_ | with_reducible refine trx_pB0 (tr_lcN (c := 1) (N := 6) (P := fun o => ∃ d, o = some d ∧ isTx 4 d) ?_ ?_) (by decide) ?_ | with_reducible refine trx_pBM (tr_lcN (c := 1) (N := 6) (P := fun o => ∃ d, o = some d ∧ isTx 4 d) ?_ ?_) (by decide) ?_ | with_reducible refine trx_pBN (tr_lcN (c := 1) (N := 6) (P := fun o => ∃ d, o = some d ∧ isTx 4 d) ?_ ?_) (by decide) ?_ | with_reducible refine trx_pR0 (tr_lcN (c := 1) (N := 6) (P := fun o => ∃ d, o = some d ∧ isTx 4 d) ?_ ?_) (by decide) ?_ | with_reducible refine trx_pRM (tr_lcN (c := 1) (N := 6) (P := fun o => ∃ d, o = some d ∧ isTx 4 d) ?_ ?_) (by decide) ?_ | with_reducible refine trx_pRN (tr_lcN (c := 1) (N := 6) (P := fun o => ∃ d, o = some d ∧ isTx 4 d) ?_ ?_) (by decide) ?_ | with_reducible refine trx_pF0 (tr_lcN (c := 1) (N := 6) (P := fun o => ∃ d, o = some d ∧ isTx 4 d) ?_ ?_) (by decide) ?_ | with_reducible refine trx_pFM (tr_lcN (c := 1) (N := 6) (P := fun o => ∃ d, o = some d ∧ isTx 4 d) ?_ ?_) (by decide) ?_ | with_reducible refine trx_pFN (tr_lcN (c := 1) (N := 6) (P := fun o => ∃ d, o = some d ∧ isTx 4 d) ?_ ?_) (by decide) ?_ | with_reducible refine trx_pX (tr_lcN (c := 1) (N := 6) (P := fun o => ∃ d, o = some d ∧ isTx 4 d) ?_ ?_) (by decide) ?_ | with_reducible refine trx_oM (tr_lcN (c := 1) (N := 6) (P := fun o => ∃ d, o = some d ∧ isTx 4 d) ?_ ?_) (by decide) ?_ | with_reducible refine trx_oN (tr_lcN (c := 1) (N := 6) (P := fun o => ∃ d, o = some d ∧ isTx 4 d) ?_ ?_) (by decide) ?_ | with_reducible refine trx_q (tr_lcN (c := 1) (N := 6) (P := fun o => ∃ d, o = some d ∧ isTx 4 d) ?_ ?_) (by decide) ?_ | with_reducible refine trx_z (tr_lcN (c := 1) (N := 6) (P := fun o => ∃ d, o = some d ∧ isTx 4 d) ?_ ?_) (by decide) ?_)
  · rw [rng_len]; omega
  · intro d hd
    simp -implicitDefEqProofs (disch := first | assumption | omega | (simp only [len_app, size_line, one_len, List.length_append, List.length_cons, List.length_nil, List.length_map]; omega)) only [ret_bnd, stk_bnd, bnd_bnd, ofO_some, ofO_none, bnd_if, nox_ret, nox_if, ofO_if, getS_0, getS_s, ev_c, ev_v, ev_bin, ev_neg, ev_not, ev_cmp, ev_chn, ev_and, ev_or, ev_ite, ev_ix, ev_sl00, ev_sl10, ev_sl01, ev_sl11, intM_i, ev_rev, ev_tup, ev_lst, ev_dct, ev_call, ev_bi, ev_isi, ev_me, ev_get, ev_lc, evs_0, evs_1, evB_ret, evBR_ret, evBF_ret, evB_if, evBR_if, evBF_if, flp_0, offs_0, flp_int, flp_bl, flp_str, flp_non, flp_lst, flp_dct, offs_c, vars, varss, List.mem_cons, List.mem_append, List.not_mem_nil, or_false, false_or, or_self, or_true, true_or, Nat.reduceEqDiff, decide_true, decide_false, isL_l, ownL_d, appF_d, setF_d, setG_e, setH_e, retF_d, retG_t, retG_f, eq_self, ex_pass, ex_brk, ex_cnt, ex_ret, ex_retn, ex_retv, ex_retc, ex_set, ex_own, ex_par, ex_app, ex_seti, ex_bad, ex_ext, ex_pop, extF_d, popF_d, ex_ex, ex_ite, ex_forR, ex_for, exs_0, exs_1, seqF_n, seqF_r, seqF_rn, seqF_b, seqF_c, tbl_nm, tbl_tp, tgs, tgss, asg_nm, asg_tp, asgs_0, asgs_1, ownF_l, ownF_n, parF_e, ev_mk, ev_isc, ev_fld, ex_raise, ex_tryk, raiseF_e, tryF_n, tryF_r, tryF_rn, tryF_x, seqF_x, thr_bnd, evB_thr, evBR_thr, evBF_thr, outM_exc, outM_ret, outM_retn, outM_retif, outM_nxt, outM_if, outMN_retn, outMN_nxt, ini_1, ini_0, ifD_t, ifD_f, ifD_b, if_and, if_or, notD_b, negD_i, revD_l, runZ_0, runN_0, runZ_1, runN_1, runZ_2, runN_2, runZ_3, runN_3, runZ_4, runN_4, runZ_5, runN_5, runZ_6, runN_6, runZ_7, runN_7, runZ_8, runN_8, List.replicate_succ, List.replicate_zero, reduceIte, ite_true, ite_false, Bool.not_true, Bool.not_false, Bool.true_and, Bool.false_and, Bool.and_true, Bool.and_false, Bool.false_eq_true, List.set_cons_zero, List.set_cons_succ, Option.bind_some, k_law_signs_law_draw, k_law_given_law_draw, k_law_law_begun, k_law_law_signs, k_law_law_given, k_law_law_made, k_law_law_classes, zv_isi_int_non, zv_isi_int_bl, zv_isi_int_int, zv_isi_int_str, zv_isi_int_tup, zv_isi_int_lst, zv_isi_int_dct, zv_isi_bool_non, zv_isi_bool_bl, zv_isi_bool_int, zv_isi_bool_str, zv_isi_bool_tup, zv_isi_bool_lst, zv_isi_bool_dct, zv_isi_str_non, zv_isi_str_bl, zv_isi_str_int, zv_isi_str_str, zv_isi_str_tup, zv_isi_str_lst, zv_isi_str_dct, zv_isi_tuple_non, zv_isi_tuple_bl, zv_isi_tuple_int, zv_isi_tuple_str, zv_isi_tuple_tup, zv_isi_tuple_lst, zv_isi_tuple_dct, zv_isi_list_non, zv_isi_list_bl, zv_isi_list_int, zv_isi_list_str, zv_isi_list_tup, zv_isi_list_lst, zv_isi_list_dct, zv_isi_dict_non, zv_isi_dict_bl, zv_isi_dict_int, zv_isi_dict_str, zv_isi_dict_tup, zv_isi_dict_lst, zv_isi_dict_dct, zv_lt_ii, zv_le_ii, zv_gt_ii, zv_ge_ii, zv_eq, zv_ne, zv_is_non, zv_isnot_non, zv_is_bl, zv_isnot_bl, zv_is_int, zv_isnot_int, zv_is_str, zv_isnot_str, zv_is_tup, zv_isnot_tup, zv_is_lst, zv_isnot_lst, zv_is_dct, zv_isnot_dct, zv_is_exn, zv_isnot_exn, zv_in_ss, zv_notin_ss, zv_add, zv_sub, zv_len_s, zv_len_l, zv_len_t, zv_len_r, zv_int_i, zv_int_b, zv_list_l, zv_list_t, zv_tuple_l, zv_tuple_t, zv_all, zv_any, zv_sum, zv_max2, zv_min2, zv_abs, zv_repr_n, zv_repr_b, zv_repr_l, zv_repr_t, zv_enum, zv_zip, zv_it_l, zv_it_t, zv_it_s, zv_it_r, zv_ix_l, zv_ix_t, zv_ix_s, zv_sl_l, zv_sl_t, zv_sl_s, zv_me_join, zv_me_lstrip, zv_me_index, zv_me_split, zv_isDct_non, zv_isDct_bl, zv_isDct_int, zv_isDct_str, zv_isDct_tup, zv_isDct_lst, zv_isDct_dct, zv_isMut_non, zv_isMut_bl, zv_isMut_int, zv_isMut_str, zv_isMut_tup, zv_isMut_lst, zv_isMut_dct, zv_eq_ii, zv_eq_ss, zv_eq_bb, zv_eq_nn, zv_eq_nbl, zv_eq_bln, zv_eq_nint, zv_eq_intn, zv_eq_nstr, zv_eq_strn, zv_eq_is, zv_eq_si, appG_e, extG_e, popG_e, zv_mul, zv_mod, zv_fdiv, zv_adds, zv_mull, zv_addl, zv_addt, zv_pow, zv_repr_i, zv_range, zv_range2, zv_lstrip, zv_muls, lcG, wipeE]
    (first | with_reducible refine trx_bB0 (dr ?_ ?_) (by decide) ?_ | with_reducible refine trx_bBM (dr ?_ ?_) (by decide) ?_ | with_reducible refine trx_bBN (dr ?_ ?_) (by decide) ?_ | with_reducible refine trx_bR0 (dr ?_ ?_) (by decide) ?_ | with_reducible refine trx_bRM (dr ?_ ?_) (by decide) ?_ | with_reducible refine trx_bRN (dr ?_ ?_) (by decide) ?_ | with_reducible refine trx_bF0 (dr ?_ ?_) (by decide) ?_ | with_reducible refine trx_bFM (dr ?_ ?_) (by decide) ?_ | with_reducible refine trx_bFN (dr ?_ ?_) (by decide) ?_ | with_reducible refine trx_bX (dr ?_ ?_) (by decide) ?_ | with_reducible refine trx_pB0 (dr ?_ ?_) (by decide) ?_ | with_reducible refine trx_pBM (dr ?_ ?_) (by decide) ?_ | with_reducible refine trx_pBN (dr ?_ ?_) (by decide) ?_ | with_reducible refine trx_pR0 (dr ?_ ?_) (by decide) ?_ | with_reducible refine trx_pRM (dr ?_ ?_) (by decide) ?_ | with_reducible refine trx_pRN (dr ?_ ?_) (by decide) ?_ | with_reducible refine trx_pF0 (dr ?_ ?_) (by decide) ?_ | with_reducible refine trx_pFM (dr ?_ ?_) (by decide) ?_ | with_reducible refine trx_pFN (dr ?_ ?_) (by decide) ?_ | with_reducible refine trx_pX (dr ?_ ?_) (by decide) ?_ | with_reducible refine trx_oM (dr ?_ ?_) (by decide) ?_ | with_reducible refine trx_oN (dr ?_ ?_) (by decide) ?_ | with_reducible refine trx_q (dr ?_ ?_) (by decide) ?_ | with_reducible refine trx_z (dr ?_ ?_) (by decide) ?_)
    · (first | omega | (simp only [List.length_cons, List.length_nil]; omega))
    · (first | omega | (simp only [List.length_cons, List.length_nil]; omega))
    rintro _ ⟨k, rfl, k0, k1⟩
    try simp -implicitDefEqProofs (disch := first | assumption | omega | (simp only [len_app, size_line, one_len, List.length_append, List.length_cons, List.length_nil, List.length_map]; omega)) only [ret_bnd, stk_bnd, bnd_bnd, ofO_some, ofO_none, bnd_if, nox_ret, nox_if, ofO_if, getS_0, getS_s, ev_c, ev_v, ev_bin, ev_neg, ev_not, ev_cmp, ev_chn, ev_and, ev_or, ev_ite, ev_ix, ev_sl00, ev_sl10, ev_sl01, ev_sl11, intM_i, ev_rev, ev_tup, ev_lst, ev_dct, ev_call, ev_bi, ev_isi, ev_me, ev_get, ev_lc, evs_0, evs_1, evB_ret, evBR_ret, evBF_ret, evB_if, evBR_if, evBF_if, flp_0, offs_0, flp_int, flp_bl, flp_str, flp_non, flp_lst, flp_dct, offs_c, vars, varss, List.mem_cons, List.mem_append, List.not_mem_nil, or_false, false_or, or_self, or_true, true_or, Nat.reduceEqDiff, decide_true, decide_false, isL_l, ownL_d, appF_d, setF_d, setG_e, setH_e, retF_d, retG_t, retG_f, eq_self, ex_pass, ex_brk, ex_cnt, ex_ret, ex_retn, ex_retv, ex_retc, ex_set, ex_own, ex_par, ex_app, ex_seti, ex_bad, ex_ext, ex_pop, extF_d, popF_d, ex_ex, ex_ite, ex_forR, ex_for, exs_0, exs_1, seqF_n, seqF_r, seqF_rn, seqF_b, seqF_c, tbl_nm, tbl_tp, tgs, tgss, asg_nm, asg_tp, asgs_0, asgs_1, ownF_l, ownF_n, parF_e, ev_mk, ev_isc, ev_fld, ex_raise, ex_tryk, raiseF_e, tryF_n, tryF_r, tryF_rn, tryF_x, seqF_x, thr_bnd, evB_thr, evBR_thr, evBF_thr, outM_exc, outM_ret, outM_retn, outM_retif, outM_nxt, outM_if, outMN_retn, outMN_nxt, ini_1, ini_0, ifD_t, ifD_f, ifD_b, if_and, if_or, notD_b, negD_i, revD_l, runZ_0, runN_0, runZ_1, runN_1, runZ_2, runN_2, runZ_3, runN_3, runZ_4, runN_4, runZ_5, runN_5, runZ_6, runN_6, runZ_7, runN_7, runZ_8, runN_8, List.replicate_succ, List.replicate_zero, reduceIte, ite_true, ite_false, Bool.not_true, Bool.not_false, Bool.true_and, Bool.false_and, Bool.and_true, Bool.and_false, Bool.false_eq_true, List.set_cons_zero, List.set_cons_succ, Option.bind_some, k_law_signs_law_draw, k_law_given_law_draw, k_law_law_begun, k_law_law_signs, k_law_law_given, k_law_law_made, k_law_law_classes, zv_isi_int_non, zv_isi_int_bl, zv_isi_int_int, zv_isi_int_str, zv_isi_int_tup, zv_isi_int_lst, zv_isi_int_dct, zv_isi_bool_non, zv_isi_bool_bl, zv_isi_bool_int, zv_isi_bool_str, zv_isi_bool_tup, zv_isi_bool_lst, zv_isi_bool_dct, zv_isi_str_non, zv_isi_str_bl, zv_isi_str_int, zv_isi_str_str, zv_isi_str_tup, zv_isi_str_lst, zv_isi_str_dct, zv_isi_tuple_non, zv_isi_tuple_bl, zv_isi_tuple_int, zv_isi_tuple_str, zv_isi_tuple_tup, zv_isi_tuple_lst, zv_isi_tuple_dct, zv_isi_list_non, zv_isi_list_bl, zv_isi_list_int, zv_isi_list_str, zv_isi_list_tup, zv_isi_list_lst, zv_isi_list_dct, zv_isi_dict_non, zv_isi_dict_bl, zv_isi_dict_int, zv_isi_dict_str, zv_isi_dict_tup, zv_isi_dict_lst, zv_isi_dict_dct, zv_lt_ii, zv_le_ii, zv_gt_ii, zv_ge_ii, zv_eq, zv_ne, zv_is_non, zv_isnot_non, zv_is_bl, zv_isnot_bl, zv_is_int, zv_isnot_int, zv_is_str, zv_isnot_str, zv_is_tup, zv_isnot_tup, zv_is_lst, zv_isnot_lst, zv_is_dct, zv_isnot_dct, zv_is_exn, zv_isnot_exn, zv_in_ss, zv_notin_ss, zv_add, zv_sub, zv_len_s, zv_len_l, zv_len_t, zv_len_r, zv_int_i, zv_int_b, zv_list_l, zv_list_t, zv_tuple_l, zv_tuple_t, zv_all, zv_any, zv_sum, zv_max2, zv_min2, zv_abs, zv_repr_n, zv_repr_b, zv_repr_l, zv_repr_t, zv_enum, zv_zip, zv_it_l, zv_it_t, zv_it_s, zv_it_r, zv_ix_l, zv_ix_t, zv_ix_s, zv_sl_l, zv_sl_t, zv_sl_s, zv_me_join, zv_me_lstrip, zv_me_index, zv_me_split, zv_isDct_non, zv_isDct_bl, zv_isDct_int, zv_isDct_str, zv_isDct_tup, zv_isDct_lst, zv_isDct_dct, zv_isMut_non, zv_isMut_bl, zv_isMut_int, zv_isMut_str, zv_isMut_tup, zv_isMut_lst, zv_isMut_dct, zv_eq_ii, zv_eq_ss, zv_eq_bb, zv_eq_nn, zv_eq_nbl, zv_eq_bln, zv_eq_nint, zv_eq_intn, zv_eq_nstr, zv_eq_strn, zv_eq_is, zv_eq_si, appG_e, extG_e, popG_e, zv_mul, zv_mod, zv_fdiv, zv_adds, zv_mull, zv_addl, zv_addt, zv_pow, zv_repr_i, zv_range, zv_range2, zv_lstrip, zv_muls]
    (first | with_reducible refine trx_bB0 (tr_ixl (Q := isTx 4) k0 ?_ ?_) (by decide) ?_ | with_reducible refine trx_bBM (tr_ixl (Q := isTx 4) k0 ?_ ?_) (by decide) ?_ | with_reducible refine trx_bBN (tr_ixl (Q := isTx 4) k0 ?_ ?_) (by decide) ?_ | with_reducible refine trx_bR0 (tr_ixl (Q := isTx 4) k0 ?_ ?_) (by decide) ?_ | with_reducible refine trx_bRM (tr_ixl (Q := isTx 4) k0 ?_ ?_) (by decide) ?_ | with_reducible refine trx_bRN (tr_ixl (Q := isTx 4) k0 ?_ ?_) (by decide) ?_ | with_reducible refine trx_bF0 (tr_ixl (Q := isTx 4) k0 ?_ ?_) (by decide) ?_ | with_reducible refine trx_bFM (tr_ixl (Q := isTx 4) k0 ?_ ?_) (by decide) ?_ | with_reducible refine trx_bFN (tr_ixl (Q := isTx 4) k0 ?_ ?_) (by decide) ?_ | with_reducible refine trx_bX (tr_ixl (Q := isTx 4) k0 ?_ ?_) (by decide) ?_ | with_reducible refine trx_pB0 (tr_ixl (Q := isTx 4) k0 ?_ ?_) (by decide) ?_ | with_reducible refine trx_pBM (tr_ixl (Q := isTx 4) k0 ?_ ?_) (by decide) ?_ | with_reducible refine trx_pBN (tr_ixl (Q := isTx 4) k0 ?_ ?_) (by decide) ?_ | with_reducible refine trx_pR0 (tr_ixl (Q := isTx 4) k0 ?_ ?_) (by decide) ?_ | with_reducible refine trx_pRM (tr_ixl (Q := isTx 4) k0 ?_ ?_) (by decide) ?_ | with_reducible refine trx_pRN (tr_ixl (Q := isTx 4) k0 ?_ ?_) (by decide) ?_ | with_reducible refine trx_pF0 (tr_ixl (Q := isTx 4) k0 ?_ ?_) (by decide) ?_ | with_reducible refine trx_pFM (tr_ixl (Q := isTx 4) k0 ?_ ?_) (by decide) ?_ | with_reducible refine trx_pFN (tr_ixl (Q := isTx 4) k0 ?_ ?_) (by decide) ?_ | with_reducible refine trx_pX (tr_ixl (Q := isTx 4) k0 ?_ ?_) (by decide) ?_ | with_reducible refine trx_oM (tr_ixl (Q := isTx 4) k0 ?_ ?_) (by decide) ?_ | with_reducible refine trx_oN (tr_ixl (Q := isTx 4) k0 ?_ ?_) (by decide) ?_ | with_reducible refine trx_q (tr_ixl (Q := isTx 4) k0 ?_ ?_) (by decide) ?_ | with_reducible refine trx_z (tr_ixl (Q := isTx 4) k0 ?_ ?_) (by decide) ?_)
    · exact k1
    · intro d hd
      simp only [List.mem_cons, List.not_mem_nil, or_false] at hd
      rcases hd with rfl | rfl | rfl | rfl | rfl | rfl | rfl <;> exact ⟨_, rfl, by decide⟩
    · intro d hd
      simp -implicitDefEqProofs (disch := first | assumption | omega | (simp only [len_app, size_line, one_len, List.length_append, List.length_cons, List.length_nil, List.length_map]; omega)) only [ret_bnd, stk_bnd, bnd_bnd, ofO_some, ofO_none, bnd_if, nox_ret, nox_if, ofO_if, getS_0, getS_s, ev_c, ev_v, ev_bin, ev_neg, ev_not, ev_cmp, ev_chn, ev_and, ev_or, ev_ite, ev_ix, ev_sl00, ev_sl10, ev_sl01, ev_sl11, intM_i, ev_rev, ev_tup, ev_lst, ev_dct, ev_call, ev_bi, ev_isi, ev_me, ev_get, ev_lc, evs_0, evs_1, evB_ret, evBR_ret, evBF_ret, evB_if, evBR_if, evBF_if, flp_0, offs_0, flp_int, flp_bl, flp_str, flp_non, flp_lst, flp_dct, offs_c, vars, varss, List.mem_cons, List.mem_append, List.not_mem_nil, or_false, false_or, or_self, or_true, true_or, Nat.reduceEqDiff, decide_true, decide_false, isL_l, ownL_d, appF_d, setF_d, setG_e, setH_e, retF_d, retG_t, retG_f, eq_self, ex_pass, ex_brk, ex_cnt, ex_ret, ex_retn, ex_retv, ex_retc, ex_set, ex_own, ex_par, ex_app, ex_seti, ex_bad, ex_ext, ex_pop, extF_d, popF_d, ex_ex, ex_ite, ex_forR, ex_for, exs_0, exs_1, seqF_n, seqF_r, seqF_rn, seqF_b, seqF_c, tbl_nm, tbl_tp, tgs, tgss, asg_nm, asg_tp, asgs_0, asgs_1, ownF_l, ownF_n, parF_e, ev_mk, ev_isc, ev_fld, ex_raise, ex_tryk, raiseF_e, tryF_n, tryF_r, tryF_rn, tryF_x, seqF_x, thr_bnd, evB_thr, evBR_thr, evBF_thr, outM_exc, outM_ret, outM_retn, outM_retif, outM_nxt, outM_if, outMN_retn, outMN_nxt, ini_1, ini_0, ifD_t, ifD_f, ifD_b, if_and, if_or, notD_b, negD_i, revD_l, runZ_0, runN_0, runZ_1, runN_1, runZ_2, runN_2, runZ_3, runN_3, runZ_4, runN_4, runZ_5, runN_5, runZ_6, runN_6, runZ_7, runN_7, runZ_8, runN_8, List.replicate_succ, List.replicate_zero, reduceIte, ite_true, ite_false, Bool.not_true, Bool.not_false, Bool.true_and, Bool.false_and, Bool.and_true, Bool.and_false, Bool.false_eq_true, List.set_cons_zero, List.set_cons_succ, Option.bind_some, k_law_signs_law_draw, k_law_given_law_draw, k_law_law_begun, k_law_law_signs, k_law_law_given, k_law_law_made, k_law_law_classes, zv_isi_int_non, zv_isi_int_bl, zv_isi_int_int, zv_isi_int_str, zv_isi_int_tup, zv_isi_int_lst, zv_isi_int_dct, zv_isi_bool_non, zv_isi_bool_bl, zv_isi_bool_int, zv_isi_bool_str, zv_isi_bool_tup, zv_isi_bool_lst, zv_isi_bool_dct, zv_isi_str_non, zv_isi_str_bl, zv_isi_str_int, zv_isi_str_str, zv_isi_str_tup, zv_isi_str_lst, zv_isi_str_dct, zv_isi_tuple_non, zv_isi_tuple_bl, zv_isi_tuple_int, zv_isi_tuple_str, zv_isi_tuple_tup, zv_isi_tuple_lst, zv_isi_tuple_dct, zv_isi_list_non, zv_isi_list_bl, zv_isi_list_int, zv_isi_list_str, zv_isi_list_tup, zv_isi_list_lst, zv_isi_list_dct, zv_isi_dict_non, zv_isi_dict_bl, zv_isi_dict_int, zv_isi_dict_str, zv_isi_dict_tup, zv_isi_dict_lst, zv_isi_dict_dct, zv_lt_ii, zv_le_ii, zv_gt_ii, zv_ge_ii, zv_eq, zv_ne, zv_is_non, zv_isnot_non, zv_is_bl, zv_isnot_bl, zv_is_int, zv_isnot_int, zv_is_str, zv_isnot_str, zv_is_tup, zv_isnot_tup, zv_is_lst, zv_isnot_lst, zv_is_dct, zv_isnot_dct, zv_is_exn, zv_isnot_exn, zv_in_ss, zv_notin_ss, zv_add, zv_sub, zv_len_s, zv_len_l, zv_len_t, zv_len_r, zv_int_i, zv_int_b, zv_list_l, zv_list_t, zv_tuple_l, zv_tuple_t, zv_all, zv_any, zv_sum, zv_max2, zv_min2, zv_abs, zv_repr_n, zv_repr_b, zv_repr_l, zv_repr_t, zv_enum, zv_zip, zv_it_l, zv_it_t, zv_it_s, zv_it_r, zv_ix_l, zv_ix_t, zv_ix_s, zv_sl_l, zv_sl_t, zv_sl_s, zv_me_join, zv_me_lstrip, zv_me_index, zv_me_split, zv_isDct_non, zv_isDct_bl, zv_isDct_int, zv_isDct_str, zv_isDct_tup, zv_isDct_lst, zv_isDct_dct, zv_isMut_non, zv_isMut_bl, zv_isMut_int, zv_isMut_str, zv_isMut_tup, zv_isMut_lst, zv_isMut_dct, zv_eq_ii, zv_eq_ss, zv_eq_bb, zv_eq_nn, zv_eq_nbl, zv_eq_bln, zv_eq_nint, zv_eq_intn, zv_eq_nstr, zv_eq_strn, zv_eq_is, zv_eq_si, appG_e, extG_e, popG_e, zv_mul, zv_mod, zv_fdiv, zv_adds, zv_mull, zv_addl, zv_addt, zv_pow, zv_repr_i, zv_range, zv_range2, zv_lstrip, zv_muls]
      exact tr_rt ⟨_, rfl, hd⟩
  · rintro ys ⟨hl1, hy⟩
    rw [rng_len] at hl1
    obtain ⟨x, e1, l1⟩ := join_ok (B := 4) (N := 6) (z := S0_) (ds := ys) (fun d hd => by
      obtain ⟨d', e', h⟩ := hy d hd
      cases e'
      exact h) (by omega) (by decide)
    simp -implicitDefEqProofs (disch := first | assumption | omega | (simp only [len_app, size_line, one_len, List.length_append, List.length_cons, List.length_nil, List.length_map]; omega)) only [ret_bnd, stk_bnd, bnd_bnd, ofO_some, ofO_none, bnd_if, nox_ret, nox_if, ofO_if, getS_0, getS_s, ev_c, ev_v, ev_bin, ev_neg, ev_not, ev_cmp, ev_chn, ev_and, ev_or, ev_ite, ev_ix, ev_sl00, ev_sl10, ev_sl01, ev_sl11, intM_i, ev_rev, ev_tup, ev_lst, ev_dct, ev_call, ev_bi, ev_isi, ev_me, ev_get, ev_lc, evs_0, evs_1, evB_ret, evBR_ret, evBF_ret, evB_if, evBR_if, evBF_if, flp_0, offs_0, flp_int, flp_bl, flp_str, flp_non, flp_lst, flp_dct, offs_c, vars, varss, List.mem_cons, List.mem_append, List.not_mem_nil, or_false, false_or, or_self, or_true, true_or, Nat.reduceEqDiff, decide_true, decide_false, isL_l, ownL_d, appF_d, setF_d, setG_e, setH_e, retF_d, retG_t, retG_f, eq_self, ex_pass, ex_brk, ex_cnt, ex_ret, ex_retn, ex_retv, ex_retc, ex_set, ex_own, ex_par, ex_app, ex_seti, ex_bad, ex_ext, ex_pop, extF_d, popF_d, ex_ex, ex_ite, ex_forR, ex_for, exs_0, exs_1, seqF_n, seqF_r, seqF_rn, seqF_b, seqF_c, tbl_nm, tbl_tp, tgs, tgss, asg_nm, asg_tp, asgs_0, asgs_1, ownF_l, ownF_n, parF_e, ev_mk, ev_isc, ev_fld, ex_raise, ex_tryk, raiseF_e, tryF_n, tryF_r, tryF_rn, tryF_x, seqF_x, thr_bnd, evB_thr, evBR_thr, evBF_thr, outM_exc, outM_ret, outM_retn, outM_retif, outM_nxt, outM_if, outMN_retn, outMN_nxt, ini_1, ini_0, ifD_t, ifD_f, ifD_b, if_and, if_or, notD_b, negD_i, revD_l, runZ_0, runN_0, runZ_1, runN_1, runZ_2, runN_2, runZ_3, runN_3, runZ_4, runN_4, runZ_5, runN_5, runZ_6, runN_6, runZ_7, runN_7, runZ_8, runN_8, List.replicate_succ, List.replicate_zero, reduceIte, ite_true, ite_false, Bool.not_true, Bool.not_false, Bool.true_and, Bool.false_and, Bool.and_true, Bool.and_false, Bool.false_eq_true, List.set_cons_zero, List.set_cons_succ, Option.bind_some, k_law_signs_law_draw, k_law_given_law_draw, k_law_law_begun, k_law_law_signs, k_law_law_given, k_law_law_made, k_law_law_classes, zv_isi_int_non, zv_isi_int_bl, zv_isi_int_int, zv_isi_int_str, zv_isi_int_tup, zv_isi_int_lst, zv_isi_int_dct, zv_isi_bool_non, zv_isi_bool_bl, zv_isi_bool_int, zv_isi_bool_str, zv_isi_bool_tup, zv_isi_bool_lst, zv_isi_bool_dct, zv_isi_str_non, zv_isi_str_bl, zv_isi_str_int, zv_isi_str_str, zv_isi_str_tup, zv_isi_str_lst, zv_isi_str_dct, zv_isi_tuple_non, zv_isi_tuple_bl, zv_isi_tuple_int, zv_isi_tuple_str, zv_isi_tuple_tup, zv_isi_tuple_lst, zv_isi_tuple_dct, zv_isi_list_non, zv_isi_list_bl, zv_isi_list_int, zv_isi_list_str, zv_isi_list_tup, zv_isi_list_lst, zv_isi_list_dct, zv_isi_dict_non, zv_isi_dict_bl, zv_isi_dict_int, zv_isi_dict_str, zv_isi_dict_tup, zv_isi_dict_lst, zv_isi_dict_dct, zv_lt_ii, zv_le_ii, zv_gt_ii, zv_ge_ii, zv_eq, zv_ne, zv_is_non, zv_isnot_non, zv_is_bl, zv_isnot_bl, zv_is_int, zv_isnot_int, zv_is_str, zv_isnot_str, zv_is_tup, zv_isnot_tup, zv_is_lst, zv_isnot_lst, zv_is_dct, zv_isnot_dct, zv_is_exn, zv_isnot_exn, zv_in_ss, zv_notin_ss, zv_add, zv_sub, zv_len_s, zv_len_l, zv_len_t, zv_len_r, zv_int_i, zv_int_b, zv_list_l, zv_list_t, zv_tuple_l, zv_tuple_t, zv_all, zv_any, zv_sum, zv_max2, zv_min2, zv_abs, zv_repr_n, zv_repr_b, zv_repr_l, zv_repr_t, zv_enum, zv_zip, zv_it_l, zv_it_t, zv_it_s, zv_it_r, zv_ix_l, zv_ix_t, zv_ix_s, zv_sl_l, zv_sl_t, zv_sl_s, zv_me_join, zv_me_lstrip, zv_me_index, zv_me_split, zv_isDct_non, zv_isDct_bl, zv_isDct_int, zv_isDct_str, zv_isDct_tup, zv_isDct_lst, zv_isDct_dct, zv_isMut_non, zv_isMut_bl, zv_isMut_int, zv_isMut_str, zv_isMut_tup, zv_isMut_lst, zv_isMut_dct, zv_eq_ii, zv_eq_ss, zv_eq_bb, zv_eq_nn, zv_eq_nbl, zv_eq_bln, zv_eq_nint, zv_eq_intn, zv_eq_nstr, zv_eq_strn, zv_eq_is, zv_eq_si, appG_e, extG_e, popG_e, zv_mul, zv_mod, zv_fdiv, zv_adds, zv_mull, zv_addl, zv_addt, zv_pow, zv_repr_i, zv_range, zv_range2, zv_lstrip, zv_muls, e1]
    exact tr_rt ⟨x, rfl, Nat.le_trans l1 (by decide)⟩
def sm (d : D) : Prop := ∃ i : Int, d = .int i ∧ 0 ≤ i ∧ i < 400
theorem tr_given : Tr 20 (g_law_given [.obj 0]) sm := by
  rw [g_law_given, b_law_given]
  simp -implicitDefEqProofs (disch := first | assumption | omega | (simp only [len_app, size_line, one_len, List.length_append, List.length_cons, List.length_nil, List.length_map]; omega)) only [ret_bnd, stk_bnd, bnd_bnd, ofO_some, ofO_none, bnd_if, nox_ret, nox_if, ofO_if, getS_0, getS_s, ev_c, ev_v, ev_bin, ev_neg, ev_not, ev_cmp, ev_chn, ev_and, ev_or, ev_ite, ev_ix, ev_sl00, ev_sl10, ev_sl01, ev_sl11, intM_i, ev_rev, ev_tup, ev_lst, ev_dct, ev_call, ev_bi, ev_isi, ev_me, ev_get, ev_lc, evs_0, evs_1, evB_ret, evBR_ret, evBF_ret, evB_if, evBR_if, evBF_if, flp_0, offs_0, flp_int, flp_bl, flp_str, flp_non, flp_lst, flp_dct, offs_c, vars, varss, List.mem_cons, List.mem_append, List.not_mem_nil, or_false, false_or, or_self, or_true, true_or, Nat.reduceEqDiff, decide_true, decide_false, isL_l, ownL_d, appF_d, setF_d, setG_e, setH_e, retF_d, retG_t, retG_f, eq_self, ex_pass, ex_brk, ex_cnt, ex_ret, ex_retn, ex_retv, ex_retc, ex_set, ex_own, ex_par, ex_app, ex_seti, ex_bad, ex_ext, ex_pop, extF_d, popF_d, ex_ex, ex_ite, ex_forR, ex_for, exs_0, exs_1, seqF_n, seqF_r, seqF_rn, seqF_b, seqF_c, tbl_nm, tbl_tp, tgs, tgss, asg_nm, asg_tp, asgs_0, asgs_1, ownF_l, ownF_n, parF_e, ev_mk, ev_isc, ev_fld, ex_raise, ex_tryk, raiseF_e, tryF_n, tryF_r, tryF_rn, tryF_x, seqF_x, thr_bnd, evB_thr, evBR_thr, evBF_thr, outM_exc, outM_ret, outM_retn, outM_retif, outM_nxt, outM_if, outMN_retn, outMN_nxt, ini_1, ini_0, ifD_t, ifD_f, ifD_b, if_and, if_or, notD_b, negD_i, revD_l, runZ_0, runN_0, runZ_1, runN_1, runZ_2, runN_2, runZ_3, runN_3, runZ_4, runN_4, runZ_5, runN_5, runZ_6, runN_6, runZ_7, runN_7, runZ_8, runN_8, List.replicate_succ, List.replicate_zero, reduceIte, ite_true, ite_false, Bool.not_true, Bool.not_false, Bool.true_and, Bool.false_and, Bool.and_true, Bool.and_false, Bool.false_eq_true, List.set_cons_zero, List.set_cons_succ, Option.bind_some, k_law_signs_law_draw, k_law_given_law_draw, k_law_law_begun, k_law_law_signs, k_law_law_given, k_law_law_made, k_law_law_classes, zv_isi_int_non, zv_isi_int_bl, zv_isi_int_int, zv_isi_int_str, zv_isi_int_tup, zv_isi_int_lst, zv_isi_int_dct, zv_isi_bool_non, zv_isi_bool_bl, zv_isi_bool_int, zv_isi_bool_str, zv_isi_bool_tup, zv_isi_bool_lst, zv_isi_bool_dct, zv_isi_str_non, zv_isi_str_bl, zv_isi_str_int, zv_isi_str_str, zv_isi_str_tup, zv_isi_str_lst, zv_isi_str_dct, zv_isi_tuple_non, zv_isi_tuple_bl, zv_isi_tuple_int, zv_isi_tuple_str, zv_isi_tuple_tup, zv_isi_tuple_lst, zv_isi_tuple_dct, zv_isi_list_non, zv_isi_list_bl, zv_isi_list_int, zv_isi_list_str, zv_isi_list_tup, zv_isi_list_lst, zv_isi_list_dct, zv_isi_dict_non, zv_isi_dict_bl, zv_isi_dict_int, zv_isi_dict_str, zv_isi_dict_tup, zv_isi_dict_lst, zv_isi_dict_dct, zv_lt_ii, zv_le_ii, zv_gt_ii, zv_ge_ii, zv_eq, zv_ne, zv_is_non, zv_isnot_non, zv_is_bl, zv_isnot_bl, zv_is_int, zv_isnot_int, zv_is_str, zv_isnot_str, zv_is_tup, zv_isnot_tup, zv_is_lst, zv_isnot_lst, zv_is_dct, zv_isnot_dct, zv_is_exn, zv_isnot_exn, zv_in_ss, zv_notin_ss, zv_add, zv_sub, zv_len_s, zv_len_l, zv_len_t, zv_len_r, zv_int_i, zv_int_b, zv_list_l, zv_list_t, zv_tuple_l, zv_tuple_t, zv_all, zv_any, zv_sum, zv_max2, zv_min2, zv_abs, zv_repr_n, zv_repr_b, zv_repr_l, zv_repr_t, zv_enum, zv_zip, zv_it_l, zv_it_t, zv_it_s, zv_it_r, zv_ix_l, zv_ix_t, zv_ix_s, zv_sl_l, zv_sl_t, zv_sl_s, zv_me_join, zv_me_lstrip, zv_me_index, zv_me_split, zv_isDct_non, zv_isDct_bl, zv_isDct_int, zv_isDct_str, zv_isDct_tup, zv_isDct_lst, zv_isDct_dct, zv_isMut_non, zv_isMut_bl, zv_isMut_int, zv_isMut_str, zv_isMut_tup, zv_isMut_lst, zv_isMut_dct, zv_eq_ii, zv_eq_ss, zv_eq_bb, zv_eq_nn, zv_eq_nbl, zv_eq_bln, zv_eq_nint, zv_eq_intn, zv_eq_nstr, zv_eq_strn, zv_eq_is, zv_eq_si, appG_e, extG_e, popG_e, zv_mul, zv_mod, zv_fdiv, zv_adds, zv_mull, zv_addl, zv_addt, zv_pow, zv_repr_i, zv_range, zv_range2, zv_lstrip, zv_muls]
  (first | with_reducible refine trx_bB0 (dr ?_ ?_) (by decide) ?_ | with_reducible refine trx_bBM (dr ?_ ?_) (by decide) ?_ | with_reducible refine trx_bBN (dr ?_ ?_) (by decide) ?_ | with_reducible refine trx_bR0 (dr ?_ ?_) (by decide) ?_ | with_reducible refine trx_bRM (dr ?_ ?_) (by decide) ?_ | with_reducible refine trx_bRN (dr ?_ ?_) (by decide) ?_ | with_reducible refine trx_bF0 (dr ?_ ?_) (by decide) ?_ | with_reducible refine trx_bFM (dr ?_ ?_) (by decide) ?_ | with_reducible refine trx_bFN (dr ?_ ?_) (by decide) ?_ | with_reducible refine trx_bX (dr ?_ ?_) (by decide) ?_ | with_reducible refine trx_pB0 (dr ?_ ?_) (by decide) ?_ | with_reducible refine trx_pBM (dr ?_ ?_) (by decide) ?_ | with_reducible refine trx_pBN (dr ?_ ?_) (by decide) ?_ | with_reducible refine trx_pR0 (dr ?_ ?_) (by decide) ?_ | with_reducible refine trx_pRM (dr ?_ ?_) (by decide) ?_ | with_reducible refine trx_pRN (dr ?_ ?_) (by decide) ?_ | with_reducible refine trx_pF0 (dr ?_ ?_) (by decide) ?_ | with_reducible refine trx_pFM (dr ?_ ?_) (by decide) ?_ | with_reducible refine trx_pFN (dr ?_ ?_) (by decide) ?_ | with_reducible refine trx_pX (dr ?_ ?_) (by decide) ?_ | with_reducible refine trx_oM (dr ?_ ?_) (by decide) ?_ | with_reducible refine trx_oN (dr ?_ ?_) (by decide) ?_ | with_reducible refine trx_q (dr ?_ ?_) (by decide) ?_ | with_reducible refine trx_z (dr ?_ ?_) (by decide) ?_)
  · (first | omega | (simp only [List.length_cons, List.length_nil]; omega))
  · (first | omega | (simp only [List.length_cons, List.length_nil]; omega))
  rintro _ ⟨i, rfl, i0, i1⟩
  try simp -implicitDefEqProofs (disch := first | assumption | omega | (simp only [len_app, size_line, one_len, List.length_append, List.length_cons, List.length_nil, List.length_map]; omega)) only [ret_bnd, stk_bnd, bnd_bnd, ofO_some, ofO_none, bnd_if, nox_ret, nox_if, ofO_if, getS_0, getS_s, ev_c, ev_v, ev_bin, ev_neg, ev_not, ev_cmp, ev_chn, ev_and, ev_or, ev_ite, ev_ix, ev_sl00, ev_sl10, ev_sl01, ev_sl11, intM_i, ev_rev, ev_tup, ev_lst, ev_dct, ev_call, ev_bi, ev_isi, ev_me, ev_get, ev_lc, evs_0, evs_1, evB_ret, evBR_ret, evBF_ret, evB_if, evBR_if, evBF_if, flp_0, offs_0, flp_int, flp_bl, flp_str, flp_non, flp_lst, flp_dct, offs_c, vars, varss, List.mem_cons, List.mem_append, List.not_mem_nil, or_false, false_or, or_self, or_true, true_or, Nat.reduceEqDiff, decide_true, decide_false, isL_l, ownL_d, appF_d, setF_d, setG_e, setH_e, retF_d, retG_t, retG_f, eq_self, ex_pass, ex_brk, ex_cnt, ex_ret, ex_retn, ex_retv, ex_retc, ex_set, ex_own, ex_par, ex_app, ex_seti, ex_bad, ex_ext, ex_pop, extF_d, popF_d, ex_ex, ex_ite, ex_forR, ex_for, exs_0, exs_1, seqF_n, seqF_r, seqF_rn, seqF_b, seqF_c, tbl_nm, tbl_tp, tgs, tgss, asg_nm, asg_tp, asgs_0, asgs_1, ownF_l, ownF_n, parF_e, ev_mk, ev_isc, ev_fld, ex_raise, ex_tryk, raiseF_e, tryF_n, tryF_r, tryF_rn, tryF_x, seqF_x, thr_bnd, evB_thr, evBR_thr, evBF_thr, outM_exc, outM_ret, outM_retn, outM_retif, outM_nxt, outM_if, outMN_retn, outMN_nxt, ini_1, ini_0, ifD_t, ifD_f, ifD_b, if_and, if_or, notD_b, negD_i, revD_l, runZ_0, runN_0, runZ_1, runN_1, runZ_2, runN_2, runZ_3, runN_3, runZ_4, runN_4, runZ_5, runN_5, runZ_6, runN_6, runZ_7, runN_7, runZ_8, runN_8, List.replicate_succ, List.replicate_zero, reduceIte, ite_true, ite_false, Bool.not_true, Bool.not_false, Bool.true_and, Bool.false_and, Bool.and_true, Bool.and_false, Bool.false_eq_true, List.set_cons_zero, List.set_cons_succ, Option.bind_some, k_law_signs_law_draw, k_law_given_law_draw, k_law_law_begun, k_law_law_signs, k_law_law_given, k_law_law_made, k_law_law_classes, zv_isi_int_non, zv_isi_int_bl, zv_isi_int_int, zv_isi_int_str, zv_isi_int_tup, zv_isi_int_lst, zv_isi_int_dct, zv_isi_bool_non, zv_isi_bool_bl, zv_isi_bool_int, zv_isi_bool_str, zv_isi_bool_tup, zv_isi_bool_lst, zv_isi_bool_dct, zv_isi_str_non, zv_isi_str_bl, zv_isi_str_int, zv_isi_str_str, zv_isi_str_tup, zv_isi_str_lst, zv_isi_str_dct, zv_isi_tuple_non, zv_isi_tuple_bl, zv_isi_tuple_int, zv_isi_tuple_str, zv_isi_tuple_tup, zv_isi_tuple_lst, zv_isi_tuple_dct, zv_isi_list_non, zv_isi_list_bl, zv_isi_list_int, zv_isi_list_str, zv_isi_list_tup, zv_isi_list_lst, zv_isi_list_dct, zv_isi_dict_non, zv_isi_dict_bl, zv_isi_dict_int, zv_isi_dict_str, zv_isi_dict_tup, zv_isi_dict_lst, zv_isi_dict_dct, zv_lt_ii, zv_le_ii, zv_gt_ii, zv_ge_ii, zv_eq, zv_ne, zv_is_non, zv_isnot_non, zv_is_bl, zv_isnot_bl, zv_is_int, zv_isnot_int, zv_is_str, zv_isnot_str, zv_is_tup, zv_isnot_tup, zv_is_lst, zv_isnot_lst, zv_is_dct, zv_isnot_dct, zv_is_exn, zv_isnot_exn, zv_in_ss, zv_notin_ss, zv_add, zv_sub, zv_len_s, zv_len_l, zv_len_t, zv_len_r, zv_int_i, zv_int_b, zv_list_l, zv_list_t, zv_tuple_l, zv_tuple_t, zv_all, zv_any, zv_sum, zv_max2, zv_min2, zv_abs, zv_repr_n, zv_repr_b, zv_repr_l, zv_repr_t, zv_enum, zv_zip, zv_it_l, zv_it_t, zv_it_s, zv_it_r, zv_ix_l, zv_ix_t, zv_ix_s, zv_sl_l, zv_sl_t, zv_sl_s, zv_me_join, zv_me_lstrip, zv_me_index, zv_me_split, zv_isDct_non, zv_isDct_bl, zv_isDct_int, zv_isDct_str, zv_isDct_tup, zv_isDct_lst, zv_isDct_dct, zv_isMut_non, zv_isMut_bl, zv_isMut_int, zv_isMut_str, zv_isMut_tup, zv_isMut_lst, zv_isMut_dct, zv_eq_ii, zv_eq_ss, zv_eq_bb, zv_eq_nn, zv_eq_nbl, zv_eq_bln, zv_eq_nint, zv_eq_intn, zv_eq_nstr, zv_eq_strn, zv_eq_is, zv_eq_si, appG_e, extG_e, popG_e, zv_mul, zv_mod, zv_fdiv, zv_adds, zv_mull, zv_addl, zv_addt, zv_pow, zv_repr_i, zv_range, zv_range2, zv_lstrip, zv_muls]
  (first | with_reducible refine trx_bB0 (dr ?_ ?_) (by decide) ?_ | with_reducible refine trx_bBM (dr ?_ ?_) (by decide) ?_ | with_reducible refine trx_bBN (dr ?_ ?_) (by decide) ?_ | with_reducible refine trx_bR0 (dr ?_ ?_) (by decide) ?_ | with_reducible refine trx_bRM (dr ?_ ?_) (by decide) ?_ | with_reducible refine trx_bRN (dr ?_ ?_) (by decide) ?_ | with_reducible refine trx_bF0 (dr ?_ ?_) (by decide) ?_ | with_reducible refine trx_bFM (dr ?_ ?_) (by decide) ?_ | with_reducible refine trx_bFN (dr ?_ ?_) (by decide) ?_ | with_reducible refine trx_bX (dr ?_ ?_) (by decide) ?_ | with_reducible refine trx_pB0 (dr ?_ ?_) (by decide) ?_ | with_reducible refine trx_pBM (dr ?_ ?_) (by decide) ?_ | with_reducible refine trx_pBN (dr ?_ ?_) (by decide) ?_ | with_reducible refine trx_pR0 (dr ?_ ?_) (by decide) ?_ | with_reducible refine trx_pRM (dr ?_ ?_) (by decide) ?_ | with_reducible refine trx_pRN (dr ?_ ?_) (by decide) ?_ | with_reducible refine trx_pF0 (dr ?_ ?_) (by decide) ?_ | with_reducible refine trx_pFM (dr ?_ ?_) (by decide) ?_ | with_reducible refine trx_pFN (dr ?_ ?_) (by decide) ?_ | with_reducible refine trx_pX (dr ?_ ?_) (by decide) ?_ | with_reducible refine trx_oM (dr ?_ ?_) (by decide) ?_ | with_reducible refine trx_oN (dr ?_ ?_) (by decide) ?_ | with_reducible refine trx_q (dr ?_ ?_) (by decide) ?_ | with_reducible refine trx_z (dr ?_ ?_) (by decide) ?_)
  · (first | omega | (simp only [List.length_cons, List.length_nil]; omega))
  · (first | omega | (simp only [List.length_cons, List.length_nil]; omega))
  rintro _ ⟨k, rfl, k0, k1⟩
  try simp -implicitDefEqProofs (disch := first | assumption | omega | (simp only [len_app, size_line, one_len, List.length_append, List.length_cons, List.length_nil, List.length_map]; omega)) only [ret_bnd, stk_bnd, bnd_bnd, ofO_some, ofO_none, bnd_if, nox_ret, nox_if, ofO_if, getS_0, getS_s, ev_c, ev_v, ev_bin, ev_neg, ev_not, ev_cmp, ev_chn, ev_and, ev_or, ev_ite, ev_ix, ev_sl00, ev_sl10, ev_sl01, ev_sl11, intM_i, ev_rev, ev_tup, ev_lst, ev_dct, ev_call, ev_bi, ev_isi, ev_me, ev_get, ev_lc, evs_0, evs_1, evB_ret, evBR_ret, evBF_ret, evB_if, evBR_if, evBF_if, flp_0, offs_0, flp_int, flp_bl, flp_str, flp_non, flp_lst, flp_dct, offs_c, vars, varss, List.mem_cons, List.mem_append, List.not_mem_nil, or_false, false_or, or_self, or_true, true_or, Nat.reduceEqDiff, decide_true, decide_false, isL_l, ownL_d, appF_d, setF_d, setG_e, setH_e, retF_d, retG_t, retG_f, eq_self, ex_pass, ex_brk, ex_cnt, ex_ret, ex_retn, ex_retv, ex_retc, ex_set, ex_own, ex_par, ex_app, ex_seti, ex_bad, ex_ext, ex_pop, extF_d, popF_d, ex_ex, ex_ite, ex_forR, ex_for, exs_0, exs_1, seqF_n, seqF_r, seqF_rn, seqF_b, seqF_c, tbl_nm, tbl_tp, tgs, tgss, asg_nm, asg_tp, asgs_0, asgs_1, ownF_l, ownF_n, parF_e, ev_mk, ev_isc, ev_fld, ex_raise, ex_tryk, raiseF_e, tryF_n, tryF_r, tryF_rn, tryF_x, seqF_x, thr_bnd, evB_thr, evBR_thr, evBF_thr, outM_exc, outM_ret, outM_retn, outM_retif, outM_nxt, outM_if, outMN_retn, outMN_nxt, ini_1, ini_0, ifD_t, ifD_f, ifD_b, if_and, if_or, notD_b, negD_i, revD_l, runZ_0, runN_0, runZ_1, runN_1, runZ_2, runN_2, runZ_3, runN_3, runZ_4, runN_4, runZ_5, runN_5, runZ_6, runN_6, runZ_7, runN_7, runZ_8, runN_8, List.replicate_succ, List.replicate_zero, reduceIte, ite_true, ite_false, Bool.not_true, Bool.not_false, Bool.true_and, Bool.false_and, Bool.and_true, Bool.and_false, Bool.false_eq_true, List.set_cons_zero, List.set_cons_succ, Option.bind_some, k_law_signs_law_draw, k_law_given_law_draw, k_law_law_begun, k_law_law_signs, k_law_law_given, k_law_law_made, k_law_law_classes, zv_isi_int_non, zv_isi_int_bl, zv_isi_int_int, zv_isi_int_str, zv_isi_int_tup, zv_isi_int_lst, zv_isi_int_dct, zv_isi_bool_non, zv_isi_bool_bl, zv_isi_bool_int, zv_isi_bool_str, zv_isi_bool_tup, zv_isi_bool_lst, zv_isi_bool_dct, zv_isi_str_non, zv_isi_str_bl, zv_isi_str_int, zv_isi_str_str, zv_isi_str_tup, zv_isi_str_lst, zv_isi_str_dct, zv_isi_tuple_non, zv_isi_tuple_bl, zv_isi_tuple_int, zv_isi_tuple_str, zv_isi_tuple_tup, zv_isi_tuple_lst, zv_isi_tuple_dct, zv_isi_list_non, zv_isi_list_bl, zv_isi_list_int, zv_isi_list_str, zv_isi_list_tup, zv_isi_list_lst, zv_isi_list_dct, zv_isi_dict_non, zv_isi_dict_bl, zv_isi_dict_int, zv_isi_dict_str, zv_isi_dict_tup, zv_isi_dict_lst, zv_isi_dict_dct, zv_lt_ii, zv_le_ii, zv_gt_ii, zv_ge_ii, zv_eq, zv_ne, zv_is_non, zv_isnot_non, zv_is_bl, zv_isnot_bl, zv_is_int, zv_isnot_int, zv_is_str, zv_isnot_str, zv_is_tup, zv_isnot_tup, zv_is_lst, zv_isnot_lst, zv_is_dct, zv_isnot_dct, zv_is_exn, zv_isnot_exn, zv_in_ss, zv_notin_ss, zv_add, zv_sub, zv_len_s, zv_len_l, zv_len_t, zv_len_r, zv_int_i, zv_int_b, zv_list_l, zv_list_t, zv_tuple_l, zv_tuple_t, zv_all, zv_any, zv_sum, zv_max2, zv_min2, zv_abs, zv_repr_n, zv_repr_b, zv_repr_l, zv_repr_t, zv_enum, zv_zip, zv_it_l, zv_it_t, zv_it_s, zv_it_r, zv_ix_l, zv_ix_t, zv_ix_s, zv_sl_l, zv_sl_t, zv_sl_s, zv_me_join, zv_me_lstrip, zv_me_index, zv_me_split, zv_isDct_non, zv_isDct_bl, zv_isDct_int, zv_isDct_str, zv_isDct_tup, zv_isDct_lst, zv_isDct_dct, zv_isMut_non, zv_isMut_bl, zv_isMut_int, zv_isMut_str, zv_isMut_tup, zv_isMut_lst, zv_isMut_dct, zv_eq_ii, zv_eq_ss, zv_eq_bb, zv_eq_nn, zv_eq_nbl, zv_eq_bln, zv_eq_nint, zv_eq_intn, zv_eq_nstr, zv_eq_strn, zv_eq_is, zv_eq_si, appG_e, extG_e, popG_e, zv_mul, zv_mod, zv_fdiv, zv_adds, zv_mull, zv_addl, zv_addt, zv_pow, zv_repr_i, zv_range, zv_range2, zv_lstrip, zv_muls]
  (first | with_reducible refine trx_bB0 (tr_ixl (Q := sm) k0 ?_ ?_) (by decide) ?_ | with_reducible refine trx_bBM (tr_ixl (Q := sm) k0 ?_ ?_) (by decide) ?_ | with_reducible refine trx_bBN (tr_ixl (Q := sm) k0 ?_ ?_) (by decide) ?_ | with_reducible refine trx_bR0 (tr_ixl (Q := sm) k0 ?_ ?_) (by decide) ?_ | with_reducible refine trx_bRM (tr_ixl (Q := sm) k0 ?_ ?_) (by decide) ?_ | with_reducible refine trx_bRN (tr_ixl (Q := sm) k0 ?_ ?_) (by decide) ?_ | with_reducible refine trx_bF0 (tr_ixl (Q := sm) k0 ?_ ?_) (by decide) ?_ | with_reducible refine trx_bFM (tr_ixl (Q := sm) k0 ?_ ?_) (by decide) ?_ | with_reducible refine trx_bFN (tr_ixl (Q := sm) k0 ?_ ?_) (by decide) ?_ | with_reducible refine trx_bX (tr_ixl (Q := sm) k0 ?_ ?_) (by decide) ?_ | with_reducible refine trx_pB0 (tr_ixl (Q := sm) k0 ?_ ?_) (by decide) ?_ | with_reducible refine trx_pBM (tr_ixl (Q := sm) k0 ?_ ?_) (by decide) ?_ | with_reducible refine trx_pBN (tr_ixl (Q := sm) k0 ?_ ?_) (by decide) ?_ | with_reducible refine trx_pR0 (tr_ixl (Q := sm) k0 ?_ ?_) (by decide) ?_ | with_reducible refine trx_pRM (tr_ixl (Q := sm) k0 ?_ ?_) (by decide) ?_ | with_reducible refine trx_pRN (tr_ixl (Q := sm) k0 ?_ ?_) (by decide) ?_ | with_reducible refine trx_pF0 (tr_ixl (Q := sm) k0 ?_ ?_) (by decide) ?_ | with_reducible refine trx_pFM (tr_ixl (Q := sm) k0 ?_ ?_) (by decide) ?_ | with_reducible refine trx_pFN (tr_ixl (Q := sm) k0 ?_ ?_) (by decide) ?_ | with_reducible refine trx_pX (tr_ixl (Q := sm) k0 ?_ ?_) (by decide) ?_ | with_reducible refine trx_oM (tr_ixl (Q := sm) k0 ?_ ?_) (by decide) ?_ | with_reducible refine trx_oN (tr_ixl (Q := sm) k0 ?_ ?_) (by decide) ?_ | with_reducible refine trx_q (tr_ixl (Q := sm) k0 ?_ ?_) (by decide) ?_ | with_reducible refine trx_z (tr_ixl (Q := sm) k0 ?_ ?_) (by decide) ?_)
  · exact k1
  · intro d hd
    simp only [List.mem_cons, List.not_mem_nil, or_false] at hd
    rcases hd with rfl | rfl | rfl | rfl | rfl
    · exact ⟨_, rfl, by decide, by decide⟩
    · exact ⟨_, rfl, by decide, by decide⟩
    · exact ⟨_, rfl, by decide, by decide⟩
    · exact ⟨_, rfl, by decide, by decide⟩
    · exact ⟨_, rfl, i0, i1⟩
  · intro d hd
    try simp -implicitDefEqProofs (disch := first | assumption | omega | (simp only [len_app, size_line, one_len, List.length_append, List.length_cons, List.length_nil, List.length_map]; omega)) only [ret_bnd, stk_bnd, bnd_bnd, ofO_some, ofO_none, bnd_if, nox_ret, nox_if, ofO_if, getS_0, getS_s, ev_c, ev_v, ev_bin, ev_neg, ev_not, ev_cmp, ev_chn, ev_and, ev_or, ev_ite, ev_ix, ev_sl00, ev_sl10, ev_sl01, ev_sl11, intM_i, ev_rev, ev_tup, ev_lst, ev_dct, ev_call, ev_bi, ev_isi, ev_me, ev_get, ev_lc, evs_0, evs_1, evB_ret, evBR_ret, evBF_ret, evB_if, evBR_if, evBF_if, flp_0, offs_0, flp_int, flp_bl, flp_str, flp_non, flp_lst, flp_dct, offs_c, vars, varss, List.mem_cons, List.mem_append, List.not_mem_nil, or_false, false_or, or_self, or_true, true_or, Nat.reduceEqDiff, decide_true, decide_false, isL_l, ownL_d, appF_d, setF_d, setG_e, setH_e, retF_d, retG_t, retG_f, eq_self, ex_pass, ex_brk, ex_cnt, ex_ret, ex_retn, ex_retv, ex_retc, ex_set, ex_own, ex_par, ex_app, ex_seti, ex_bad, ex_ext, ex_pop, extF_d, popF_d, ex_ex, ex_ite, ex_forR, ex_for, exs_0, exs_1, seqF_n, seqF_r, seqF_rn, seqF_b, seqF_c, tbl_nm, tbl_tp, tgs, tgss, asg_nm, asg_tp, asgs_0, asgs_1, ownF_l, ownF_n, parF_e, ev_mk, ev_isc, ev_fld, ex_raise, ex_tryk, raiseF_e, tryF_n, tryF_r, tryF_rn, tryF_x, seqF_x, thr_bnd, evB_thr, evBR_thr, evBF_thr, outM_exc, outM_ret, outM_retn, outM_retif, outM_nxt, outM_if, outMN_retn, outMN_nxt, ini_1, ini_0, ifD_t, ifD_f, ifD_b, if_and, if_or, notD_b, negD_i, revD_l, runZ_0, runN_0, runZ_1, runN_1, runZ_2, runN_2, runZ_3, runN_3, runZ_4, runN_4, runZ_5, runN_5, runZ_6, runN_6, runZ_7, runN_7, runZ_8, runN_8, List.replicate_succ, List.replicate_zero, reduceIte, ite_true, ite_false, Bool.not_true, Bool.not_false, Bool.true_and, Bool.false_and, Bool.and_true, Bool.and_false, Bool.false_eq_true, List.set_cons_zero, List.set_cons_succ, Option.bind_some, k_law_signs_law_draw, k_law_given_law_draw, k_law_law_begun, k_law_law_signs, k_law_law_given, k_law_law_made, k_law_law_classes, zv_isi_int_non, zv_isi_int_bl, zv_isi_int_int, zv_isi_int_str, zv_isi_int_tup, zv_isi_int_lst, zv_isi_int_dct, zv_isi_bool_non, zv_isi_bool_bl, zv_isi_bool_int, zv_isi_bool_str, zv_isi_bool_tup, zv_isi_bool_lst, zv_isi_bool_dct, zv_isi_str_non, zv_isi_str_bl, zv_isi_str_int, zv_isi_str_str, zv_isi_str_tup, zv_isi_str_lst, zv_isi_str_dct, zv_isi_tuple_non, zv_isi_tuple_bl, zv_isi_tuple_int, zv_isi_tuple_str, zv_isi_tuple_tup, zv_isi_tuple_lst, zv_isi_tuple_dct, zv_isi_list_non, zv_isi_list_bl, zv_isi_list_int, zv_isi_list_str, zv_isi_list_tup, zv_isi_list_lst, zv_isi_list_dct, zv_isi_dict_non, zv_isi_dict_bl, zv_isi_dict_int, zv_isi_dict_str, zv_isi_dict_tup, zv_isi_dict_lst, zv_isi_dict_dct, zv_lt_ii, zv_le_ii, zv_gt_ii, zv_ge_ii, zv_eq, zv_ne, zv_is_non, zv_isnot_non, zv_is_bl, zv_isnot_bl, zv_is_int, zv_isnot_int, zv_is_str, zv_isnot_str, zv_is_tup, zv_isnot_tup, zv_is_lst, zv_isnot_lst, zv_is_dct, zv_isnot_dct, zv_is_exn, zv_isnot_exn, zv_in_ss, zv_notin_ss, zv_add, zv_sub, zv_len_s, zv_len_l, zv_len_t, zv_len_r, zv_int_i, zv_int_b, zv_list_l, zv_list_t, zv_tuple_l, zv_tuple_t, zv_all, zv_any, zv_sum, zv_max2, zv_min2, zv_abs, zv_repr_n, zv_repr_b, zv_repr_l, zv_repr_t, zv_enum, zv_zip, zv_it_l, zv_it_t, zv_it_s, zv_it_r, zv_ix_l, zv_ix_t, zv_ix_s, zv_sl_l, zv_sl_t, zv_sl_s, zv_me_join, zv_me_lstrip, zv_me_index, zv_me_split, zv_isDct_non, zv_isDct_bl, zv_isDct_int, zv_isDct_str, zv_isDct_tup, zv_isDct_lst, zv_isDct_dct, zv_isMut_non, zv_isMut_bl, zv_isMut_int, zv_isMut_str, zv_isMut_tup, zv_isMut_lst, zv_isMut_dct, zv_eq_ii, zv_eq_ss, zv_eq_bb, zv_eq_nn, zv_eq_nbl, zv_eq_bln, zv_eq_nint, zv_eq_intn, zv_eq_nstr, zv_eq_strn, zv_eq_is, zv_eq_si, appG_e, extG_e, popG_e, zv_mul, zv_mod, zv_fdiv, zv_adds, zv_mull, zv_addl, zv_addt, zv_pow, zv_repr_i, zv_range, zv_range2, zv_lstrip, zv_muls]
    exact tr_rt hd
theorem sm_nb {d : D} (h : sm d) : NB 0 40 d := by
  obtain ⟨i, rfl, h0, h1⟩ := h
  exact nb_int (by omega)
theorem late_at {r p w : D} : atI (lateL r p w) 2 = some (.exn S_BadRow [(S_word, w), (S_row, r)]) := by kernel_rfl
theorem late_row {r w : D} : fldD S_row xcs (.exn S_BadRow [(S_word, w), (S_row, r)]) = some r := by kernel_rfl
theorem turn2 {s t r p w : D} {a b c d g h i j : Option D} (hr : sm r) (hp : sm p) (hw : sm w) : exs CL 100000 (bT.drop 8) [some s, some (.obj 0), a, some t, some r, some p, some w, b, c, d, some (.lst (lateL r p w)), some (.lst [r, p, r, w]), g, h, i, j] [11, 8] = ret (.nxt [some s, some (.obj 0), a, some t, some r, some p, some w, b, c, d, some (.lst (lateL r p w)), some (.lst [r, p, r, w]), g, h, i, j] [11, 8]) := by
  have n1 : Nic (.lst [r, p, r, w]) := (nb_lst (k := 0) (w := 40) (n := 4) (fun d hd => by
    simp only [List.mem_cons, List.not_mem_nil, or_false] at hd
    rcases hd with rfl | rfl | rfl | rfl
    · exact sm_nb hr
    · exact sm_nb hp
    · exact sm_nb hr
    · exact sm_nb hw) (show [r, p, r, w].length ≤ 4 from Nat.le_refl 4)).nic (by decide) (by decide)
  have n2 : Nic r := (sm_nb hr).nic (by decide) (by decide)
  show exs CL 100000 [.ite (.or (.cmp .ne (.bi .repr [.v 11]) (.bi .repr [.lst [.v 4, .v 5, .v 4, .v 6]])) (.cmp .ne (.bi .repr [.fld (.ix (.v 10) (.c (.int 2))) S_row xcs]) (.bi .repr [.v 4]))) [.ret (.c (.bl false))] []] _ _ = _
  have ne : ∀ z : Str, (Option.map (fun x => !x) (some (decide (z = z)))) = some false := fun z => by simp
  simp -implicitDefEqProofs (disch := first | assumption | omega | (simp only [len_app, size_line, one_len, List.length_append, List.length_cons, List.length_nil, List.length_map]; omega)) only [ret_bnd, stk_bnd, bnd_bnd, ofO_some, ofO_none, bnd_if, nox_ret, nox_if, ofO_if, getS_0, getS_s, ev_c, ev_v, ev_bin, ev_neg, ev_not, ev_cmp, ev_chn, ev_and, ev_or, ev_ite, ev_ix, ev_sl00, ev_sl10, ev_sl01, ev_sl11, intM_i, ev_rev, ev_tup, ev_lst, ev_dct, ev_call, ev_bi, ev_isi, ev_me, ev_get, ev_lc, evs_0, evs_1, evB_ret, evBR_ret, evBF_ret, evB_if, evBR_if, evBF_if, flp_0, offs_0, flp_int, flp_bl, flp_str, flp_non, flp_lst, flp_dct, offs_c, vars, varss, List.mem_cons, List.mem_append, List.not_mem_nil, or_false, false_or, or_self, or_true, true_or, Nat.reduceEqDiff, decide_true, decide_false, isL_l, ownL_d, appF_d, setF_d, setG_e, setH_e, retF_d, retG_t, retG_f, eq_self, ex_pass, ex_brk, ex_cnt, ex_ret, ex_retn, ex_retv, ex_retc, ex_set, ex_own, ex_par, ex_app, ex_seti, ex_bad, ex_ext, ex_pop, extF_d, popF_d, ex_ex, ex_ite, ex_forR, ex_for, exs_0, exs_1, seqF_n, seqF_r, seqF_rn, seqF_b, seqF_c, tbl_nm, tbl_tp, tgs, tgss, asg_nm, asg_tp, asgs_0, asgs_1, ownF_l, ownF_n, parF_e, ev_mk, ev_isc, ev_fld, ex_raise, ex_tryk, raiseF_e, tryF_n, tryF_r, tryF_rn, tryF_x, seqF_x, thr_bnd, evB_thr, evBR_thr, evBF_thr, outM_exc, outM_ret, outM_retn, outM_retif, outM_nxt, outM_if, outMN_retn, outMN_nxt, ini_1, ini_0, ifD_t, ifD_f, ifD_b, if_and, if_or, notD_b, negD_i, revD_l, runZ_0, runN_0, runZ_1, runN_1, runZ_2, runN_2, runZ_3, runN_3, runZ_4, runN_4, runZ_5, runN_5, runZ_6, runN_6, runZ_7, runN_7, runZ_8, runN_8, List.replicate_succ, List.replicate_zero, reduceIte, ite_true, ite_false, Bool.not_true, Bool.not_false, Bool.true_and, Bool.false_and, Bool.and_true, Bool.and_false, Bool.false_eq_true, List.set_cons_zero, List.set_cons_succ, Option.bind_some, k_law_signs_law_draw, k_law_given_law_draw, k_law_law_begun, k_law_law_signs, k_law_law_given, k_law_law_made, k_law_law_classes, zv_isi_int_non, zv_isi_int_bl, zv_isi_int_int, zv_isi_int_str, zv_isi_int_tup, zv_isi_int_lst, zv_isi_int_dct, zv_isi_bool_non, zv_isi_bool_bl, zv_isi_bool_int, zv_isi_bool_str, zv_isi_bool_tup, zv_isi_bool_lst, zv_isi_bool_dct, zv_isi_str_non, zv_isi_str_bl, zv_isi_str_int, zv_isi_str_str, zv_isi_str_tup, zv_isi_str_lst, zv_isi_str_dct, zv_isi_tuple_non, zv_isi_tuple_bl, zv_isi_tuple_int, zv_isi_tuple_str, zv_isi_tuple_tup, zv_isi_tuple_lst, zv_isi_tuple_dct, zv_isi_list_non, zv_isi_list_bl, zv_isi_list_int, zv_isi_list_str, zv_isi_list_tup, zv_isi_list_lst, zv_isi_list_dct, zv_isi_dict_non, zv_isi_dict_bl, zv_isi_dict_int, zv_isi_dict_str, zv_isi_dict_tup, zv_isi_dict_lst, zv_isi_dict_dct, zv_lt_ii, zv_le_ii, zv_gt_ii, zv_ge_ii, zv_eq, zv_ne, zv_is_non, zv_isnot_non, zv_is_bl, zv_isnot_bl, zv_is_int, zv_isnot_int, zv_is_str, zv_isnot_str, zv_is_tup, zv_isnot_tup, zv_is_lst, zv_isnot_lst, zv_is_dct, zv_isnot_dct, zv_is_exn, zv_isnot_exn, zv_in_ss, zv_notin_ss, zv_add, zv_sub, zv_len_s, zv_len_l, zv_len_t, zv_len_r, zv_int_i, zv_int_b, zv_list_l, zv_list_t, zv_tuple_l, zv_tuple_t, zv_all, zv_any, zv_sum, zv_max2, zv_min2, zv_abs, zv_repr_n, zv_repr_b, zv_repr_l, zv_repr_t, zv_enum, zv_zip, zv_it_l, zv_it_t, zv_it_s, zv_it_r, zv_ix_l, zv_ix_t, zv_ix_s, zv_sl_l, zv_sl_t, zv_sl_s, zv_me_join, zv_me_lstrip, zv_me_index, zv_me_split, zv_isDct_non, zv_isDct_bl, zv_isDct_int, zv_isDct_str, zv_isDct_tup, zv_isDct_lst, zv_isDct_dct, zv_isMut_non, zv_isMut_bl, zv_isMut_int, zv_isMut_str, zv_isMut_tup, zv_isMut_lst, zv_isMut_dct, zv_eq_ii, zv_eq_ss, zv_eq_bb, zv_eq_nn, zv_eq_nbl, zv_eq_bln, zv_eq_nint, zv_eq_intn, zv_eq_nstr, zv_eq_strn, zv_eq_is, zv_eq_si, appG_e, extG_e, popG_e, zv_mul, zv_mod, zv_fdiv, zv_adds, zv_mull, zv_addl, zv_addt, zv_pow, zv_repr_i, zv_range, zv_range2, zv_lstrip, zv_muls, repr_nic n1, repr_nic n2, late_at, late_row, eq_self, ne, Option.map_some]
def I1 (ns : List Int) (r : Ev) (o : List Nat) : Prop := ∃ a b c d e f g h i j k l m n, r = [some (.scr ns), some (.obj 0), a, b, c, d, e, f, g, h, i, j, k, l, m, n] ∧ (o = [] ∨ o = [11, 8])
theorem tail (s m : Option D) (a b c d e f g h i j k l p n : Option D) (o : List Nat) : exs CL 100000 (b_law.drop 2) [s, m, a, b, c, d, e, f, g, h, i, j, k, l, p, n] o = ret (.ret (.bl true)) := by funext st; kernel_rfl
theorem law_ok (ns : List Int) (hn : ns.length ≤ 63) : ∃ st, g_law [.scr ns] none = .ok (.bl true) st := by
  obtain ⟨st0, e0, s0⟩ := beg ns hn
  rw [g_law, show b_law = (.set (.nm 1) (.call S__law_begun [.v 0])) :: (.for_ (.nm 2) true (.bi .range [.c (.int 4)]) bT) :: b_law.drop 2 from rfl]
  simp -implicitDefEqProofs (disch := first | assumption | omega | (simp only [len_app, size_line, one_len, List.length_append, List.length_cons, List.length_nil, List.length_map]; omega)) only [ret_bnd, stk_bnd, bnd_bnd, ofO_some, ofO_none, bnd_if, nox_ret, nox_if, ofO_if, getS_0, getS_s, ev_c, ev_v, ev_bin, ev_neg, ev_not, ev_cmp, ev_chn, ev_and, ev_or, ev_ite, ev_ix, ev_sl00, ev_sl10, ev_sl01, ev_sl11, intM_i, ev_rev, ev_tup, ev_lst, ev_dct, ev_call, ev_bi, ev_isi, ev_me, ev_get, ev_lc, evs_0, evs_1, evB_ret, evBR_ret, evBF_ret, evB_if, evBR_if, evBF_if, flp_0, offs_0, flp_int, flp_bl, flp_str, flp_non, flp_lst, flp_dct, offs_c, vars, varss, List.mem_cons, List.mem_append, List.not_mem_nil, or_false, false_or, or_self, or_true, true_or, Nat.reduceEqDiff, decide_true, decide_false, isL_l, ownL_d, appF_d, setF_d, setG_e, setH_e, retF_d, retG_t, retG_f, eq_self, ex_pass, ex_brk, ex_cnt, ex_ret, ex_retn, ex_retv, ex_retc, ex_set, ex_own, ex_par, ex_app, ex_seti, ex_bad, ex_ext, ex_pop, extF_d, popF_d, ex_ex, ex_ite, ex_forR, ex_for, exs_0, exs_1, seqF_n, seqF_r, seqF_rn, seqF_b, seqF_c, tbl_nm, tbl_tp, tgs, tgss, asg_nm, asg_tp, asgs_0, asgs_1, ownF_l, ownF_n, parF_e, ev_mk, ev_isc, ev_fld, ex_raise, ex_tryk, raiseF_e, tryF_n, tryF_r, tryF_rn, tryF_x, seqF_x, thr_bnd, evB_thr, evBR_thr, evBF_thr, outM_exc, outM_ret, outM_retn, outM_retif, outM_nxt, outM_if, outMN_retn, outMN_nxt, ini_1, ini_0, ifD_t, ifD_f, ifD_b, if_and, if_or, notD_b, negD_i, revD_l, runZ_0, runN_0, runZ_1, runN_1, runZ_2, runN_2, runZ_3, runN_3, runZ_4, runN_4, runZ_5, runN_5, runZ_6, runN_6, runZ_7, runN_7, runZ_8, runN_8, List.replicate_succ, List.replicate_zero, reduceIte, ite_true, ite_false, Bool.not_true, Bool.not_false, Bool.true_and, Bool.false_and, Bool.and_true, Bool.and_false, Bool.false_eq_true, List.set_cons_zero, List.set_cons_succ, Option.bind_some, k_law_signs_law_draw, k_law_given_law_draw, k_law_law_begun, k_law_law_signs, k_law_law_given, k_law_law_made, k_law_law_classes, zv_isi_int_non, zv_isi_int_bl, zv_isi_int_int, zv_isi_int_str, zv_isi_int_tup, zv_isi_int_lst, zv_isi_int_dct, zv_isi_bool_non, zv_isi_bool_bl, zv_isi_bool_int, zv_isi_bool_str, zv_isi_bool_tup, zv_isi_bool_lst, zv_isi_bool_dct, zv_isi_str_non, zv_isi_str_bl, zv_isi_str_int, zv_isi_str_str, zv_isi_str_tup, zv_isi_str_lst, zv_isi_str_dct, zv_isi_tuple_non, zv_isi_tuple_bl, zv_isi_tuple_int, zv_isi_tuple_str, zv_isi_tuple_tup, zv_isi_tuple_lst, zv_isi_tuple_dct, zv_isi_list_non, zv_isi_list_bl, zv_isi_list_int, zv_isi_list_str, zv_isi_list_tup, zv_isi_list_lst, zv_isi_list_dct, zv_isi_dict_non, zv_isi_dict_bl, zv_isi_dict_int, zv_isi_dict_str, zv_isi_dict_tup, zv_isi_dict_lst, zv_isi_dict_dct, zv_lt_ii, zv_le_ii, zv_gt_ii, zv_ge_ii, zv_eq, zv_ne, zv_is_non, zv_isnot_non, zv_is_bl, zv_isnot_bl, zv_is_int, zv_isnot_int, zv_is_str, zv_isnot_str, zv_is_tup, zv_isnot_tup, zv_is_lst, zv_isnot_lst, zv_is_dct, zv_isnot_dct, zv_is_exn, zv_isnot_exn, zv_in_ss, zv_notin_ss, zv_add, zv_sub, zv_len_s, zv_len_l, zv_len_t, zv_len_r, zv_int_i, zv_int_b, zv_list_l, zv_list_t, zv_tuple_l, zv_tuple_t, zv_all, zv_any, zv_sum, zv_max2, zv_min2, zv_abs, zv_repr_n, zv_repr_b, zv_repr_l, zv_repr_t, zv_enum, zv_zip, zv_it_l, zv_it_t, zv_it_s, zv_it_r, zv_ix_l, zv_ix_t, zv_ix_s, zv_sl_l, zv_sl_t, zv_sl_s, zv_me_join, zv_me_lstrip, zv_me_index, zv_me_split, zv_isDct_non, zv_isDct_bl, zv_isDct_int, zv_isDct_str, zv_isDct_tup, zv_isDct_lst, zv_isDct_dct, zv_isMut_non, zv_isMut_bl, zv_isMut_int, zv_isMut_str, zv_isMut_tup, zv_isMut_lst, zv_isMut_dct, zv_eq_ii, zv_eq_ss, zv_eq_bb, zv_eq_nn, zv_eq_nbl, zv_eq_bln, zv_eq_nint, zv_eq_intn, zv_eq_nstr, zv_eq_strn, zv_eq_is, zv_eq_si, appG_e, extG_e, popG_e, zv_mul, zv_mod, zv_fdiv, zv_adds, zv_mull, zv_addl, zv_addt, zv_pow, zv_repr_i, zv_range, zv_range2, zv_lstrip, zv_muls]
  refine begin_use (c := 100000) e0 s0 ?_ (by decide)
  simp -implicitDefEqProofs (disch := first | assumption | omega | (simp only [len_app, size_line, one_len, List.length_append, List.length_cons, List.length_nil, List.length_map]; omega)) only [ret_bnd, stk_bnd, bnd_bnd, ofO_some, ofO_none, bnd_if, nox_ret, nox_if, ofO_if, getS_0, getS_s, ev_c, ev_v, ev_bin, ev_neg, ev_not, ev_cmp, ev_chn, ev_and, ev_or, ev_ite, ev_ix, ev_sl00, ev_sl10, ev_sl01, ev_sl11, intM_i, ev_rev, ev_tup, ev_lst, ev_dct, ev_call, ev_bi, ev_isi, ev_me, ev_get, ev_lc, evs_0, evs_1, evB_ret, evBR_ret, evBF_ret, evB_if, evBR_if, evBF_if, flp_0, offs_0, flp_int, flp_bl, flp_str, flp_non, flp_lst, flp_dct, offs_c, vars, varss, List.mem_cons, List.mem_append, List.not_mem_nil, or_false, false_or, or_self, or_true, true_or, Nat.reduceEqDiff, decide_true, decide_false, isL_l, ownL_d, appF_d, setF_d, setG_e, setH_e, retF_d, retG_t, retG_f, eq_self, ex_pass, ex_brk, ex_cnt, ex_ret, ex_retn, ex_retv, ex_retc, ex_set, ex_own, ex_par, ex_app, ex_seti, ex_bad, ex_ext, ex_pop, extF_d, popF_d, ex_ex, ex_ite, ex_forR, ex_for, exs_0, exs_1, seqF_n, seqF_r, seqF_rn, seqF_b, seqF_c, tbl_nm, tbl_tp, tgs, tgss, asg_nm, asg_tp, asgs_0, asgs_1, ownF_l, ownF_n, parF_e, ev_mk, ev_isc, ev_fld, ex_raise, ex_tryk, raiseF_e, tryF_n, tryF_r, tryF_rn, tryF_x, seqF_x, thr_bnd, evB_thr, evBR_thr, evBF_thr, outM_exc, outM_ret, outM_retn, outM_retif, outM_nxt, outM_if, outMN_retn, outMN_nxt, ini_1, ini_0, ifD_t, ifD_f, ifD_b, if_and, if_or, notD_b, negD_i, revD_l, runZ_0, runN_0, runZ_1, runN_1, runZ_2, runN_2, runZ_3, runN_3, runZ_4, runN_4, runZ_5, runN_5, runZ_6, runN_6, runZ_7, runN_7, runZ_8, runN_8, List.replicate_succ, List.replicate_zero, reduceIte, ite_true, ite_false, Bool.not_true, Bool.not_false, Bool.true_and, Bool.false_and, Bool.and_true, Bool.and_false, Bool.false_eq_true, List.set_cons_zero, List.set_cons_succ, Option.bind_some, k_law_signs_law_draw, k_law_given_law_draw, k_law_law_begun, k_law_law_signs, k_law_law_given, k_law_law_made, k_law_law_classes, zv_isi_int_non, zv_isi_int_bl, zv_isi_int_int, zv_isi_int_str, zv_isi_int_tup, zv_isi_int_lst, zv_isi_int_dct, zv_isi_bool_non, zv_isi_bool_bl, zv_isi_bool_int, zv_isi_bool_str, zv_isi_bool_tup, zv_isi_bool_lst, zv_isi_bool_dct, zv_isi_str_non, zv_isi_str_bl, zv_isi_str_int, zv_isi_str_str, zv_isi_str_tup, zv_isi_str_lst, zv_isi_str_dct, zv_isi_tuple_non, zv_isi_tuple_bl, zv_isi_tuple_int, zv_isi_tuple_str, zv_isi_tuple_tup, zv_isi_tuple_lst, zv_isi_tuple_dct, zv_isi_list_non, zv_isi_list_bl, zv_isi_list_int, zv_isi_list_str, zv_isi_list_tup, zv_isi_list_lst, zv_isi_list_dct, zv_isi_dict_non, zv_isi_dict_bl, zv_isi_dict_int, zv_isi_dict_str, zv_isi_dict_tup, zv_isi_dict_lst, zv_isi_dict_dct, zv_lt_ii, zv_le_ii, zv_gt_ii, zv_ge_ii, zv_eq, zv_ne, zv_is_non, zv_isnot_non, zv_is_bl, zv_isnot_bl, zv_is_int, zv_isnot_int, zv_is_str, zv_isnot_str, zv_is_tup, zv_isnot_tup, zv_is_lst, zv_isnot_lst, zv_is_dct, zv_isnot_dct, zv_is_exn, zv_isnot_exn, zv_in_ss, zv_notin_ss, zv_add, zv_sub, zv_len_s, zv_len_l, zv_len_t, zv_len_r, zv_int_i, zv_int_b, zv_list_l, zv_list_t, zv_tuple_l, zv_tuple_t, zv_all, zv_any, zv_sum, zv_max2, zv_min2, zv_abs, zv_repr_n, zv_repr_b, zv_repr_l, zv_repr_t, zv_enum, zv_zip, zv_it_l, zv_it_t, zv_it_s, zv_it_r, zv_ix_l, zv_ix_t, zv_ix_s, zv_sl_l, zv_sl_t, zv_sl_s, zv_me_join, zv_me_lstrip, zv_me_index, zv_me_split, zv_isDct_non, zv_isDct_bl, zv_isDct_int, zv_isDct_str, zv_isDct_tup, zv_isDct_lst, zv_isDct_dct, zv_isMut_non, zv_isMut_bl, zv_isMut_int, zv_isMut_str, zv_isMut_tup, zv_isMut_lst, zv_isMut_dct, zv_eq_ii, zv_eq_ss, zv_eq_bb, zv_eq_nn, zv_eq_nbl, zv_eq_bln, zv_eq_nint, zv_eq_intn, zv_eq_nstr, zv_eq_strn, zv_eq_is, zv_eq_si, appG_e, extG_e, popG_e, zv_mul, zv_mod, zv_fdiv, zv_adds, zv_mull, zv_addl, zv_addt, zv_pow, zv_repr_i, zv_range, zv_range2, zv_lstrip, zv_muls]
  (first | with_reducible refine trx_bB0 (tr_forN (c := 200) (N := 4) (I := I1 ns) ?_ ?_ ?_) (by decide) ?_ | with_reducible refine trx_bBM (tr_forN (c := 200) (N := 4) (I := I1 ns) ?_ ?_ ?_) (by decide) ?_ | with_reducible refine trx_bBN (tr_forN (c := 200) (N := 4) (I := I1 ns) ?_ ?_ ?_) (by decide) ?_ | with_reducible refine trx_bR0 (tr_forN (c := 200) (N := 4) (I := I1 ns) ?_ ?_ ?_) (by decide) ?_ | with_reducible refine trx_bRM (tr_forN (c := 200) (N := 4) (I := I1 ns) ?_ ?_ ?_) (by decide) ?_ | with_reducible refine trx_bRN (tr_forN (c := 200) (N := 4) (I := I1 ns) ?_ ?_ ?_) (by decide) ?_ | with_reducible refine trx_bF0 (tr_forN (c := 200) (N := 4) (I := I1 ns) ?_ ?_ ?_) (by decide) ?_ | with_reducible refine trx_bFM (tr_forN (c := 200) (N := 4) (I := I1 ns) ?_ ?_ ?_) (by decide) ?_ | with_reducible refine trx_bFN (tr_forN (c := 200) (N := 4) (I := I1 ns) ?_ ?_ ?_) (by decide) ?_ | with_reducible refine trx_bX (tr_forN (c := 200) (N := 4) (I := I1 ns) ?_ ?_ ?_) (by decide) ?_ | with_reducible refine trx_pB0 (tr_forN (c := 200) (N := 4) (I := I1 ns) ?_ ?_ ?_) (by decide) ?_ | with_reducible refine trx_pBM (tr_forN (c := 200) (N := 4) (I := I1 ns) ?_ ?_ ?_) (by decide) ?_ | with_reducible refine trx_pBN (tr_forN (c := 200) (N := 4) (I := I1 ns) ?_ ?_ ?_) (by decide) ?_ | with_reducible refine trx_pR0 (tr_forN (c := 200) (N := 4) (I := I1 ns) ?_ ?_ ?_) (by decide) ?_ | with_reducible refine trx_pRM (tr_forN (c := 200) (N := 4) (I := I1 ns) ?_ ?_ ?_) (by decide) ?_ | with_reducible refine trx_pRN (tr_forN (c := 200) (N := 4) (I := I1 ns) ?_ ?_ ?_) (by decide) ?_ | with_reducible refine trx_pF0 (tr_forN (c := 200) (N := 4) (I := I1 ns) ?_ ?_ ?_) (by decide) ?_ | with_reducible refine trx_pFM (tr_forN (c := 200) (N := 4) (I := I1 ns) ?_ ?_ ?_) (by decide) ?_ | with_reducible refine trx_pFN (tr_forN (c := 200) (N := 4) (I := I1 ns) ?_ ?_ ?_) (by decide) ?_ | with_reducible refine trx_pX (tr_forN (c := 200) (N := 4) (I := I1 ns) ?_ ?_ ?_) (by decide) ?_ | with_reducible refine trx_oM (tr_forN (c := 200) (N := 4) (I := I1 ns) ?_ ?_ ?_) (by decide) ?_ | with_reducible refine trx_oN (tr_forN (c := 200) (N := 4) (I := I1 ns) ?_ ?_ ?_) (by decide) ?_ | with_reducible refine trx_q (tr_forN (c := 200) (N := 4) (I := I1 ns) ?_ ?_ ?_) (by decide) ?_ | with_reducible refine trx_z (tr_forN (c := 200) (N := 4) (I := I1 ns) ?_ ?_ ?_) (by decide) ?_)
  · rw [rng_len]; omega
  · exact ⟨_, _, _, _, _, _, _, _, _, _, _, _, _, _, rfl, .inl rfl⟩
  · rintro d hd r o ⟨a, b, c, e, f, g, h, i, j, k, l, m, n, q, rfl, ho⟩
    rw [show bT = (.par 3 4 (.call S__law_signs [.v 1]) (.call S__law_given [.v 1])) :: (.par 5 6 (.call S__law_given [.v 1]) (.call S__law_given [.v 1])) :: bT.drop 2 from rfl]
    have go : ∀ o : List Nat, (o = [] ∨ o = [11, 8]) → offs o [2] = o ∧ offs (offs o [3]) [4] = o ∧ offs (offs o [5]) [6] = o := by
      rintro _ (rfl | rfl) <;> decide
    obtain ⟨o1, o2, o3⟩ := go o ho
    simp -implicitDefEqProofs (disch := first | assumption | omega | (simp only [len_app, size_line, one_len, List.length_append, List.length_cons, List.length_nil, List.length_map]; omega)) only [ret_bnd, stk_bnd, bnd_bnd, ofO_some, ofO_none, bnd_if, nox_ret, nox_if, ofO_if, getS_0, getS_s, ev_c, ev_v, ev_bin, ev_neg, ev_not, ev_cmp, ev_chn, ev_and, ev_or, ev_ite, ev_ix, ev_sl00, ev_sl10, ev_sl01, ev_sl11, intM_i, ev_rev, ev_tup, ev_lst, ev_dct, ev_call, ev_bi, ev_isi, ev_me, ev_get, ev_lc, evs_0, evs_1, evB_ret, evBR_ret, evBF_ret, evB_if, evBR_if, evBF_if, flp_0, offs_0, flp_int, flp_bl, flp_str, flp_non, flp_lst, flp_dct, offs_c, vars, varss, List.mem_cons, List.mem_append, List.not_mem_nil, or_false, false_or, or_self, or_true, true_or, Nat.reduceEqDiff, decide_true, decide_false, isL_l, ownL_d, appF_d, setF_d, setG_e, setH_e, retF_d, retG_t, retG_f, eq_self, ex_pass, ex_brk, ex_cnt, ex_ret, ex_retn, ex_retv, ex_retc, ex_set, ex_own, ex_par, ex_app, ex_seti, ex_bad, ex_ext, ex_pop, extF_d, popF_d, ex_ex, ex_ite, ex_forR, ex_for, exs_0, exs_1, seqF_n, seqF_r, seqF_rn, seqF_b, seqF_c, tbl_nm, tbl_tp, tgs, tgss, asg_nm, asg_tp, asgs_0, asgs_1, ownF_l, ownF_n, parF_e, ev_mk, ev_isc, ev_fld, ex_raise, ex_tryk, raiseF_e, tryF_n, tryF_r, tryF_rn, tryF_x, seqF_x, thr_bnd, evB_thr, evBR_thr, evBF_thr, outM_exc, outM_ret, outM_retn, outM_retif, outM_nxt, outM_if, outMN_retn, outMN_nxt, ini_1, ini_0, ifD_t, ifD_f, ifD_b, if_and, if_or, notD_b, negD_i, revD_l, runZ_0, runN_0, runZ_1, runN_1, runZ_2, runN_2, runZ_3, runN_3, runZ_4, runN_4, runZ_5, runN_5, runZ_6, runN_6, runZ_7, runN_7, runZ_8, runN_8, List.replicate_succ, List.replicate_zero, reduceIte, ite_true, ite_false, Bool.not_true, Bool.not_false, Bool.true_and, Bool.false_and, Bool.and_true, Bool.and_false, Bool.false_eq_true, List.set_cons_zero, List.set_cons_succ, Option.bind_some, k_law_signs_law_draw, k_law_given_law_draw, k_law_law_begun, k_law_law_signs, k_law_law_given, k_law_law_made, k_law_law_classes, zv_isi_int_non, zv_isi_int_bl, zv_isi_int_int, zv_isi_int_str, zv_isi_int_tup, zv_isi_int_lst, zv_isi_int_dct, zv_isi_bool_non, zv_isi_bool_bl, zv_isi_bool_int, zv_isi_bool_str, zv_isi_bool_tup, zv_isi_bool_lst, zv_isi_bool_dct, zv_isi_str_non, zv_isi_str_bl, zv_isi_str_int, zv_isi_str_str, zv_isi_str_tup, zv_isi_str_lst, zv_isi_str_dct, zv_isi_tuple_non, zv_isi_tuple_bl, zv_isi_tuple_int, zv_isi_tuple_str, zv_isi_tuple_tup, zv_isi_tuple_lst, zv_isi_tuple_dct, zv_isi_list_non, zv_isi_list_bl, zv_isi_list_int, zv_isi_list_str, zv_isi_list_tup, zv_isi_list_lst, zv_isi_list_dct, zv_isi_dict_non, zv_isi_dict_bl, zv_isi_dict_int, zv_isi_dict_str, zv_isi_dict_tup, zv_isi_dict_lst, zv_isi_dict_dct, zv_lt_ii, zv_le_ii, zv_gt_ii, zv_ge_ii, zv_eq, zv_ne, zv_is_non, zv_isnot_non, zv_is_bl, zv_isnot_bl, zv_is_int, zv_isnot_int, zv_is_str, zv_isnot_str, zv_is_tup, zv_isnot_tup, zv_is_lst, zv_isnot_lst, zv_is_dct, zv_isnot_dct, zv_is_exn, zv_isnot_exn, zv_in_ss, zv_notin_ss, zv_add, zv_sub, zv_len_s, zv_len_l, zv_len_t, zv_len_r, zv_int_i, zv_int_b, zv_list_l, zv_list_t, zv_tuple_l, zv_tuple_t, zv_all, zv_any, zv_sum, zv_max2, zv_min2, zv_abs, zv_repr_n, zv_repr_b, zv_repr_l, zv_repr_t, zv_enum, zv_zip, zv_it_l, zv_it_t, zv_it_s, zv_it_r, zv_ix_l, zv_ix_t, zv_ix_s, zv_sl_l, zv_sl_t, zv_sl_s, zv_me_join, zv_me_lstrip, zv_me_index, zv_me_split, zv_isDct_non, zv_isDct_bl, zv_isDct_int, zv_isDct_str, zv_isDct_tup, zv_isDct_lst, zv_isDct_dct, zv_isMut_non, zv_isMut_bl, zv_isMut_int, zv_isMut_str, zv_isMut_tup, zv_isMut_lst, zv_isMut_dct, zv_eq_ii, zv_eq_ss, zv_eq_bb, zv_eq_nn, zv_eq_nbl, zv_eq_bln, zv_eq_nint, zv_eq_intn, zv_eq_nstr, zv_eq_strn, zv_eq_is, zv_eq_si, appG_e, extG_e, popG_e, zv_mul, zv_mod, zv_fdiv, zv_adds, zv_mull, zv_addl, zv_addt, zv_pow, zv_repr_i, zv_range, zv_range2, zv_lstrip, zv_muls, o1]
    (first | with_reducible refine trx_bB0 tr_signs (by decide) ?_ | with_reducible refine trx_bBM tr_signs (by decide) ?_ | with_reducible refine trx_bBN tr_signs (by decide) ?_ | with_reducible refine trx_bR0 tr_signs (by decide) ?_ | with_reducible refine trx_bRM tr_signs (by decide) ?_ | with_reducible refine trx_bRN tr_signs (by decide) ?_ | with_reducible refine trx_bF0 tr_signs (by decide) ?_ | with_reducible refine trx_bFM tr_signs (by decide) ?_ | with_reducible refine trx_bFN tr_signs (by decide) ?_ | with_reducible refine trx_bX tr_signs (by decide) ?_ | with_reducible refine trx_pB0 tr_signs (by decide) ?_ | with_reducible refine trx_pBM tr_signs (by decide) ?_ | with_reducible refine trx_pBN tr_signs (by decide) ?_ | with_reducible refine trx_pR0 tr_signs (by decide) ?_ | with_reducible refine trx_pRM tr_signs (by decide) ?_ | with_reducible refine trx_pRN tr_signs (by decide) ?_ | with_reducible refine trx_pF0 tr_signs (by decide) ?_ | with_reducible refine trx_pFM tr_signs (by decide) ?_ | with_reducible refine trx_pFN tr_signs (by decide) ?_ | with_reducible refine trx_pX tr_signs (by decide) ?_ | with_reducible refine trx_oM tr_signs (by decide) ?_ | with_reducible refine trx_oN tr_signs (by decide) ?_ | with_reducible refine trx_q tr_signs (by decide) ?_ | with_reducible refine trx_z tr_signs (by decide) ?_)
    rintro t ⟨x, rfl, _⟩
    simp -implicitDefEqProofs (disch := first | assumption | omega | (simp only [len_app, size_line, one_len, List.length_append, List.length_cons, List.length_nil, List.length_map]; omega)) only [ret_bnd, stk_bnd, bnd_bnd, ofO_some, ofO_none, bnd_if, nox_ret, nox_if, ofO_if, getS_0, getS_s, ev_c, ev_v, ev_bin, ev_neg, ev_not, ev_cmp, ev_chn, ev_and, ev_or, ev_ite, ev_ix, ev_sl00, ev_sl10, ev_sl01, ev_sl11, intM_i, ev_rev, ev_tup, ev_lst, ev_dct, ev_call, ev_bi, ev_isi, ev_me, ev_get, ev_lc, evs_0, evs_1, evB_ret, evBR_ret, evBF_ret, evB_if, evBR_if, evBF_if, flp_0, offs_0, flp_int, flp_bl, flp_str, flp_non, flp_lst, flp_dct, offs_c, vars, varss, List.mem_cons, List.mem_append, List.not_mem_nil, or_false, false_or, or_self, or_true, true_or, Nat.reduceEqDiff, decide_true, decide_false, isL_l, ownL_d, appF_d, setF_d, setG_e, setH_e, retF_d, retG_t, retG_f, eq_self, ex_pass, ex_brk, ex_cnt, ex_ret, ex_retn, ex_retv, ex_retc, ex_set, ex_own, ex_par, ex_app, ex_seti, ex_bad, ex_ext, ex_pop, extF_d, popF_d, ex_ex, ex_ite, ex_forR, ex_for, exs_0, exs_1, seqF_n, seqF_r, seqF_rn, seqF_b, seqF_c, tbl_nm, tbl_tp, tgs, tgss, asg_nm, asg_tp, asgs_0, asgs_1, ownF_l, ownF_n, parF_e, ev_mk, ev_isc, ev_fld, ex_raise, ex_tryk, raiseF_e, tryF_n, tryF_r, tryF_rn, tryF_x, seqF_x, thr_bnd, evB_thr, evBR_thr, evBF_thr, outM_exc, outM_ret, outM_retn, outM_retif, outM_nxt, outM_if, outMN_retn, outMN_nxt, ini_1, ini_0, ifD_t, ifD_f, ifD_b, if_and, if_or, notD_b, negD_i, revD_l, runZ_0, runN_0, runZ_1, runN_1, runZ_2, runN_2, runZ_3, runN_3, runZ_4, runN_4, runZ_5, runN_5, runZ_6, runN_6, runZ_7, runN_7, runZ_8, runN_8, List.replicate_succ, List.replicate_zero, reduceIte, ite_true, ite_false, Bool.not_true, Bool.not_false, Bool.true_and, Bool.false_and, Bool.and_true, Bool.and_false, Bool.false_eq_true, List.set_cons_zero, List.set_cons_succ, Option.bind_some, k_law_signs_law_draw, k_law_given_law_draw, k_law_law_begun, k_law_law_signs, k_law_law_given, k_law_law_made, k_law_law_classes, zv_isi_int_non, zv_isi_int_bl, zv_isi_int_int, zv_isi_int_str, zv_isi_int_tup, zv_isi_int_lst, zv_isi_int_dct, zv_isi_bool_non, zv_isi_bool_bl, zv_isi_bool_int, zv_isi_bool_str, zv_isi_bool_tup, zv_isi_bool_lst, zv_isi_bool_dct, zv_isi_str_non, zv_isi_str_bl, zv_isi_str_int, zv_isi_str_str, zv_isi_str_tup, zv_isi_str_lst, zv_isi_str_dct, zv_isi_tuple_non, zv_isi_tuple_bl, zv_isi_tuple_int, zv_isi_tuple_str, zv_isi_tuple_tup, zv_isi_tuple_lst, zv_isi_tuple_dct, zv_isi_list_non, zv_isi_list_bl, zv_isi_list_int, zv_isi_list_str, zv_isi_list_tup, zv_isi_list_lst, zv_isi_list_dct, zv_isi_dict_non, zv_isi_dict_bl, zv_isi_dict_int, zv_isi_dict_str, zv_isi_dict_tup, zv_isi_dict_lst, zv_isi_dict_dct, zv_lt_ii, zv_le_ii, zv_gt_ii, zv_ge_ii, zv_eq, zv_ne, zv_is_non, zv_isnot_non, zv_is_bl, zv_isnot_bl, zv_is_int, zv_isnot_int, zv_is_str, zv_isnot_str, zv_is_tup, zv_isnot_tup, zv_is_lst, zv_isnot_lst, zv_is_dct, zv_isnot_dct, zv_is_exn, zv_isnot_exn, zv_in_ss, zv_notin_ss, zv_add, zv_sub, zv_len_s, zv_len_l, zv_len_t, zv_len_r, zv_int_i, zv_int_b, zv_list_l, zv_list_t, zv_tuple_l, zv_tuple_t, zv_all, zv_any, zv_sum, zv_max2, zv_min2, zv_abs, zv_repr_n, zv_repr_b, zv_repr_l, zv_repr_t, zv_enum, zv_zip, zv_it_l, zv_it_t, zv_it_s, zv_it_r, zv_ix_l, zv_ix_t, zv_ix_s, zv_sl_l, zv_sl_t, zv_sl_s, zv_me_join, zv_me_lstrip, zv_me_index, zv_me_split, zv_isDct_non, zv_isDct_bl, zv_isDct_int, zv_isDct_str, zv_isDct_tup, zv_isDct_lst, zv_isDct_dct, zv_isMut_non, zv_isMut_bl, zv_isMut_int, zv_isMut_str, zv_isMut_tup, zv_isMut_lst, zv_isMut_dct, zv_eq_ii, zv_eq_ss, zv_eq_bb, zv_eq_nn, zv_eq_nbl, zv_eq_bln, zv_eq_nint, zv_eq_intn, zv_eq_nstr, zv_eq_strn, zv_eq_is, zv_eq_si, appG_e, extG_e, popG_e, zv_mul, zv_mod, zv_fdiv, zv_adds, zv_mull, zv_addl, zv_addt, zv_pow, zv_repr_i, zv_range, zv_range2, zv_lstrip, zv_muls]
    (first | with_reducible refine trx_bB0 tr_given (by decide) ?_ | with_reducible refine trx_bBM tr_given (by decide) ?_ | with_reducible refine trx_bBN tr_given (by decide) ?_ | with_reducible refine trx_bR0 tr_given (by decide) ?_ | with_reducible refine trx_bRM tr_given (by decide) ?_ | with_reducible refine trx_bRN tr_given (by decide) ?_ | with_reducible refine trx_bF0 tr_given (by decide) ?_ | with_reducible refine trx_bFM tr_given (by decide) ?_ | with_reducible refine trx_bFN tr_given (by decide) ?_ | with_reducible refine trx_bX tr_given (by decide) ?_ | with_reducible refine trx_pB0 tr_given (by decide) ?_ | with_reducible refine trx_pBM tr_given (by decide) ?_ | with_reducible refine trx_pBN tr_given (by decide) ?_ | with_reducible refine trx_pR0 tr_given (by decide) ?_ | with_reducible refine trx_pRM tr_given (by decide) ?_ | with_reducible refine trx_pRN tr_given (by decide) ?_ | with_reducible refine trx_pF0 tr_given (by decide) ?_ | with_reducible refine trx_pFM tr_given (by decide) ?_ | with_reducible refine trx_pFN tr_given (by decide) ?_ | with_reducible refine trx_pX tr_given (by decide) ?_ | with_reducible refine trx_oM tr_given (by decide) ?_ | with_reducible refine trx_oN tr_given (by decide) ?_ | with_reducible refine trx_q tr_given (by decide) ?_ | with_reducible refine trx_z tr_given (by decide) ?_)
    rintro _ ⟨i1, rfl, h1⟩
    simp -implicitDefEqProofs (disch := first | assumption | omega | (simp only [len_app, size_line, one_len, List.length_append, List.length_cons, List.length_nil, List.length_map]; omega)) only [ret_bnd, stk_bnd, bnd_bnd, ofO_some, ofO_none, bnd_if, nox_ret, nox_if, ofO_if, getS_0, getS_s, ev_c, ev_v, ev_bin, ev_neg, ev_not, ev_cmp, ev_chn, ev_and, ev_or, ev_ite, ev_ix, ev_sl00, ev_sl10, ev_sl01, ev_sl11, intM_i, ev_rev, ev_tup, ev_lst, ev_dct, ev_call, ev_bi, ev_isi, ev_me, ev_get, ev_lc, evs_0, evs_1, evB_ret, evBR_ret, evBF_ret, evB_if, evBR_if, evBF_if, flp_0, offs_0, flp_int, flp_bl, flp_str, flp_non, flp_lst, flp_dct, offs_c, vars, varss, List.mem_cons, List.mem_append, List.not_mem_nil, or_false, false_or, or_self, or_true, true_or, Nat.reduceEqDiff, decide_true, decide_false, isL_l, ownL_d, appF_d, setF_d, setG_e, setH_e, retF_d, retG_t, retG_f, eq_self, ex_pass, ex_brk, ex_cnt, ex_ret, ex_retn, ex_retv, ex_retc, ex_set, ex_own, ex_par, ex_app, ex_seti, ex_bad, ex_ext, ex_pop, extF_d, popF_d, ex_ex, ex_ite, ex_forR, ex_for, exs_0, exs_1, seqF_n, seqF_r, seqF_rn, seqF_b, seqF_c, tbl_nm, tbl_tp, tgs, tgss, asg_nm, asg_tp, asgs_0, asgs_1, ownF_l, ownF_n, parF_e, ev_mk, ev_isc, ev_fld, ex_raise, ex_tryk, raiseF_e, tryF_n, tryF_r, tryF_rn, tryF_x, seqF_x, thr_bnd, evB_thr, evBR_thr, evBF_thr, outM_exc, outM_ret, outM_retn, outM_retif, outM_nxt, outM_if, outMN_retn, outMN_nxt, ini_1, ini_0, ifD_t, ifD_f, ifD_b, if_and, if_or, notD_b, negD_i, revD_l, runZ_0, runN_0, runZ_1, runN_1, runZ_2, runN_2, runZ_3, runN_3, runZ_4, runN_4, runZ_5, runN_5, runZ_6, runN_6, runZ_7, runN_7, runZ_8, runN_8, List.replicate_succ, List.replicate_zero, reduceIte, ite_true, ite_false, Bool.not_true, Bool.not_false, Bool.true_and, Bool.false_and, Bool.and_true, Bool.and_false, Bool.false_eq_true, List.set_cons_zero, List.set_cons_succ, Option.bind_some, k_law_signs_law_draw, k_law_given_law_draw, k_law_law_begun, k_law_law_signs, k_law_law_given, k_law_law_made, k_law_law_classes, zv_isi_int_non, zv_isi_int_bl, zv_isi_int_int, zv_isi_int_str, zv_isi_int_tup, zv_isi_int_lst, zv_isi_int_dct, zv_isi_bool_non, zv_isi_bool_bl, zv_isi_bool_int, zv_isi_bool_str, zv_isi_bool_tup, zv_isi_bool_lst, zv_isi_bool_dct, zv_isi_str_non, zv_isi_str_bl, zv_isi_str_int, zv_isi_str_str, zv_isi_str_tup, zv_isi_str_lst, zv_isi_str_dct, zv_isi_tuple_non, zv_isi_tuple_bl, zv_isi_tuple_int, zv_isi_tuple_str, zv_isi_tuple_tup, zv_isi_tuple_lst, zv_isi_tuple_dct, zv_isi_list_non, zv_isi_list_bl, zv_isi_list_int, zv_isi_list_str, zv_isi_list_tup, zv_isi_list_lst, zv_isi_list_dct, zv_isi_dict_non, zv_isi_dict_bl, zv_isi_dict_int, zv_isi_dict_str, zv_isi_dict_tup, zv_isi_dict_lst, zv_isi_dict_dct, zv_lt_ii, zv_le_ii, zv_gt_ii, zv_ge_ii, zv_eq, zv_ne, zv_is_non, zv_isnot_non, zv_is_bl, zv_isnot_bl, zv_is_int, zv_isnot_int, zv_is_str, zv_isnot_str, zv_is_tup, zv_isnot_tup, zv_is_lst, zv_isnot_lst, zv_is_dct, zv_isnot_dct, zv_is_exn, zv_isnot_exn, zv_in_ss, zv_notin_ss, zv_add, zv_sub, zv_len_s, zv_len_l, zv_len_t, zv_len_r, zv_int_i, zv_int_b, zv_list_l, zv_list_t, zv_tuple_l, zv_tuple_t, zv_all, zv_any, zv_sum, zv_max2, zv_min2, zv_abs, zv_repr_n, zv_repr_b, zv_repr_l, zv_repr_t, zv_enum, zv_zip, zv_it_l, zv_it_t, zv_it_s, zv_it_r, zv_ix_l, zv_ix_t, zv_ix_s, zv_sl_l, zv_sl_t, zv_sl_s, zv_me_join, zv_me_lstrip, zv_me_index, zv_me_split, zv_isDct_non, zv_isDct_bl, zv_isDct_int, zv_isDct_str, zv_isDct_tup, zv_isDct_lst, zv_isDct_dct, zv_isMut_non, zv_isMut_bl, zv_isMut_int, zv_isMut_str, zv_isMut_tup, zv_isMut_lst, zv_isMut_dct, zv_eq_ii, zv_eq_ss, zv_eq_bb, zv_eq_nn, zv_eq_nbl, zv_eq_bln, zv_eq_nint, zv_eq_intn, zv_eq_nstr, zv_eq_strn, zv_eq_is, zv_eq_si, appG_e, extG_e, popG_e, zv_mul, zv_mod, zv_fdiv, zv_adds, zv_mull, zv_addl, zv_addt, zv_pow, zv_repr_i, zv_range, zv_range2, zv_lstrip, zv_muls, o2]
    (first | with_reducible refine trx_bB0 tr_given (by decide) ?_ | with_reducible refine trx_bBM tr_given (by decide) ?_ | with_reducible refine trx_bBN tr_given (by decide) ?_ | with_reducible refine trx_bR0 tr_given (by decide) ?_ | with_reducible refine trx_bRM tr_given (by decide) ?_ | with_reducible refine trx_bRN tr_given (by decide) ?_ | with_reducible refine trx_bF0 tr_given (by decide) ?_ | with_reducible refine trx_bFM tr_given (by decide) ?_ | with_reducible refine trx_bFN tr_given (by decide) ?_ | with_reducible refine trx_bX tr_given (by decide) ?_ | with_reducible refine trx_pB0 tr_given (by decide) ?_ | with_reducible refine trx_pBM tr_given (by decide) ?_ | with_reducible refine trx_pBN tr_given (by decide) ?_ | with_reducible refine trx_pR0 tr_given (by decide) ?_ | with_reducible refine trx_pRM tr_given (by decide) ?_ | with_reducible refine trx_pRN tr_given (by decide) ?_ | with_reducible refine trx_pF0 tr_given (by decide) ?_ | with_reducible refine trx_pFM tr_given (by decide) ?_ | with_reducible refine trx_pFN tr_given (by decide) ?_ | with_reducible refine trx_pX tr_given (by decide) ?_ | with_reducible refine trx_oM tr_given (by decide) ?_ | with_reducible refine trx_oN tr_given (by decide) ?_ | with_reducible refine trx_q tr_given (by decide) ?_ | with_reducible refine trx_z tr_given (by decide) ?_)
    rintro _ ⟨i2, rfl, h2⟩
    simp -implicitDefEqProofs (disch := first | assumption | omega | (simp only [len_app, size_line, one_len, List.length_append, List.length_cons, List.length_nil, List.length_map]; omega)) only [ret_bnd, stk_bnd, bnd_bnd, ofO_some, ofO_none, bnd_if, nox_ret, nox_if, ofO_if, getS_0, getS_s, ev_c, ev_v, ev_bin, ev_neg, ev_not, ev_cmp, ev_chn, ev_and, ev_or, ev_ite, ev_ix, ev_sl00, ev_sl10, ev_sl01, ev_sl11, intM_i, ev_rev, ev_tup, ev_lst, ev_dct, ev_call, ev_bi, ev_isi, ev_me, ev_get, ev_lc, evs_0, evs_1, evB_ret, evBR_ret, evBF_ret, evB_if, evBR_if, evBF_if, flp_0, offs_0, flp_int, flp_bl, flp_str, flp_non, flp_lst, flp_dct, offs_c, vars, varss, List.mem_cons, List.mem_append, List.not_mem_nil, or_false, false_or, or_self, or_true, true_or, Nat.reduceEqDiff, decide_true, decide_false, isL_l, ownL_d, appF_d, setF_d, setG_e, setH_e, retF_d, retG_t, retG_f, eq_self, ex_pass, ex_brk, ex_cnt, ex_ret, ex_retn, ex_retv, ex_retc, ex_set, ex_own, ex_par, ex_app, ex_seti, ex_bad, ex_ext, ex_pop, extF_d, popF_d, ex_ex, ex_ite, ex_forR, ex_for, exs_0, exs_1, seqF_n, seqF_r, seqF_rn, seqF_b, seqF_c, tbl_nm, tbl_tp, tgs, tgss, asg_nm, asg_tp, asgs_0, asgs_1, ownF_l, ownF_n, parF_e, ev_mk, ev_isc, ev_fld, ex_raise, ex_tryk, raiseF_e, tryF_n, tryF_r, tryF_rn, tryF_x, seqF_x, thr_bnd, evB_thr, evBR_thr, evBF_thr, outM_exc, outM_ret, outM_retn, outM_retif, outM_nxt, outM_if, outMN_retn, outMN_nxt, ini_1, ini_0, ifD_t, ifD_f, ifD_b, if_and, if_or, notD_b, negD_i, revD_l, runZ_0, runN_0, runZ_1, runN_1, runZ_2, runN_2, runZ_3, runN_3, runZ_4, runN_4, runZ_5, runN_5, runZ_6, runN_6, runZ_7, runN_7, runZ_8, runN_8, List.replicate_succ, List.replicate_zero, reduceIte, ite_true, ite_false, Bool.not_true, Bool.not_false, Bool.true_and, Bool.false_and, Bool.and_true, Bool.and_false, Bool.false_eq_true, List.set_cons_zero, List.set_cons_succ, Option.bind_some, k_law_signs_law_draw, k_law_given_law_draw, k_law_law_begun, k_law_law_signs, k_law_law_given, k_law_law_made, k_law_law_classes, zv_isi_int_non, zv_isi_int_bl, zv_isi_int_int, zv_isi_int_str, zv_isi_int_tup, zv_isi_int_lst, zv_isi_int_dct, zv_isi_bool_non, zv_isi_bool_bl, zv_isi_bool_int, zv_isi_bool_str, zv_isi_bool_tup, zv_isi_bool_lst, zv_isi_bool_dct, zv_isi_str_non, zv_isi_str_bl, zv_isi_str_int, zv_isi_str_str, zv_isi_str_tup, zv_isi_str_lst, zv_isi_str_dct, zv_isi_tuple_non, zv_isi_tuple_bl, zv_isi_tuple_int, zv_isi_tuple_str, zv_isi_tuple_tup, zv_isi_tuple_lst, zv_isi_tuple_dct, zv_isi_list_non, zv_isi_list_bl, zv_isi_list_int, zv_isi_list_str, zv_isi_list_tup, zv_isi_list_lst, zv_isi_list_dct, zv_isi_dict_non, zv_isi_dict_bl, zv_isi_dict_int, zv_isi_dict_str, zv_isi_dict_tup, zv_isi_dict_lst, zv_isi_dict_dct, zv_lt_ii, zv_le_ii, zv_gt_ii, zv_ge_ii, zv_eq, zv_ne, zv_is_non, zv_isnot_non, zv_is_bl, zv_isnot_bl, zv_is_int, zv_isnot_int, zv_is_str, zv_isnot_str, zv_is_tup, zv_isnot_tup, zv_is_lst, zv_isnot_lst, zv_is_dct, zv_isnot_dct, zv_is_exn, zv_isnot_exn, zv_in_ss, zv_notin_ss, zv_add, zv_sub, zv_len_s, zv_len_l, zv_len_t, zv_len_r, zv_int_i, zv_int_b, zv_list_l, zv_list_t, zv_tuple_l, zv_tuple_t, zv_all, zv_any, zv_sum, zv_max2, zv_min2, zv_abs, zv_repr_n, zv_repr_b, zv_repr_l, zv_repr_t, zv_enum, zv_zip, zv_it_l, zv_it_t, zv_it_s, zv_it_r, zv_ix_l, zv_ix_t, zv_ix_s, zv_sl_l, zv_sl_t, zv_sl_s, zv_me_join, zv_me_lstrip, zv_me_index, zv_me_split, zv_isDct_non, zv_isDct_bl, zv_isDct_int, zv_isDct_str, zv_isDct_tup, zv_isDct_lst, zv_isDct_dct, zv_isMut_non, zv_isMut_bl, zv_isMut_int, zv_isMut_str, zv_isMut_tup, zv_isMut_lst, zv_isMut_dct, zv_eq_ii, zv_eq_ss, zv_eq_bb, zv_eq_nn, zv_eq_nbl, zv_eq_bln, zv_eq_nint, zv_eq_intn, zv_eq_nstr, zv_eq_strn, zv_eq_is, zv_eq_si, appG_e, extG_e, popG_e, zv_mul, zv_mod, zv_fdiv, zv_adds, zv_mull, zv_addl, zv_addt, zv_pow, zv_repr_i, zv_range, zv_range2, zv_lstrip, zv_muls]
    (first | with_reducible refine trx_bB0 tr_given (by decide) ?_ | with_reducible refine trx_bBM tr_given (by decide) ?_ | with_reducible refine trx_bBN tr_given (by decide) ?_ | with_reducible refine trx_bR0 tr_given (by decide) ?_ | with_reducible refine trx_bRM tr_given (by decide) ?_ | with_reducible refine trx_bRN tr_given (by decide) ?_ | with_reducible refine trx_bF0 tr_given (by decide) ?_ | with_reducible refine trx_bFM tr_given (by decide) ?_ | with_reducible refine trx_bFN tr_given (by decide) ?_ | with_reducible refine trx_bX tr_given (by decide) ?_ | with_reducible refine trx_pB0 tr_given (by decide) ?_ | with_reducible refine trx_pBM tr_given (by decide) ?_ | with_reducible refine trx_pBN tr_given (by decide) ?_ | with_reducible refine trx_pR0 tr_given (by decide) ?_ | with_reducible refine trx_pRM tr_given (by decide) ?_ | with_reducible refine trx_pRN tr_given (by decide) ?_ | with_reducible refine trx_pF0 tr_given (by decide) ?_ | with_reducible refine trx_pFM tr_given (by decide) ?_ | with_reducible refine trx_pFN tr_given (by decide) ?_ | with_reducible refine trx_pX tr_given (by decide) ?_ | with_reducible refine trx_oM tr_given (by decide) ?_ | with_reducible refine trx_oN tr_given (by decide) ?_ | with_reducible refine trx_q tr_given (by decide) ?_ | with_reducible refine trx_z tr_given (by decide) ?_)
    rintro _ ⟨i3, rfl, h3⟩
    have q2 := fun s t a b c d g h i j => turn2 (s := s) (t := t) (a := a) (b := b) (c := c) (d := d) (g := g) (h := h) (i := i) (j := j) (show sm (.int i1) from ⟨_, rfl, h1⟩) (show sm (.int i2) from ⟨_, rfl, h2⟩) (show sm (.int i3) from ⟨_, rfl, h3⟩)
    simp -implicitDefEqProofs (disch := first | assumption | omega | (simp only [len_app, size_line, one_len, List.length_append, List.length_cons, List.length_nil, List.length_map]; omega)) only [ret_bnd, stk_bnd, bnd_bnd, ofO_some, ofO_none, bnd_if, nox_ret, nox_if, ofO_if, getS_0, getS_s, ev_c, ev_v, ev_bin, ev_neg, ev_not, ev_cmp, ev_chn, ev_and, ev_or, ev_ite, ev_ix, ev_sl00, ev_sl10, ev_sl01, ev_sl11, intM_i, ev_rev, ev_tup, ev_lst, ev_dct, ev_call, ev_bi, ev_isi, ev_me, ev_get, ev_lc, evs_0, evs_1, evB_ret, evBR_ret, evBF_ret, evB_if, evBR_if, evBF_if, flp_0, offs_0, flp_int, flp_bl, flp_str, flp_non, flp_lst, flp_dct, offs_c, vars, varss, List.mem_cons, List.mem_append, List.not_mem_nil, or_false, false_or, or_self, or_true, true_or, Nat.reduceEqDiff, decide_true, decide_false, isL_l, ownL_d, appF_d, setF_d, setG_e, setH_e, retF_d, retG_t, retG_f, eq_self, ex_pass, ex_brk, ex_cnt, ex_ret, ex_retn, ex_retv, ex_retc, ex_set, ex_own, ex_par, ex_app, ex_seti, ex_bad, ex_ext, ex_pop, extF_d, popF_d, ex_ex, ex_ite, ex_forR, ex_for, exs_0, exs_1, seqF_n, seqF_r, seqF_rn, seqF_b, seqF_c, tbl_nm, tbl_tp, tgs, tgss, asg_nm, asg_tp, asgs_0, asgs_1, ownF_l, ownF_n, parF_e, ev_mk, ev_isc, ev_fld, ex_raise, ex_tryk, raiseF_e, tryF_n, tryF_r, tryF_rn, tryF_x, seqF_x, thr_bnd, evB_thr, evBR_thr, evBF_thr, outM_exc, outM_ret, outM_retn, outM_retif, outM_nxt, outM_if, outMN_retn, outMN_nxt, ini_1, ini_0, ifD_t, ifD_f, ifD_b, if_and, if_or, notD_b, negD_i, revD_l, runZ_0, runN_0, runZ_1, runN_1, runZ_2, runN_2, runZ_3, runN_3, runZ_4, runN_4, runZ_5, runN_5, runZ_6, runN_6, runZ_7, runN_7, runZ_8, runN_8, List.replicate_succ, List.replicate_zero, reduceIte, ite_true, ite_false, Bool.not_true, Bool.not_false, Bool.true_and, Bool.false_and, Bool.and_true, Bool.and_false, Bool.false_eq_true, List.set_cons_zero, List.set_cons_succ, Option.bind_some, k_law_signs_law_draw, k_law_given_law_draw, k_law_law_begun, k_law_law_signs, k_law_law_given, k_law_law_made, k_law_law_classes, zv_isi_int_non, zv_isi_int_bl, zv_isi_int_int, zv_isi_int_str, zv_isi_int_tup, zv_isi_int_lst, zv_isi_int_dct, zv_isi_bool_non, zv_isi_bool_bl, zv_isi_bool_int, zv_isi_bool_str, zv_isi_bool_tup, zv_isi_bool_lst, zv_isi_bool_dct, zv_isi_str_non, zv_isi_str_bl, zv_isi_str_int, zv_isi_str_str, zv_isi_str_tup, zv_isi_str_lst, zv_isi_str_dct, zv_isi_tuple_non, zv_isi_tuple_bl, zv_isi_tuple_int, zv_isi_tuple_str, zv_isi_tuple_tup, zv_isi_tuple_lst, zv_isi_tuple_dct, zv_isi_list_non, zv_isi_list_bl, zv_isi_list_int, zv_isi_list_str, zv_isi_list_tup, zv_isi_list_lst, zv_isi_list_dct, zv_isi_dict_non, zv_isi_dict_bl, zv_isi_dict_int, zv_isi_dict_str, zv_isi_dict_tup, zv_isi_dict_lst, zv_isi_dict_dct, zv_lt_ii, zv_le_ii, zv_gt_ii, zv_ge_ii, zv_eq, zv_ne, zv_is_non, zv_isnot_non, zv_is_bl, zv_isnot_bl, zv_is_int, zv_isnot_int, zv_is_str, zv_isnot_str, zv_is_tup, zv_isnot_tup, zv_is_lst, zv_isnot_lst, zv_is_dct, zv_isnot_dct, zv_is_exn, zv_isnot_exn, zv_in_ss, zv_notin_ss, zv_add, zv_sub, zv_len_s, zv_len_l, zv_len_t, zv_len_r, zv_int_i, zv_int_b, zv_list_l, zv_list_t, zv_tuple_l, zv_tuple_t, zv_all, zv_any, zv_sum, zv_max2, zv_min2, zv_abs, zv_repr_n, zv_repr_b, zv_repr_l, zv_repr_t, zv_enum, zv_zip, zv_it_l, zv_it_t, zv_it_s, zv_it_r, zv_ix_l, zv_ix_t, zv_ix_s, zv_sl_l, zv_sl_t, zv_sl_s, zv_me_join, zv_me_lstrip, zv_me_index, zv_me_split, zv_isDct_non, zv_isDct_bl, zv_isDct_int, zv_isDct_str, zv_isDct_tup, zv_isDct_lst, zv_isDct_dct, zv_isMut_non, zv_isMut_bl, zv_isMut_int, zv_isMut_str, zv_isMut_tup, zv_isMut_lst, zv_isMut_dct, zv_eq_ii, zv_eq_ss, zv_eq_bb, zv_eq_nn, zv_eq_nbl, zv_eq_bln, zv_eq_nint, zv_eq_intn, zv_eq_nstr, zv_eq_strn, zv_eq_is, zv_eq_si, appG_e, extG_e, popG_e, zv_mul, zv_mod, zv_fdiv, zv_adds, zv_mull, zv_addl, zv_addt, zv_pow, zv_repr_i, zv_range, zv_range2, zv_lstrip, zv_muls, o3, turn, ho, q2]
    exact tr_rt ⟨_, _, rfl, _, _, _, _, _, _, _, _, _, _, _, _, _, _, rfl, .inr rfl⟩
  · rintro _ ⟨r, o, rfl, a, b, c, e, f, g, h, i, j, k, l, m, n, q, rfl, ho⟩
    simp -implicitDefEqProofs (disch := first | assumption | omega | (simp only [len_app, size_line, one_len, List.length_append, List.length_cons, List.length_nil, List.length_map]; omega)) only [ret_bnd, stk_bnd, bnd_bnd, ofO_some, ofO_none, bnd_if, nox_ret, nox_if, ofO_if, getS_0, getS_s, ev_c, ev_v, ev_bin, ev_neg, ev_not, ev_cmp, ev_chn, ev_and, ev_or, ev_ite, ev_ix, ev_sl00, ev_sl10, ev_sl01, ev_sl11, intM_i, ev_rev, ev_tup, ev_lst, ev_dct, ev_call, ev_bi, ev_isi, ev_me, ev_get, ev_lc, evs_0, evs_1, evB_ret, evBR_ret, evBF_ret, evB_if, evBR_if, evBF_if, flp_0, offs_0, flp_int, flp_bl, flp_str, flp_non, flp_lst, flp_dct, offs_c, vars, varss, List.mem_cons, List.mem_append, List.not_mem_nil, or_false, false_or, or_self, or_true, true_or, Nat.reduceEqDiff, decide_true, decide_false, isL_l, ownL_d, appF_d, setF_d, setG_e, setH_e, retF_d, retG_t, retG_f, eq_self, ex_pass, ex_brk, ex_cnt, ex_ret, ex_retn, ex_retv, ex_retc, ex_set, ex_own, ex_par, ex_app, ex_seti, ex_bad, ex_ext, ex_pop, extF_d, popF_d, ex_ex, ex_ite, ex_forR, ex_for, exs_0, exs_1, seqF_n, seqF_r, seqF_rn, seqF_b, seqF_c, tbl_nm, tbl_tp, tgs, tgss, asg_nm, asg_tp, asgs_0, asgs_1, ownF_l, ownF_n, parF_e, ev_mk, ev_isc, ev_fld, ex_raise, ex_tryk, raiseF_e, tryF_n, tryF_r, tryF_rn, tryF_x, seqF_x, thr_bnd, evB_thr, evBR_thr, evBF_thr, outM_exc, outM_ret, outM_retn, outM_retif, outM_nxt, outM_if, outMN_retn, outMN_nxt, ini_1, ini_0, ifD_t, ifD_f, ifD_b, if_and, if_or, notD_b, negD_i, revD_l, runZ_0, runN_0, runZ_1, runN_1, runZ_2, runN_2, runZ_3, runN_3, runZ_4, runN_4, runZ_5, runN_5, runZ_6, runN_6, runZ_7, runN_7, runZ_8, runN_8, List.replicate_succ, List.replicate_zero, reduceIte, ite_true, ite_false, Bool.not_true, Bool.not_false, Bool.true_and, Bool.false_and, Bool.and_true, Bool.and_false, Bool.false_eq_true, List.set_cons_zero, List.set_cons_succ, Option.bind_some, k_law_signs_law_draw, k_law_given_law_draw, k_law_law_begun, k_law_law_signs, k_law_law_given, k_law_law_made, k_law_law_classes, zv_isi_int_non, zv_isi_int_bl, zv_isi_int_int, zv_isi_int_str, zv_isi_int_tup, zv_isi_int_lst, zv_isi_int_dct, zv_isi_bool_non, zv_isi_bool_bl, zv_isi_bool_int, zv_isi_bool_str, zv_isi_bool_tup, zv_isi_bool_lst, zv_isi_bool_dct, zv_isi_str_non, zv_isi_str_bl, zv_isi_str_int, zv_isi_str_str, zv_isi_str_tup, zv_isi_str_lst, zv_isi_str_dct, zv_isi_tuple_non, zv_isi_tuple_bl, zv_isi_tuple_int, zv_isi_tuple_str, zv_isi_tuple_tup, zv_isi_tuple_lst, zv_isi_tuple_dct, zv_isi_list_non, zv_isi_list_bl, zv_isi_list_int, zv_isi_list_str, zv_isi_list_tup, zv_isi_list_lst, zv_isi_list_dct, zv_isi_dict_non, zv_isi_dict_bl, zv_isi_dict_int, zv_isi_dict_str, zv_isi_dict_tup, zv_isi_dict_lst, zv_isi_dict_dct, zv_lt_ii, zv_le_ii, zv_gt_ii, zv_ge_ii, zv_eq, zv_ne, zv_is_non, zv_isnot_non, zv_is_bl, zv_isnot_bl, zv_is_int, zv_isnot_int, zv_is_str, zv_isnot_str, zv_is_tup, zv_isnot_tup, zv_is_lst, zv_isnot_lst, zv_is_dct, zv_isnot_dct, zv_is_exn, zv_isnot_exn, zv_in_ss, zv_notin_ss, zv_add, zv_sub, zv_len_s, zv_len_l, zv_len_t, zv_len_r, zv_int_i, zv_int_b, zv_list_l, zv_list_t, zv_tuple_l, zv_tuple_t, zv_all, zv_any, zv_sum, zv_max2, zv_min2, zv_abs, zv_repr_n, zv_repr_b, zv_repr_l, zv_repr_t, zv_enum, zv_zip, zv_it_l, zv_it_t, zv_it_s, zv_it_r, zv_ix_l, zv_ix_t, zv_ix_s, zv_sl_l, zv_sl_t, zv_sl_s, zv_me_join, zv_me_lstrip, zv_me_index, zv_me_split, zv_isDct_non, zv_isDct_bl, zv_isDct_int, zv_isDct_str, zv_isDct_tup, zv_isDct_lst, zv_isDct_dct, zv_isMut_non, zv_isMut_bl, zv_isMut_int, zv_isMut_str, zv_isMut_tup, zv_isMut_lst, zv_isMut_dct, zv_eq_ii, zv_eq_ss, zv_eq_bb, zv_eq_nn, zv_eq_nbl, zv_eq_bln, zv_eq_nint, zv_eq_intn, zv_eq_nstr, zv_eq_strn, zv_eq_is, zv_eq_si, appG_e, extG_e, popG_e, zv_mul, zv_mod, zv_fdiv, zv_adds, zv_mull, zv_addl, zv_addt, zv_pow, zv_repr_i, zv_range, zv_range2, zv_lstrip, zv_muls, tail]
    exact tr_rt rfl
end L
open PySem PySem.W PySem.Calls PyProof.Rows
theorem PySem.Challenge.cw_liftloft_k85_refusals_made_holds : PySem.Challenge.rw_liftloft_k85_refusals_made.Holds :=
  L.holds L.law_ok
